import PyProof.Rows.All
import Wide.All
import OpenK.AllK
import Wide.FinOn
import HandS.ForMost
import HandS.TupAny
import HandS.TupMul
import HandS.Wide
import HandS.SortInts
import HandS.Strs
import HandS.SetFor
import HandS.Deep
import HandS.IsInst
import HandS.Zip
import HandS.Conv
import HandS.Flow
import HandS.Style
import HandS.TupLen
import HandS.CallLocal
import HandS.Exc
import HandS.ExcOwn
import HandS.ExcIs
import HandS.WordsExc
import HandS.Lambda
import HandS.EndOwn
import HandS.WideMore
import HandS.TupLe
import HandS.NoneIn
import KE.KDictKeyed
import KE.KeyNested
import KE.DataMinMax
import HandS.Ends
import HandS.TupSets
import HandS.NamedTupSort
import KE.KDictCopyH
import KE.SortData
import KE.KSortedM
import KE.GoesEnum
import HandS.SortKw
import KE.SortKeyHeap
import KE.OsSortAny
import PyProof.ReprRoads
import KE.KSortKey
import KE.KDictList
import KE.KDictWalk
import PySem.Challenge.RW_flankturns_k45_known_turns
set_option Elab.async false
set_option linter.all false
set_option maxRecDepth 100000
set_option maxHeartbeats 4000000
namespace Pyx
open PySem L2

inductive PV where
  | non | bl (b : Bool) | int (i : Int) | str (s : Str) | tup (xs : List PV) | ref (i : Nat) | fn (k : Nat)
  deriving Inhabited
inductive PO where
  | lst (xs : List PV) | fz (xs : List PV) | set (xs : List Int) | dK (kvs : List (Int × PV)) | dT (kvs : List (List Int × PV)) | tb | lT (kvs : List (List Int × PV)) | lK (kvs : List (Int × PV)) | dN (kvs : List (NestedKey × PV)) | ins (cl : Nat) (fs : List (Str × PV)) | setT (ts : List (List Int))
structure PH where
  n : Nat
  os : List PO
def PH.get (h : PH) (i : Nat) : Option PO := match Nat.blt i h.n with
  | true => h.os[h.n - 1 - i]?
  | false => none
def PH.push (h : PH) (o : PO) : PH := ⟨h.n + 1, o :: h.os⟩
def PH.set (h : PH) (i : Nat) (o : PO) : PH := ⟨h.n, h.os.set (h.n - 1 - i) o⟩

inductive R (α : Type) where
  | ok (a : α) (h : PH) | stuck
abbrev PSt := List (Option PV)

inductive Bop where | add | sub | mul | fdiv | mod | pow
inductive Cop where | eq | ne | lt | le | gt | ge | is | nis
inductive Bi where | len | min | max | sum | sorted | list | tuple | int | set | abs | dict
inductive Ty where | int | bool | str | tuple | list
inductive Mt where | append | pop | count | index
inductive CT where
  | nm (i : Nat) | tup (ts : List CT)
mutual
inductive CE where
  | stuck | var (i : Nat) | val (v : PV) | bin (op : Bop) (a b : CE) | neg (a : CE)
  | cmp (op : Cop) (a b : CE) | chain (o1 o2 : Cop) (a b c : CE) | isin (neg : Bool) (a b : CE)
  | and (a b : CE) | or (a b : CE) | not (a : CE) | ite (t : CB) (a b : CE)
  | tup (es : List CE) | lst (es : List CE)
  | call (k : Nat) (es : List CE) | bi (b : Bi) (es : List CE) | isi (a : CE) (t : Ty) | isis (a : CE) (t u : Ty)
  | mt (m : Mt) (o : CE) (es : List CE) | ix (a b : CE) | sl (a : CE) (lo hi : Option CE)
  | lc (it : CI) (tg : CT) (vs : List Nat) (ifs : Option CB) (elt : CE)
  | lrg (a b : CE)
  | lrg1 (b : CE) | lc2 (it : CI) (tg : CT) (it1 : CI) (tg1 : CT) (vs vs1 : List Nat) (elt : CE)
  | callv (i : Nat) (es : List CE) | rev (a : CE) | dnew (t : Bool) | disp (ks vs : List CE)
  | lam (b xe : CE) (hs : List (Nat × PV)) (aft : Option Bool)
  | get2 (d k x : CE) | dispT (k v : CE) | isE (a : CE) | trg (b : CE) | trg3 (a b d : CE) | skeys (a : CE) | lockE (i : Nat) (e : CE) | lk (a : CE) | vals (a : CE) | dnewN
  | skeysS (a : CE) | mk0 (cl : Nat)
  | fld (a : CE) (f : Str) | mk (cl k : Nat) (es : List CE) | meth (tab : List (Nat × Nat)) (m : Str) (o : CE) (es : List CE)
inductive CB where
  | val (e : CE) | bl (e : CE) | not (b : CB) | and (a b : CB) | or (a b : CB)
inductive CI where
  | over (e : CE) | rng1 (e : CE) | rng2 (a b : CE) | enum (e : CE) | zip (a b : CE) | zip3 (a b d : CE) | keys (e : CE)
end
inductive CS where
  | stuck | pass | expr (e : CE) | asg (t : CT) (e : CE) | par (i j : Nat) (a b : CE) | par3 (i j l : Nat) (a b d : CE)
  | setix (o i e : CE) | augn (i : Nat) (op : Bop) (e : CE)
  | augix (o i : CE) (op : Bop) (e : CE)
  | ret (e : CE) | retN | ite (b : CB) (t u : List CS) | while (b : CB) (t : List CS) | for (t : CT) (it : CI) (b : List CS) | brk | cont
  | tryx (b : CS) (xe : CE) (j : Nat) (tgt : Option Nat) (hs : List (Nat × PV)) | lock (i : Nat) (s : CS)
  | setfld (o : CE) (f : Str) (e : CE)
  | asgF (i : Nat) (ts : List (Nat ⊕ Str)) (e : CE)

def truth (v : PV) (h : PH) : Option Bool := match v with
  | .non => some false
  | .bl b => some b
  | .int i => some (i != 0)
  | .tup xs => some (!xs.isEmpty)
  | .ref i => match h.get i with
    | some (.lst xs) => some (!xs.isEmpty)
    | some (.fz xs) => some (!xs.isEmpty)
    | _ => none
  | _ => none
def seqL (v : PV) (h : PH) : Option (List PV) := match v with
  | .ref i => match h.get i with
    | some (.lst xs) => some xs
    | some (.fz xs) => some xs
    | _ => none
  | _ => none
def seqOf (v : PV) (h : PH) : Option (List PV) := match v with
  | .tup xs => some xs
  | .ref i => match h.get i with
    | some (.lst xs) => some xs
    | some (.fz xs) => some xs
    | _ => none
  | _ => none
def toDs (f : PV → Option PyData) : List PV → Option (List PyData)
  | [] => some []
  | x :: r => match f x with
    | none => none
    | some d => match toDs f r with
      | none => none
      | some ds => some (d :: ds)
def toD : Nat → PH → PV → Option PyData
  | 0, _, _ => none
  | n + 1, h, v => match v with
    | .non => some .none
    | .bl b => some (.bool b)
    | .int i => some (.int i)
    | .str s => some (.str s)
    | .tup xs => match toDs (toD n h) xs with
      | some ds => some (.tuple ds)
      | none => none
    | .ref i => match h.get i with
      | some (.lst xs) => match toDs (toD n h) xs with
        | some ds => some (.list ds)
        | none => none
      | some (.fz xs) => match toDs (toD n h) xs with
        | some ds => some (.list ds)
        | none => none
      | _ => none
    | .fn _ => none
def toDat (h : PH) (v : PV) : Option PyData := match toD 20 h v with
  | some d => match SeqAt.shaped d with
    | true => some d
    | false => none
  | none => none
def eqP (h : PH) (v w : PV) : Option Bool := match toDat h v with
  | some d => match toDat h w with
    | some e => some (PyData.eqv d e)
    | none => none
  | none => none
def int2 (g : Int → Int → Bool) : PV → PV → Option Bool
  | .int i, .int j => some (g i j)
  | _, _ => none
def isNo : PV → Option Bool
  | .non => some true
  | .fn _ => none
  | _ => some false
def isP (v w : PV) : Option Bool := match w with
  | .non => isNo v
  | .bl b => match v with
    | .bl a => some (decide (a = b))
    | _ => none
  | _ => none
def negO : Option Bool → Option Bool
  | some k => some (!k)
  | none => none
def intsP : List PV → Option (List Int)
  | [] => some []
  | .int i :: r => match intsP r with
    | some is => some (i :: is)
    | none => none
  | _ :: _ => none
def ltT (xs ys : List PV) : Option Bool := match intsP xs with
  | some ns => match intsP ys with
    | some ms => some (HT.lexLt ns ms)
    | none => none
  | none => none
def ltP (v w : PV) : Option Bool := match v, w with
  | .int i, .int j => some (decide (i < j))
  | .tup xs, .tup ys => ltT xs ys
  | _, _ => none
def leP (v w : PV) : Option Bool := match v, w with
  | .int i, .int j => some (decide (i ≤ j))
  | .tup xs, .tup ys => negO (ltT ys xs)
  | _, _ => none
def gtP (v w : PV) : Option Bool := match v, w with
  | .int i, .int j => some (decide (j < i))
  | .tup xs, .tup ys => ltT ys xs
  | _, _ => none
def cmpP (op : Cop) (v w : PV) (h : PH) : Option Bool := match op with
  | .eq => eqP h v w
  | .ne => negO (eqP h v w)
  | .is => isP v w
  | .nis => negO (isP v w)
  | .lt => ltP v w
  | .le => leP v w
  | .gt => gtP v w
  | .ge => int2 (fun i j => decide (j ≤ i)) v w
def flatP : PV → Bool
  | .non => true
  | .bl _ => true
  | .int _ => true
  | .str _ => true
  | _ => false
def eqF : PV → PV → Bool
  | .non, .non => true
  | .bl a, .bl b => a == b
  | .bl a, .int b => (if a then 1 else 0) == b
  | .int a, .bl b => a == (if b then 1 else 0)
  | .int a, .int b => a == b
  | .str a, .str b => a == b
  | _, _ => false
def valG {κ : Type} [DecidableEq κ] (k : κ) : List (κ × PV) → Option PV
  | [] => none
  | p :: r => match decide (p.1 = k) with
    | true => some p.2
    | false => valG k r
def putG {κ : Type} [DecidableEq κ] (k : κ) (v : PV) : List (κ × PV) → List (κ × PV)
  | [] => [(k, v)]
  | p :: r => match decide (p.1 = k) with
    | true => (p.1, v) :: r
    | false => p :: putG k v r
def keyT : PV → Option (List Int)
  | .tup xs => intsP xs
  | _ => none
mutual
def nkO : PV → Option NestedKey
  | .non => some .none
  | .bl b => some (.num (if b = true then 1 else 0))
  | .int i => some (.num i)
  | .str s => some (.text s)
  | .tup xs => match nkA xs with
    | some ks => some (.tup ks)
    | none => none
  | .ref _ => none
  | .fn _ => none
def nkA : List PV → Option (List NestedKey)
  | [] => some []
  | x :: r => match nkO x with
    | some k => match nkA r with
      | some ks => some (k :: ks)
      | none => none
    | none => none
end
abbrev PK := Option Int × Int
def pkOf : NestedKey → Option PK
  | .tup [.none, .num j] => some (none, j)
  | .tup [.num i, .num j] => some (some i, j)
  | _ => none
def pkV (q : PK) : PV := match q.1 with
  | none => .tup [.non, .int q.2]
  | some i => .tup [.int i, .int q.2]
def exactP : PV → Bool
  | .tup [.non, .int _] => true
  | .tup [.int _, .int _] => true
  | _ => false
def okPk (w : PV) (k : NestedKey) : Bool := match pkOf k with
  | some _ => exactP w
  | none => true
def keyN (v : PV) : Option NestedKey := match v with
  | .tup _ => match nkO v with
    | some k => match Nat.ble k.depth 8 with
      | true => some k
      | false => none
    | none => none
  | _ => none
def dLook (d w : PV) (h : PH) : Option (Option PV) := match d with
  | .ref i => match h.get i with
    | some (.dK kvs) => match w with
      | .int k => some (valG k kvs)
      | _ => none
    | some (.dT kvs) => match keyT w with
      | some k => some (valG k kvs)
      | none => none
    | some (.lT kvs) => match keyT w with
      | some k => some (valG k kvs)
      | none => none
    | some (.lK kvs) => match w with
      | .int k => some (valG k kvs)
      | _ => none
    | some (.dN kvs) => match keyN w with
      | some k => some (valG k kvs)
      | none => none
    | _ => none
  | _ => none
def dGetP (d w : PV) (h : PH) : Option PV := match dLook d w h with
  | some (some v) => some v
  | _ => none
def dInP (d w : PV) (h : PH) : Option Bool := match dLook d w h with
  | some o => some o.isSome
  | none => none
def dPutP (d w v : PV) (h : PH) : Option PH := match d with
  | .ref i => match h.get i with
    | some (.dK kvs) => match w, Nat.ble kvs.length 100000 with
      | .int k, true => some (h.set i (.dK (putG k v kvs)))
      | _, _ => none
    | some (.dT kvs) => match keyT w, Nat.ble kvs.length 100000 with
      | some k, true => some (h.set i (.dT (putG k v kvs)))
      | _, _ => none
    | some (.dN kvs) => match keyN w, Nat.ble kvs.length 4000000 with
      | some k, true => match okPk w k with
        | true => some (h.set i (.dN (putG k v kvs)))
        | false => none
      | _, _ => none
    | _ => none
  | _ => none
def dLen (d : PV) (h : PH) : Option Nat := match d with
  | .ref i => match h.get i with
    | some (.dK kvs) => match Nat.ble kvs.length 100000 with
      | true => some kvs.length
      | false => none
    | some (.dT kvs) => match Nat.ble kvs.length 100000 with
      | true => some kvs.length
      | false => none
    | _ => none
  | _ => none
def inD (v w : PV) (h : PH) : Option Bool := match toDat h v with
  | some d => match toDat h w with
    | some (.list ds) => some (ds.any fun z => PyData.eqv z d)
    | some (.tuple ds) => some (ds.any fun z => PyData.eqv z d)
    | _ => none
  | none => none
def inP (v w : PV) (h : PH) : Option Bool := match seqOf w h with
  | some xs => match flatP v && xs.all flatP with
    | true => some (xs.any fun y => eqF y v)
    | false => inD v w h
  | none => dInP w v h
def small {α : Type} (xs : List α) : Bool := Nat.ble xs.length 100000
def wide (i : Int) : Bool := decide (-18446744073709551616 < i) && decide (i < 18446744073709551616)
def cutP {α : Type} (xs : List α) (lo hi : Option Int) : List α := (xs.drop (HT.sIx xs.length 0 lo)).take (HT.sIx xs.length xs.length hi - HT.sIx xs.length 0 lo)
def okT (xs : List PV) (h : PH) : R PV := match small xs with
  | true => .ok (.tup xs) h
  | false => .stuck
def okL (xs : List PV) (h : PH) : R PV := match small xs with
  | true => .ok (.ref h.n) (h.push (.lst xs))
  | false => .stuck
def okO {α : Type} (o : Option α) (h : PH) : R α := match o with
  | some v => .ok v h
  | none => .stuck
def lstAt (v : PV) (h : PH) : Option (Nat × List PV) := match v with
  | .ref i => match h.get i with
    | some (.lst xs) => some (i, xs)
    | _ => none
  | _ => none
def binP (op : Bop) (v w : PV) (h : PH) : R PV := match op, v, w with
  | .add, .int i, .int j => .ok (.int (i + j)) h
  | .sub, .int i, .int j => .ok (.int (i - j)) h
  | .mul, .int i, .int j => match wide i || wide j || Nat.blt (i.natAbs.log2 + j.natAbs.log2) 1000000 with
    | true => .ok (.int (i * j)) h
    | false => .stuck
  | .fdiv, .int i, .int j => match decide (0 < j) && (decide (j < 1073741824) || Nat.blt j.natAbs.log2 9000) with
    | true => .ok (.int (i / j)) h
    | false => .stuck
  | .mod, .int i, .int j => match decide (0 < j) with
    | true => .ok (.int (i % j)) h
    | false => .stuck
  | .pow, .int i, .int j => match decide (0 ≤ j) && decide (j ≤ 1000000) && Nat.blt i.natAbs 18446744073709551616 with
    | true => .ok (.int (i ^ j.toNat)) h
    | false => .stuck
  | .add, .tup xs, .tup ys => okT (xs ++ ys) h
  | .add, .ref i, .ref j => match lstAt (.ref i) h, lstAt (.ref j) h with
    | some (_, xs), some (_, ys) => okL (xs ++ ys) h
    | _, _ => .stuck
  | .mul, .tup xs, .int k => match decide (k = 1) with
    | true => .ok (.tup xs) h
    | false => match decide (2 ≤ k) && decide (k ≤ 1000) && Nat.ble xs.length 1000 && !xs.isEmpty with
      | true => okT (List.replicate k.toNat xs).flatten h
      | false => match decide (-1000 ≤ k) && decide (k ≤ 0) && !xs.isEmpty with
        | true => okT [] h
        | false => .stuck
  | .mul, .ref i, .int k => match lstAt (.ref i) h, decide (0 ≤ k) && decide (k ≤ 1000) with
    | some (_, xs), true => match Nat.ble xs.length 1000 with
      | true => okL (List.replicate k.toNat xs).flatten h
      | false => .stuck
    | _, _ => .stuck
  | _, _, _ => .stuck
def insI (x : Int) : List Int → List Int
  | [] => [x]
  | y :: r => match decide (x ≤ y) with
    | true => x :: y :: r
    | false => y :: insI x r
def sortI : List Int → List Int
  | [] => []
  | x :: r => insI x (sortI r)
def tupsP : List PV → Option (List (List Int))
  | [] => some []
  | .tup xs :: r => match intsP xs with
    | some (i :: is) => match tupsP r with
      | some ts => some ((i :: is) :: ts)
      | none => none
    | _ => none
  | _ :: _ => none
def tup0P : List PV → Option (List (List Int))
  | [] => some []
  | .tup xs :: r => match intsP xs with
    | some is => match tup0P r with
      | some ts => some (is :: ts)
      | none => none
    | none => none
  | _ :: _ => none
def dedT : List (List Int) → List (List Int)
  | [] => []
  | x :: r => match r.contains x with
    | true => dedT r
    | false => x :: dedT r
def insT (x : List Int) : List (List Int) → List (List Int)
  | [] => [x]
  | y :: r => match HT.lexLt y x with
    | true => y :: insT x r
    | false => x :: y :: r
def sortT : List (List Int) → List (List Int)
  | [] => []
  | x :: r => insT x (sortT r)
def tupI (t : List Int) : PV := .tup (t.map PV.int)
def maxI : Int → List Int → Int
  | m, [] => m
  | m, x :: r => maxI (match decide (m ≤ x) with | true => x | false => m) r
def minI : Int → List Int → Int
  | m, [] => m
  | m, x :: r => minI (match decide (x ≤ m) with | true => x | false => m) r
def sumI : List Int → Int
  | [] => 0
  | x :: r => x + sumI r
def dedI : List Int → List Int
  | [] => []
  | x :: r => match r.contains x with
    | true => dedI r
    | false => x :: dedI r
def intsOf (v : PV) (h : PH) : Option (List Int) := match seqOf v h with
  | some xs => intsP xs
  | none => none
def intsOfL (v : PV) (h : PH) : Option (List Int) := match seqL v h with
  | some xs => intsP xs
  | none => none
def tupsOfL (v : PV) (h : PH) : Option (List (List Int)) := match seqL v h with
  | some xs => tupsP xs
  | none => none
def setOf (v : PV) (h : PH) : Option (List Int) := match v with
  | .ref i => match h.get i with
    | some (.set xs) => some xs
    | _ => none
  | _ => none
def tup0L (v : PV) (h : PH) : Option (List (List Int)) := match seqL v h with
  | some xs => tup0P xs
  | none => none
def setTOf (v : PV) (h : PH) : Option (List (List Int)) := match v with
  | .ref i => match h.get i with
    | some (.setT ts) => some ts
    | _ => none
  | _ => none
def minTP (xs ys : List PV) (h : PH) : R PV := match toDat h (.tup xs) with
  | some d => match toDat h (.tup ys) with
    | some e => match (PySem.W.alike d d && PySem.W.alike d e) && (PySem.W.alike e d && PySem.W.alike e e) with
      | true => match PySem.W.dataLt e d with
        | true => .ok (.tup ys) h
        | false => .ok (.tup xs) h
      | false => .stuck
    | none => .stuck
  | none => .stuck
def datsP (h : PH) : List PV → Option (List PyData)
  | [] => some []
  | x :: xs => match toDat h x with
    | some d => match datsP h xs with
      | some ds => some (d :: ds)
      | none => none
    | none => none
def notND : PyData → Bool
  | .none => false
  | _ => true
def minPD (p : PV × PyData) (l : List (PV × PyData)) : PV × PyData := l.foldl (fun a y => if PySem.W.dataLt y.2 a.2 then y else a) p
def minLP (v : PV) (h : PH) : R PV := match seqL v h with
  | some (x :: xs) => match datsP h (x :: xs) with
    | some (d :: ds) => match ((d :: ds).all fun a => (d :: ds).all fun b => PySem.W.alike a b) && (d :: ds).all notND with
      | true => .ok (minPD (x, d) (xs.zip ds)).1 h
      | false => .stuck
    | _ => .stuck
  | _ => .stuck
def prsP : List PV → Option (List (Int × PV))
  | [] => some []
  | .tup [.int i, v] :: r => match prsP r with
    | some ps => some ((i, v) :: ps)
    | none => none
  | _ :: _ => none
def mrgP : List (Int × PV) → List (Int × PV) → List (Int × PV)
  | d, [] => d
  | d, p :: r => mrgP (putG p.1 p.2 d) r
def biP (b : Bi) (vs : List PV) (h : PH) : R PV := match b, vs with
  | .len, [v] => match seqOf v h with
    | some xs => .ok (.int xs.length) h
    | none => match dLen v h with
      | some n => .ok (.int n) h
      | none => match setOf v h with
        | some xs => .ok (.int xs.length) h
        | none => .stuck
  | .abs, [.int i] => .ok (.int (if i < 0 then -i else i)) h
  | .min, [.int i, .int j] => .ok (.int (if j < i then j else i)) h
  | .min, [.tup xs, .tup ys] => minTP xs ys h
  | .max, [.int i, .int j] => .ok (.int (if j > i then j else i)) h
  | .min, [v] => match intsOfL v h with
    | some (i :: is) => .ok (.int (minI i is)) h
    | some [] => .stuck
    | none => minLP v h
  | .max, [v] => match intsOf v h with
    | some (i :: is) => .ok (.int (maxI i is)) h
    | _ => .stuck
  | .sum, [v] => match intsOf v h with
    | some is => .ok (.int (sumI is)) h
    | _ => .stuck
  | .sorted, [v] => match setOf v h with
    | some is => match Nat.blt is.length 64 with
      | true => okL ((sortI is).map PV.int) h
      | false => .stuck
    | none => match intsOf v h with
      | some is => okL ((sortI is).map PV.int) h
      | none => match tupsOfL v h with
        | some ts => okL ((sortT ts).map tupI) h
        | none => match setTOf v h with
          | some ts => okL ((sortT ts).map tupI) h
          | none => .stuck
  | .set, [v] => match intsOf v h with
    | some is => match Nat.ble is.length 900 with
      | true => .ok (.ref h.n) (h.push (.set (dedI is)))
      | false => .stuck
    | none => match tup0L v h with
      | some ts => match Nat.ble ts.length 63 with
        | true => .ok (.ref h.n) (h.push (.setT (dedT ts)))
        | false => .stuck
      | none => .stuck
  | .list, [v] => match seqOf v h with
    | some xs => okL xs h
    | none => .stuck
  | .tuple, [v] => match seqOf v h with
    | some xs => okT xs h
    | none => .stuck
  | .dict, [v] => match v with
    | .ref i => match h.get i with
      | some (.dK kvs) => .ok (.ref h.n) (h.push (.dK kvs))
      | some (.lst xs) => match prsP xs with
        | some ps => match Nat.ble ps.length 100000 with
          | true => .ok (.ref h.n) (h.push (.dK (mrgP [] ps)))
          | false => .stuck
        | none => .stuck
      | _ => .stuck
    | _ => .stuck
  | .int, [.int i] => .ok (.int i) h
  | .int, [.bl k] => .ok (.int (if k then 1 else 0)) h
  | _, _ => .stuck
def isTy (v : PV) (h : PH) (t : Ty) : Option Bool := match v with
  | .non => some false
  | .bl _ => match t with | .int => some true | .bool => some true | _ => some false
  | .int _ => match t with | .int => some true | _ => some false
  | .str _ => match t with | .str => some true | _ => some false
  | .tup _ => match t with | .tuple => some true | _ => some false
  | .ref i => match h.get i with
    | some (.lst _) => match t with | .list => some true | _ => some false
    | some (.fz _) => match t with | .list => some true | _ => some false
    | some (.dK _) => some false
    | some (.dT _) => some false
    | _ => none
  | .fn _ => none
def appP (o : PV) (vs : List PV) (h : PH) : R PV := match vs with
  | [v] => match lstAt o h with
    | some (i, xs) => match small xs with
      | true => .ok .non (h.set i (.lst (xs ++ [v])))
      | false => .stuck
    | none => .stuck
  | _ => .stuck
def popP (o : PV) (vs : List PV) (h : PH) : R PV := match vs with
  | [] => match lstAt o h with
    | some (i, xs) => match xs[xs.length - 1]? with
      | some v => .ok v (h.set i (.lst xs.dropLast))
      | none => .stuck
    | none => .stuck
  | _ => .stuck
def cntP (o : PV) (vs : List PV) (h : PH) : R PV := match vs with
  | [.int k] => match intsOfL o h with
    | some is => .ok (.int (is.count k : Nat)) h
    | none => .stuck
  | _ => .stuck
def fdI (k : Int) : List Int → Nat → Option Nat
  | [], _ => none
  | x :: r, i => match decide (x = k) with
    | true => some i
    | false => fdI k r (i + 1)
def fdD (d : PyData) : List PyData → Nat → Option Nat
  | [], _ => none
  | z :: r, i => match PyData.eqv z d with
    | true => some i
    | false => fdD d r (i + 1)
def idxP (o : PV) (vs : List PV) (h : PH) : R PV := match vs with
  | [.int k] => match intsOfL o h with
    | some is => match fdI k is 0 with
      | some i => .ok (.int (i : Nat)) h
      | none => .stuck
    | none => .stuck
  | [v] => match toDat h v with
    | some d => match toDat h o with
      | some (.list ds) => match fdD d ds 0 with
        | some i => .ok (.int (i : Nat)) h
        | none => .stuck
      | _ => .stuck
    | none => .stuck
  | _ => .stuck
def mtP (m : Mt) (o : PV) (vs : List PV) (h : PH) : R PV := match m with
  | .append => appP o vs h
  | .pop => popP o vs h
  | .count => cntP o vs h
  | .index => idxP o vs h
def ixP (v w : PV) (h : PH) : Option PV := match w with
  | .int i => match seqOf v h with
    | some xs => atI xs i
    | none => dGetP v w h
  | _ => dGetP v w h
def slP (v : PV) (lo hi : Option Int) (h : PH) : R PV := match v with
  | .tup xs => okT (cutP xs lo hi) h
  | .ref i => match seqL (.ref i) h with
    | some xs => okL (cutP xs lo hi) h
    | none => .stuck
  | _ => .stuck
def setP (o i v : PV) (h : PH) : Option PH := match i, lstAt o h with
  | .int k, some (a, xs) => match ixN xs.length k with
    | some j => some (h.set a (.lst (xs.set j v)))
    | none => none
  | _, _ => dPutP o i v h

inductive IV where
  | lst (i : Nat) | tup (xs : List PV) | rng (lo : Int) (n : Nat) | enumL (i : Nat) | enumT (xs : List PV) | zipL (i j : Nat) | zipT (xs ys : List PV) | zipT3 (xs ys zs : List PV) | keysT (i : Nat) | keysK (i : Nat)
inductive Nx where
  | stuck | stop | item (v : PV)
def pick : Option PV → Nx
  | some v => .item v
  | none => .stop
def ivN (iv : IV) (k : Nat) (h : PH) : Nx := match iv with
  | .lst i => match seqL (.ref i) h with
    | some xs => pick xs[k]?
    | none => .stuck
  | .tup xs => pick xs[k]?
  | .rng lo n => match Nat.blt k n with
    | true => .item (.int (lo + k))
    | false => .stop
  | .enumL i => match seqL (.ref i) h with
    | some xs => match xs[k]? with
      | some v => .item (.tup [.int k, v])
      | none => .stop
    | none => .stuck
  | .enumT xs => match xs[k]? with
    | some v => .item (.tup [.int k, v])
    | none => .stop
  | .zipL i j => match seqL (.ref i) h, seqL (.ref j) h with
    | some xs, some ys => match xs[k]?, ys[k]? with
      | some x, some y => .item (.tup [x, y])
      | _, _ => .stop
    | _, _ => .stuck
  | .zipT xs ys => match xs[k]?, ys[k]? with
    | some x, some y => .item (.tup [x, y])
    | _, _ => .stop
  | .zipT3 xs ys zs => match xs[k]?, ys[k]?, zs[k]? with
    | some x, some y, some z => .item (.tup [x, y, z])
    | _, _, _ => match Nat.ble k xs.length && (Nat.ble k ys.length && Nat.ble k zs.length) with
      | true => .stop
      | false => .stuck
  | .keysT i => match h.get i with
    | some (.lT kvs) => match kvs[k]? with
      | some p => .item (tupI p.1)
      | none => .stop
    | _ => .stuck
  | .keysK i => match h.get i with
    | some (.lK kvs) => match kvs[k]? with
      | some p => .item (.int p.1)
      | none => .stop
    | _ => .stuck
mutual
def asgT : CT → PV → PSt → Option PSt
  | .nm i, v, st => some (st.set i (some v))
  | .tup ts, v, st => match v with
    | .tup xs => asgTs ts xs st
    | _ => none
def asgTs : List CT → List PV → PSt → Option PSt
  | [], [], st => some st
  | t :: ts, x :: xs, st => match asgT t x st with
    | some st' => asgTs ts xs st'
    | none => none
  | _, _, _ => none
end
def asgL (t : CT) (v : PV) (st : PSt) (h : PH) : Option PSt := match t with
  | .tup ts => match v with
    | .ref i => match seqL (.ref i) h with
      | some xs => asgTs ts xs st
      | none => none
    | _ => none
  | _ => none
def asgA (t : CT) (v : PV) (st : PSt) (h : PH) : Option PSt := match asgT t v st with
  | some s => some s
  | none => asgL t v st h
theorem asgA_of {t : CT} {v : PV} {st st' : PSt} {h : PH} (e : asgT t v st = some st') : asgA t v st h = some st' := by
  unfold asgA
  rw [e]
def wipeP (st : PSt) : List Nat → PSt
  | [] => st
  | v :: vs => (wipeP st vs).set v none

def evL (rec : CE → PSt → PH → R PV) : List CE → PSt → PH → R (List PV)
  | [], _, h => .ok [] h
  | e :: es, st, h => match rec e st h with
    | .stuck => .stuck
    | .ok v h1 => match evL rec es st h1 with
      | .stuck => .stuck
      | .ok vs h2 => .ok (v :: vs) h2
def evO (rec : CE → PSt → PH → R PV) : Option CE → PSt → PH → R (Option Int)
  | none, _, h => .ok none h
  | some e, st, h => match rec e st h with
    | .ok (.int i) h1 => .ok (some i) h1
    | _ => .stuck
def evB (rec : CE → PSt → PH → R PV) : CB → PSt → PH → R Bool
  | .val e, st, h => match rec e st h with
    | .stuck => .stuck
    | .ok v h1 => okO (truth v h1) h1
  | .bl e, st, h => match rec e st h with
    | .ok (.bl k) h1 => .ok k h1
    | _ => .stuck
  | .not b, st, h => match evB rec b st h with
    | .stuck => .stuck
    | .ok k h1 => .ok (!k) h1
  | .and a b, st, h => match evB rec a st h with
    | .stuck => .stuck
    | .ok true h1 => evB rec b st h1
    | .ok false h1 => .ok false h1
  | .or a b, st, h => match evB rec a st h with
    | .stuck => .stuck
    | .ok true h1 => .ok true h1
    | .ok false h1 => evB rec b st h1
def evI (rec : CE → PSt → PH → R PV) (it : CI) (st : PSt) (h : PH) : R IV := match it with
  | .over e => match rec e st h with
    | .ok (.ref i) h1 => match seqL (.ref i) h1 with
      | some _ => .ok (.lst i) h1
      | none => .stuck
    | .ok (.tup xs) h1 => .ok (.tup xs) h1
    | _ => .stuck
  | .keys e => match rec e st h with
    | .ok (.ref i) h1 => match h1.get i with
      | some (.lT _) => .ok (.keysT i) h1
      | some (.lK _) => .ok (.keysK i) h1
      | _ => .stuck
    | _ => .stuck
  | .rng1 e => match rec e st h with
    | .ok (.int j) h1 => match decide (-1000000 ≤ j) && decide (j ≤ 1000000) with
      | true => .ok (.rng 0 j.toNat) h1
      | false => .stuck
    | _ => .stuck
  | .rng2 a b => match rec a st h with
    | .ok (.int i) h1 => match rec b st h1 with
      | .ok (.int j) h2 => match decide (-1000000 ≤ i) && decide (i ≤ 1000000) && decide (-1000000 ≤ j) && decide (j ≤ 1000000) with
        | true => .ok (.rng i (j - i).toNat) h2
        | false => .stuck
      | _ => .stuck
    | _ => .stuck
  | .enum e => match rec e st h with
    | .ok (.ref i) h1 => match seqL (.ref i) h1 with
      | some _ => .ok (.enumL i) h1
      | none => .stuck
    | .ok (.tup xs) h1 => .ok (.enumT xs) h1
    | _ => .stuck
  | .zip a b => match rec a st h with
    | .ok x h1 => match rec b st h1 with
      | .ok y h2 => match x, y with
        | .ref i, .ref j => match seqL (.ref i) h2, seqL (.ref j) h2 with
          | some _, some _ => .ok (.zipL i j) h2
          | _, _ => .stuck
        | .tup xs, .tup ys => .ok (.zipT xs ys) h2
        | _, _ => .stuck
      | _ => .stuck
    | _ => .stuck
  | .zip3 a b d => match rec a st h with
    | .ok x h1 => match rec b st h1 with
      | .ok y h2 => match rec d st h2 with
        | .ok z h3 => match x, y, z with
          | .tup xs, .tup ys, .tup zs => .ok (.zipT3 xs ys zs) h3
          | _, _, _ => .stuck
        | _ => .stuck
      | _ => .stuck
    | _ => .stuck
def evIf (rec : CE → PSt → PH → R PV) : Option CB → PSt → PH → R Bool
  | none, _, h => .ok true h
  | some b, st, h => evB rec b st h
def lcL (rec : CE → PSt → PH → R PV) (iv : IV) (tg : CT) (ifs : Option CB) (elt : CE) (st : PSt) (d : Nat) : Nat → Nat → PH → R Unit
  | 0, _, _ => .stuck
  | m + 1, k, h => match ivN iv k h with
    | .stuck => .stuck
    | .stop => .ok () h
    | .item v => match asgT tg v st with
      | none => .stuck
      | some st1 => match evIf rec ifs st1 h with
        | .stuck => .stuck
        | .ok false h1 => lcL rec iv tg ifs elt st d m (k + 1) h1
        | .ok true h1 => match rec elt st1 h1 with
          | .stuck => .stuck
          | .ok v h2 => match lstAt (.ref d) h2 with
            | some (_, acc) => match small acc with
              | true => lcL rec iv tg ifs elt st d m (k + 1) (h2.set d (.lst (acc ++ [v])))
              | false => .stuck
            | none => .stuck
mutual
def tgIn : CT → List Nat → Bool
  | .nm i, vs => vs.contains i
  | .tup ts, vs => tgsIn ts vs
def tgsIn : List CT → List Nat → Bool
  | [], _ => true
  | t :: ts, vs => tgIn t vs && tgsIn ts vs
end
def eVar (rec : CE → PSt → PH → R PV) (i : Nat) (st : PSt) (h : PH) : R PV := match st[i]? with
  | some (some v) => .ok v h
  | _ => .stuck
def eVal (rec : CE → PSt → PH → R PV) (v : PV) (st : PSt) (h : PH) : R PV := .ok v h
def eBin (rec : CE → PSt → PH → R PV) (op : Bop) (a : CE) (b : CE) (st : PSt) (h : PH) : R PV := match rec a st h with
  | .stuck => .stuck
  | .ok v h1 => match rec b st h1 with
    | .stuck => .stuck
    | .ok w h2 => binP op v w h2
def eNeg (rec : CE → PSt → PH → R PV) (a : CE) (st : PSt) (h : PH) : R PV := match rec a st h with
  | .ok (.int i) h1 => .ok (.int (-i)) h1
  | _ => .stuck
def eCmp (rec : CE → PSt → PH → R PV) (op : Cop) (a : CE) (b : CE) (st : PSt) (h : PH) : R PV := match rec a st h with
  | .stuck => .stuck
  | .ok v h1 => match rec b st h1 with
    | .stuck => .stuck
    | .ok w h2 => match cmpP op v w h2 with
      | some k => .ok (.bl k) h2
      | none => .stuck
def eChain (rec : CE → PSt → PH → R PV) (o1 : Cop) (o2 : Cop) (a : CE) (b : CE) (c : CE) (st : PSt) (h : PH) : R PV := match rec a st h with
  | .stuck => .stuck
  | .ok v h1 => match rec b st h1 with
    | .stuck => .stuck
    | .ok w h2 => match cmpP o1 v w h2 with
      | some true => match rec c st h2 with
        | .stuck => .stuck
        | .ok u h3 => match cmpP o2 w u h3 with
          | some k => .ok (.bl k) h3
          | none => .stuck
      | some false => .ok (.bl false) h2
      | none => .stuck
def eIsin (rec : CE → PSt → PH → R PV) (ng : Bool) (a : CE) (b : CE) (st : PSt) (h : PH) : R PV := match rec a st h with
  | .stuck => .stuck
  | .ok v h1 => match rec b st h1 with
    | .stuck => .stuck
    | .ok w h2 => match inP v w h2 with
      | some k => .ok (.bl (if ng then !k else k)) h2
      | none => .stuck
def eAnd (rec : CE → PSt → PH → R PV) (a : CE) (b : CE) (st : PSt) (h : PH) : R PV := match rec a st h with
  | .ok (.bl true) h1 => rec b st h1
  | .ok (.bl false) h1 => .ok (.bl false) h1
  | _ => .stuck
def eOr (rec : CE → PSt → PH → R PV) (a : CE) (b : CE) (st : PSt) (h : PH) : R PV := match rec a st h with
  | .ok (.bl true) h1 => .ok (.bl true) h1
  | .ok (.bl false) h1 => rec b st h1
  | _ => .stuck
def eNot (rec : CE → PSt → PH → R PV) (a : CE) (st : PSt) (h : PH) : R PV := match rec a st h with
  | .ok (.bl k) h1 => .ok (.bl (!k)) h1
  | _ => .stuck
def eIte (rec : CE → PSt → PH → R PV) (t : CB) (a : CE) (b : CE) (st : PSt) (h : PH) : R PV := match evB rec t st h with
  | .stuck => .stuck
  | .ok true h1 => rec a st h1
  | .ok false h1 => rec b st h1
def eTup (rec : CE → PSt → PH → R PV) (es : List CE) (st : PSt) (h : PH) : R PV := match evL rec es st h with
  | .stuck => .stuck
  | .ok vs h1 => okT vs h1
def eLst (rec : CE → PSt → PH → R PV) (es : List CE) (st : PSt) (h : PH) : R PV := match evL rec es st h with
  | .stuck => .stuck
  | .ok vs h1 => okL vs h1
def eCall (call : Nat → List PV → PH → R PV) (rec : CE → PSt → PH → R PV) (k : Nat) (es : List CE) (st : PSt) (h : PH) : R PV := match evL rec es st h with
  | .stuck => .stuck
  | .ok vs h1 => call k vs h1
def eBi (rec : CE → PSt → PH → R PV) (b : Bi) (es : List CE) (st : PSt) (h : PH) : R PV := match evL rec es st h with
  | .stuck => .stuck
  | .ok vs h1 => biP b vs h1
def eIsi (rec : CE → PSt → PH → R PV) (a : CE) (t : Ty) (st : PSt) (h : PH) : R PV := match rec a st h with
  | .stuck => .stuck
  | .ok v h1 => match isTy v h1 t with
    | some k => .ok (.bl k) h1
    | none => .stuck
def eIsis (rec : CE → PSt → PH → R PV) (a : CE) (t : Ty) (u : Ty) (st : PSt) (h : PH) : R PV := match rec a st h with
  | .stuck => .stuck
  | .ok v h1 => match isTy v h1 t with
    | some true => .ok (.bl true) h1
    | some false => match isTy v h1 u with
      | some k => .ok (.bl k) h1
      | none => .stuck
    | none => .stuck
def eMt (rec : CE → PSt → PH → R PV) (m : Mt) (o : CE) (es : List CE) (st : PSt) (h : PH) : R PV := match rec o st h with
  | .stuck => .stuck
  | .ok v h1 => match seqL v h1 with
    | none => .stuck
    | some _ => match evL rec es st h1 with
      | .stuck => .stuck
      | .ok vs h2 => mtP m v vs h2
def eIx (rec : CE → PSt → PH → R PV) (a : CE) (b : CE) (st : PSt) (h : PH) : R PV := match rec a st h with
  | .stuck => .stuck
  | .ok v h1 => match rec b st h1 with
    | .stuck => .stuck
    | .ok w h2 => okO (ixP v w h2) h2
def eSl (rec : CE → PSt → PH → R PV) (a : CE) (lo : Option CE) (hi : Option CE) (st : PSt) (h : PH) : R PV := match rec a st h with
  | .stuck => .stuck
  | .ok v h1 => match evO rec lo st h1 with
    | .stuck => .stuck
    | .ok l h2 => match evO rec hi st h2 with
      | .stuck => .stuck
      | .ok u h3 => slP v l u h3
def eLc (n : Nat) (rec : CE → PSt → PH → R PV) (it : CI) (tg : CT) (vs : List Nat) (ifs : Option CB) (elt : CE) (st : PSt) (h : PH) : R PV := match tgIn tg vs with
  | false => .stuck
  | true => match evI rec it st h with
    | .stuck => .stuck
    | .ok iv h1 => match lcL rec iv tg ifs elt (wipeP st vs) h1.n n 0 (h1.push (.lst [])) with
      | .stuck => .stuck
      | .ok _ h2 => .ok (.ref h1.n) h2
def lcO (rec : CE → PSt → PH → R PV) (n : Nat) (iv : IV) (tg : CT) (it1 : CI) (tg1 : CT) (vs1 : List Nat) (elt : CE) (st : PSt) (d : Nat) : Nat → Nat → PH → R Unit
  | 0, _, _ => .stuck
  | m + 1, k, h => match ivN iv k h with
    | .stuck => .stuck
    | .stop => .ok () h
    | .item v => match asgT tg v st with
      | none => .stuck
      | some st1 => match evI rec it1 st1 h with
        | .stuck => .stuck
        | .ok iv1 h1 => match lcL rec iv1 tg1 none elt (wipeP st1 vs1) d n 0 h1 with
          | .stuck => .stuck
          | .ok _ h2 => lcO rec n iv tg it1 tg1 vs1 elt st d m (k + 1) h2
def eLc2 (n : Nat) (rec : CE → PSt → PH → R PV) (it : CI) (tg : CT) (it1 : CI) (tg1 : CT) (vs vs1 : List Nat) (elt : CE) (st : PSt) (h : PH) : R PV := match tgIn tg vs && tgIn tg1 vs1 with
  | false => .stuck
  | true => match evI rec it st h with
    | .stuck => .stuck
    | .ok iv h1 => match lcO rec n iv tg it1 tg1 vs1 elt (wipeP st vs) h1.n n 0 (h1.push (.lst [])) with
      | .stuck => .stuck
      | .ok _ h2 => .ok (.ref h1.n) h2
def rgP (i j : Int) : List PV := (List.range (j - i).toNat).map fun k => .int (i + (k : Nat))
def eLrg (rec : CE → PSt → PH → R PV) (a b : CE) (st : PSt) (h : PH) : R PV := match rec a st h with
  | .ok (.int i) h1 => match rec b st h1 with
    | .ok (.int j) h2 => match decide (-1000 ≤ i) && decide (i ≤ 1000) && decide (-1000 ≤ j) && decide (j ≤ 1000) with
      | true => okL (rgP i j) h2
      | false => .stuck
    | _ => .stuck
  | _ => .stuck
def xbig : Nat := 1000000
def eLrg1 (rec : CE → PSt → PH → R PV) (b : CE) (st : PSt) (h : PH) : R PV := match rec b st h with
  | .ok (.int j) h2 => match decide (-1000 ≤ j) && decide (j ≤ 1000) with
    | true => okL (rgP 0 j) h2
    | false => .stuck
  | _ => .stuck
def eTrg (rec : CE → PSt → PH → R PV) (b : CE) (st : PSt) (h : PH) : R PV := match rec b st h with
  | .ok (.int j) h2 => match decide (-1000 ≤ j) && decide (j ≤ 1000) with
    | true => okT (rgP 0 j) h2
    | false => .stuck
  | _ => .stuck
def rgN3 (i j k : Int) : Nat := match decide (i < j) with
  | true => ((j - i - 1) / k + 1).toNat
  | false => 0
def rgP3 (i j k : Int) : List PV := (List.range (rgN3 i j k)).map fun m => .int (i + (m : Nat) * k)
def eTrg3 (rec : CE → PSt → PH → R PV) (a b d : CE) (st : PSt) (h : PH) : R PV := match rec a st h with
  | .ok (.int i) h1 => match rec b st h1 with
    | .ok (.int j) h2 => match rec d st h2 with
      | .ok (.int k) h3 => match (decide (1 ≤ k) && decide (k ≤ 1000)) && ((decide (-1000 ≤ i) && decide (i ≤ 1000)) && (decide (-1000 ≤ j) && decide (j ≤ 1000))) with
        | true => okT (rgP3 i j k) h3
        | false => .stuck
      | _ => .stuck
    | _ => .stuck
  | _ => .stuck
def eCallV (call : Nat → List PV → PH → R PV) (rec : CE → PSt → PH → R PV) (i : Nat) (es : List CE) (st : PSt) (h : PH) : R PV := match st[i]? with
  | some (some (.fn k)) => match Nat.blt k xbig with
    | true => match evL rec es st h with
      | .stuck => .stuck
      | .ok vs h1 => call k vs h1
    | false => .stuck
  | _ => .stuck
def eRev (rec : CE → PSt → PH → R PV) (a : CE) (st : PSt) (h : PH) : R PV := match rec a st h with
  | .stuck => .stuck
  | .ok (.tup xs) h1 => okT xs.reverse h1
  | .ok v h1 => match seqL v h1 with
    | some xs => okL xs.reverse h1
    | none => .stuck
def eDnew (t : Bool) (h : PH) : R PV := match t with
  | true => .ok (.ref h.n) (h.push (.dT []))
  | false => .ok (.ref h.n) (h.push (.dK []))
def evPs (rec : CE → PSt → PH → R PV) : List CE → List CE → PSt → PH → R (List (Int × PV))
  | [], [], _, h => .ok [] h
  | k :: ks, v :: vs, st, h => match rec k st h with
    | .ok (.int i) h1 => match rec v st h1 with
      | .stuck => .stuck
      | .ok x h2 => match evPs rec ks vs st h2 with
        | .stuck => .stuck
        | .ok r h3 => .ok ((i, x) :: r) h3
    | _ => .stuck
  | _, _, _, _ => .stuck
def mergeG (more : List (Int × PV)) (kvs : List (Int × PV)) : List (Int × PV) := more.foldl (fun acc p => putG p.1 p.2 acc) kvs
def eDisp (rec : CE → PSt → PH → R PV) (ks vs : List CE) (st : PSt) (h : PH) : R PV := match evPs rec ks vs st (h.push (.dK [])) with
  | .stuck => .stuck
  | .ok ps h1 => match h1.get h.n with
    | some (.dK []) => match Nat.ble ps.length 15 with
      | true => .ok (.ref h.n) (h1.set h.n (.dK (mergeG ps [])))
      | false => .stuck
    | _ => .stuck
def hvAt (k : Int) : List (Nat × PV) → Option PV
  | [] => none
  | p :: r => match decide (k = (p.1 : Int)) with
    | true => some p.2
    | false => hvAt k r
def eLam (rec : CE → PSt → PH → R PV) (b xe : CE) (hs : List (Nat × PV)) (aft : Option Bool) (st : PSt) (h : PH) : R PV := match h.get 1 with
  | some .tb => match rec xe st h with
    | .ok (.int k) h1 => match hvAt k hs with
      | some v => .ok v h1
      | none => .stuck
    | .ok _ _ => match rec b st h with
      | .stuck => .stuck
      | .ok v h1 => match aft with
        | none => .ok v h1
        | some w => .ok (.bl w) h1
    | .stuck => .stuck
  | _ => .stuck
def isDic (v : PV) (h : PH) : Bool := match v with
  | .ref i => match h.get i with
    | some (.dK _) => true
    | some (.dT _) => true
    | some (.lT _) => true
    | some (.lK _) => true
    | some (.dN _) => true
    | _ => false
  | _ => false
def eGet2 (rec : CE → PSt → PH → R PV) (d k x : CE) (st : PSt) (h : PH) : R PV := match rec d st h with
  | .stuck => .stuck
  | .ok v h1 => match isDic v h1 with
    | false => .stuck
    | true => match rec k st h1 with
      | .stuck => .stuck
      | .ok w h2 => match rec x st h2 with
        | .stuck => .stuck
        | .ok z h3 => match dLook v w h3 with
          | some (some u) => .ok u h3
          | some none => .ok z h3
          | none => .stuck
def eDispT (rec : CE → PSt → PH → R PV) (k v : CE) (st : PSt) (h : PH) : R PV := match rec k st (h.push (.dT [])) with
  | .stuck => .stuck
  | .ok w h1 => match rec v st h1 with
    | .stuck => .stuck
    | .ok x h2 => match h2.get h.n, keyT w with
      | some (.dT []), some ks => .ok (.ref h.n) (h2.set h.n (.dT [(ks, x)]))
      | _, _ => .stuck
def eIsE (rec : CE → PSt → PH → R PV) (a : CE) (st : PSt) (h : PH) : R PV := match rec a st h with
  | .ok (.ref i) h1 => match h1.get i with
    | some (.dT kvs) => .ok (.bl kvs.isEmpty) h1
    | _ => .stuck
  | _ => .stuck
def pkD (q : PK) : PyData := match q.1 with
  | none => .tuple [.none, .int q.2]
  | some i => .tuple [.int i, .int q.2]
def txt (q : PK) : Str := (pkD q).shown
def okT2 (q : PK) : Bool := Nat.ble (txt q).length 1000 && PyData.showable (pkD q)
def leT2 (q r : PK) : Bool := decide ((txt q).cps.toList ≤ (txt r).cps.toList)
def insS (x : PK) : List PK → List PK
  | [] => [x]
  | y :: r => match leT2 x y with
    | true => x :: y :: r
    | false => y :: insS x r
def sortS : List PK → List PK
  | [] => []
  | x :: r => insS x (sortS r)
def pksOf : List (NestedKey × PV) → Option (List PK)
  | [] => some []
  | p :: r => match pkOf p.1, pksOf r with
    | some q, some qs => some (q :: qs)
    | _, _ => none
def iiOf : List PK → Option (List (List Int))
  | [] => some []
  | (some i, j) :: r => match iiOf r with
    | some l => some ([i, j] :: l)
    | none => none
  | _ :: _ => none
def eSkeysS (rec : CE → PSt → PH → R PV) (a : CE) (st : PSt) (h : PH) : R PV := match rec a st h with
  | .ok (.ref i) h1 => match h1.get i with
    | some (.dN kvs) => match pksOf kvs with
      | some qs => match qs.all okT2 with
        | true => okL ((sortS qs).map pkV) h1
        | false => .stuck
      | none => .stuck
    | _ => .stuck
  | _ => .stuck
def eSkeys (rec : CE → PSt → PH → R PV) (a : CE) (st : PSt) (h : PH) : R PV := match rec a st h with
  | .ok (.ref i) h1 => match h1.get i with
    | some (.dT kvs) => match kvs.all fun p => !p.1.isEmpty with
      | true => okL ((sortT (kvs.map (·.1))).map tupI) h1
      | false => .stuck
    | some (.dK kvs) => match Nat.blt kvs.length 64 with
      | true => okL ((sortI (kvs.map (·.1))).map PV.int) h1
      | false => .stuck
    | some (.dN kvs) => match pksOf kvs with
      | some qs => match iiOf qs with
        | some l => okL ((sortT l).map tupI) h1
        | none => .stuck
      | none => .stuck
    | _ => .stuck
  | _ => .stuck
def unl {α : Type} (a : Nat) : R α → R α
  | .ok x h => match h.get a with
    | some (.lT kvs) => .ok x (h.set a (.dT kvs))
    | _ => .stuck
  | .stuck => .stuck
def lockP (st : PSt) (h : PH) (i : Nat) : Option (Nat × List (List Int × PV)) := match st[i]? with
  | some (some (.ref a)) => match h.get a with
    | some (.dT kvs) => some (a, kvs)
    | _ => none
  | _ => none
def unlK {α : Type} (a : Nat) : R α → R α
  | .ok x h => match h.get a with
    | some (.lK kvs) => .ok x (h.set a (.dK kvs))
    | _ => .stuck
  | .stuck => .stuck
def lockK (st : PSt) (h : PH) (i : Nat) : Option (Nat × List (Int × PV)) := match st[i]? with
  | some (some (.ref a)) => match h.get a with
    | some (.dK kvs) => some (a, kvs)
    | _ => none
  | _ => none
def eLockE (rec : CE → PSt → PH → R PV) (i : Nat) (e : CE) (st : PSt) (h : PH) : R PV := match lockP st h i with
  | some (a, kvs) => unl a (rec e st (h.set a (.lT kvs)))
  | none => match lockK st h i with
    | some (a, kvs) => unlK a (rec e st (h.set a (.lK kvs)))
    | none => .stuck
def eLk (rec : CE → PSt → PH → R PV) (a : CE) (st : PSt) (h : PH) : R PV := match rec a st h with
  | .ok (.ref i) h1 => match h1.get i with
    | some (.dT kvs) => .ok (.ref i) (h1.set i (.lT kvs))
    | some (.dK kvs) => .ok (.ref i) (h1.set i (.lK kvs))
    | _ => .stuck
  | _ => .stuck
def eVals (rec : CE → PSt → PH → R PV) (a : CE) (st : PSt) (h : PH) : R PV := match rec a st h with
  | .ok (.ref i) h1 => match h1.get i with
    | some (.dK kvs) => okL (kvs.map (·.2)) h1
    | some (.dT kvs) => okL (kvs.map (·.2)) h1
    | _ => .stuck
  | _ => .stuck
def insAt (v : PV) (h : PH) : Option (Nat × Nat × List (Str × PV)) := match v with
  | .ref i => match h.get i with
    | some (.ins cl fs) => some (i, cl, fs)
    | _ => none
  | _ => none
def fldP (v : PV) (f : Str) (h : PH) : Option PV := match insAt v h with
  | some (_, _, fs) => valG f fs
  | none => none
def eFld (rec : CE → PSt → PH → R PV) (a : CE) (f : Str) (st : PSt) (h : PH) : R PV := match rec a st h with
  | .stuck => .stuck
  | .ok v h1 => match fldP v f h1 with
    | some x => .ok x h1
    | none => .stuck
def mkEnd (r : Nat) : R PV → R PV
  | .ok .non h => .ok (.ref r) h
  | _ => .stuck
def eMk (call : Nat → List PV → PH → R PV) (rec : CE → PSt → PH → R PV) (cl k : Nat) (es : List CE) (st : PSt) (h : PH) : R PV := match evL rec es st h with
  | .stuck => .stuck
  | .ok vs h1 => mkEnd h1.n (call k (.ref h1.n :: vs) (h1.push (.ins cl [])))
def eMeth (call : Nat → List PV → PH → R PV) (rec : CE → PSt → PH → R PV) (tab : List (Nat × Nat)) (m : Str) (o : CE) (es : List CE) (st : PSt) (h : PH) : R PV := match rec o st h with
  | .stuck => .stuck
  | .ok v h1 => match insAt v h1 with
    | some (_, cl, fs) => match tab.lookup cl, valG m fs with
      | some k, none => match evL rec es st h1 with
        | .stuck => .stuck
        | .ok vs h2 => call k (v :: vs) h2
      | _, _ => .stuck
    | none => .stuck
def setF (v : PV) (f : Str) (x : PV) (h : PH) : Option PH := match insAt v h with
  | some (i, cl, fs) => match Nat.blt fs.length 1000 with
    | true => some (h.set i (.ins cl (putG f x fs)))
    | false => none
  | none => none
def stepE (call : Nat → List PV → PH → R PV) (n : Nat) (rec : CE → PSt → PH → R PV) (c : CE) (st : PSt) (h : PH) : R PV := match c with
  | .stuck => .stuck
  | .var i => eVar rec i st h
  | .val v => eVal rec v st h
  | .bin op a b => eBin rec op a b st h
  | .neg a => eNeg rec a st h
  | .cmp op a b => eCmp rec op a b st h
  | .chain o1 o2 a b c => eChain rec o1 o2 a b c st h
  | .isin ng a b => eIsin rec ng a b st h
  | .and a b => eAnd rec a b st h
  | .or a b => eOr rec a b st h
  | .not a => eNot rec a st h
  | .ite t a b => eIte rec t a b st h
  | .tup es => eTup rec es st h
  | .lst es => eLst rec es st h
  | .call k es => eCall call rec k es st h
  | .bi b es => eBi rec b es st h
  | .isi a t => eIsi rec a t st h
  | .isis a t u => eIsis rec a t u st h
  | .mt m o es => eMt rec m o es st h
  | .ix a b => eIx rec a b st h
  | .sl a lo hi => eSl rec a lo hi st h
  | .lc it tg vs ifs elt => eLc n rec it tg vs ifs elt st h
  | .lrg a b => eLrg rec a b st h
  | .lrg1 b => eLrg1 rec b st h
  | .trg b => eTrg rec b st h
  | .trg3 a b d => eTrg3 rec a b d st h
  | .lc2 it tg it1 tg1 vs vs1 elt => eLc2 n rec it tg it1 tg1 vs vs1 elt st h
  | .callv i es => eCallV call rec i es st h
  | .rev a => eRev rec a st h
  | .dnew t => eDnew t h
  | .disp ks vs => eDisp rec ks vs st h
  | .lam b xe hs aft => eLam rec b xe hs aft st h
  | .get2 d k x => eGet2 rec d k x st h
  | .dispT k v => eDispT rec k v st h
  | .isE a => eIsE rec a st h
  | .skeys a => eSkeys rec a st h
  | .skeysS a => eSkeysS rec a st h
  | .mk0 cl => .ok (.ref h.n) (h.push (.ins cl []))
  | .lockE i e => eLockE rec i e st h
  | .lk a => eLk rec a st h
  | .vals a => eVals rec a st h
  | .dnewN => .ok (.ref h.n) (h.push (.dN []))
  | .fld a f => eFld rec a f st h
  | .mk cl k es => eMk call rec cl k es st h
  | .meth tab m o es => eMeth call rec tab m o es st h
def evE (call : Nat → List PV → PH → R PV) : Nat → CE → PSt → PH → R PV
  | 0, _, _, _ => .stuck
  | n + 1, c, st, h => stepE call n (evE call n) c st h

inductive FR where
  | nx (st : PSt) | rt (v : PV) | bk (st : PSt) | ct (st : PSt)
def evSs (rec : CS → PSt → PH → R FR) : List CS → PSt → PH → R FR
  | [], st, h => .ok (.nx st) h
  | s :: ss, st, h => match rec s st h with
    | .ok (.nx st1) h1 => evSs rec ss st1 h1
    | r => r
def forL (body : PSt → PH → R FR) (iv : IV) (tg : CT) : Nat → Nat → PSt → PH → R FR
  | 0, _, _, _ => .stuck
  | m + 1, k, st, h => match ivN iv k h with
    | .stuck => .stuck
    | .stop => .ok (.nx st) h
    | .item v => match asgT tg v st with
      | none => .stuck
      | some st1 => match body st1 h with
        | .ok (.nx st2) h2 => forL body iv tg m (k + 1) st2 h2
        | .ok (.ct st2) h2 => forL body iv tg m (k + 1) st2 h2
        | .ok (.bk st2) h2 => .ok (.nx st2) h2
        | .ok (.rt v) h2 => .ok (.rt v) h2
        | .stuck => .stuck
def whL (test : PSt → PH → R Bool) (body : PSt → PH → R FR) : Nat → PSt → PH → R FR
  | 0, _, _ => .stuck
  | m + 1, st, h => match test st h with
    | .stuck => .stuck
    | .ok false h1 => .ok (.nx st) h1
    | .ok true h1 => match body st h1 with
      | .ok (.nx st2) h2 => whL test body m st2 h2
      | .ok (.ct st2) h2 => whL test body m st2 h2
      | .ok (.bk st2) h2 => .ok (.nx st2) h2
      | .ok (.rt v) h2 => .ok (.rt v) h2
      | .stuck => .stuck
def xExpr (n : Nat) (ev : CE → PSt → PH → R PV) (rec : CS → PSt → PH → R FR) (e : CE) (st : PSt) (h : PH) : R FR := match ev e st h with
  | .stuck => .stuck
  | .ok _ h1 => .ok (.nx st) h1
def xAsg (n : Nat) (ev : CE → PSt → PH → R PV) (rec : CS → PSt → PH → R FR) (t : CT) (e : CE) (st : PSt) (h : PH) : R FR := match ev e st h with
  | .stuck => .stuck
  | .ok v h1 => match asgA t v st h1 with
    | some st1 => .ok (.nx st1) h1
    | none => .stuck
def xPar (n : Nat) (ev : CE → PSt → PH → R PV) (rec : CS → PSt → PH → R FR) (i : Nat) (j : Nat) (a : CE) (b : CE) (st : PSt) (h : PH) : R FR := match ev a st h with
  | .stuck => .stuck
  | .ok v h1 => match ev b st h1 with
    | .stuck => .stuck
    | .ok w h2 => .ok (.nx ((st.set i (some v)).set j (some w))) h2
def xPar3 (n : Nat) (ev : CE → PSt → PH → R PV) (rec : CS → PSt → PH → R FR) (i j l : Nat) (a b d : CE) (st : PSt) (h : PH) : R FR := match ev a st h with
  | .stuck => .stuck
  | .ok v h1 => match ev b st h1 with
    | .stuck => .stuck
    | .ok w h2 => match ev d st h2 with
      | .stuck => .stuck
      | .ok u h3 => .ok (.nx (((st.set i (some v)).set j (some w)).set l (some u))) h3
def xSetix (n : Nat) (ev : CE → PSt → PH → R PV) (rec : CS → PSt → PH → R FR) (o : CE) (i : CE) (e : CE) (st : PSt) (h : PH) : R FR := match ev e st h with
  | .stuck => .stuck
  | .ok v h1 => match ev o st h1 with
    | .stuck => .stuck
    | .ok a h2 => match ev i st h2 with
      | .stuck => .stuck
      | .ok k h3 => match setP a k v h3 with
        | some h4 => .ok (.nx st) h4
        | none => .stuck
def augI (op : Bop) (x y : Int) : Option Int := match op with
  | .add => some (x + y)
  | .sub => some (x - y)
  | .mul => match wide x || wide y with
    | true => some (x * y)
    | false => none
  | .fdiv => match decide (0 < y) && decide (y < 1073741824) with
    | true => some (x / y)
    | false => none
  | .mod => match decide (0 < y) with
    | true => some (x % y)
    | false => none
  | .pow => none
def xAugn (n : Nat) (ev : CE → PSt → PH → R PV) (rec : CS → PSt → PH → R FR) (i : Nat) (op : Bop) (e : CE) (st : PSt) (h : PH) : R FR := match st[i]? with
  | some (some (.int x)) => match ev e st h with
    | .ok (.int y) h1 => match augI op x y with
      | some z => .ok (.nx (st.set i (some (.int z)))) h1
      | none => .stuck
    | _ => .stuck
  | _ => .stuck
def xAugix (n : Nat) (ev : CE → PSt → PH → R PV) (rec : CS → PSt → PH → R FR) (o i : CE) (op : Bop) (e : CE) (st : PSt) (h : PH) : R FR := match ev o st h with
  | .stuck => .stuck
  | .ok a h1 => match ev i st h1 with
    | .stuck => .stuck
    | .ok k h2 => match ixP a k h2 with
      | some (.int x) => match ev e st h2 with
        | .ok (.int y) h3 => match augI op x y with
          | some z => match setP a k (.int z) h3 with
            | some h4 => .ok (.nx st) h4
            | none => .stuck
          | none => .stuck
        | _ => .stuck
      | _ => .stuck
def xRet (n : Nat) (ev : CE → PSt → PH → R PV) (rec : CS → PSt → PH → R FR) (e : CE) (st : PSt) (h : PH) : R FR := match ev e st h with
  | .stuck => .stuck
  | .ok v h1 => .ok (.rt v) h1
def xIte (n : Nat) (ev : CE → PSt → PH → R PV) (rec : CS → PSt → PH → R FR) (b : CB) (t : List CS) (u : List CS) (st : PSt) (h : PH) : R FR := match evB ev b st h with
  | .stuck => .stuck
  | .ok true h1 => evSs rec t st h1
  | .ok false h1 => evSs rec u st h1
def xWhile (n : Nat) (ev : CE → PSt → PH → R PV) (rec : CS → PSt → PH → R FR) (b : CB) (t : List CS) (st : PSt) (h : PH) : R FR := whL (evB ev b) (evSs rec t) n st h
def xFor (n : Nat) (ev : CE → PSt → PH → R PV) (rec : CS → PSt → PH → R FR) (t : CT) (it : CI) (b : List CS) (st : PSt) (h : PH) : R FR := match evI ev it st h with
  | .stuck => .stuck
  | .ok iv h1 => forL (evSs rec b) iv t n 0 st h1
def xTry (n : Nat) (ev : CE → PSt → PH → R PV) (rec : CS → PSt → PH → R FR) (b : CS) (xe : CE) (j : Nat) (tgt : Option Nat) (hs : List (Nat × PV)) (st : PSt) (h : PH) : R FR := match ev xe st h with
  | .ok (.int k) h1 => match hvAt k hs with
    | some v => match tgt with
      | none => .ok (.rt v) h1
      | some i => .ok (.nx ((st.set j none).set i (some v))) h1
    | none => .stuck
  | .ok _ _ => rec b st h
  | .stuck => .stuck
def xLock (rec : CS → PSt → PH → R FR) (i : Nat) (s : CS) (st : PSt) (h : PH) : R FR := match lockP st h i with
  | some (a, kvs) => unl a (rec s st (h.set a (.lT kvs)))
  | none => match lockK st h i with
    | some (a, kvs) => unlK a (rec s st (h.set a (.lK kvs)))
    | none => .stuck
def xSetfld (n : Nat) (ev : CE → PSt → PH → R PV) (rec : CS → PSt → PH → R FR) (o : CE) (f : Str) (e : CE) (st : PSt) (h : PH) : R FR := match ev e st h with
  | .stuck => .stuck
  | .ok v h1 => match ev o st h1 with
    | .stuck => .stuck
    | .ok a h2 => match setF a f v h2 with
      | some h3 => .ok (.nx st) h3
      | none => .stuck
def asgFs (i : Nat) : List (Nat ⊕ Str) → List PV → PSt → PH → Option (PSt × PH)
  | [], [], st, h => some (st, h)
  | .inl j :: ts, x :: xs, st, h => asgFs i ts xs (st.set j (some x)) h
  | .inr f :: ts, x :: xs, st, h => match st[i]? with
    | some (some o) => match setF o f x h with
      | some h1 => asgFs i ts xs st h1
      | none => none
    | _ => none
  | _, _, _, _ => none
def xAsgF (n : Nat) (ev : CE → PSt → PH → R PV) (rec : CS → PSt → PH → R FR) (i : Nat) (ts : List (Nat ⊕ Str)) (e : CE) (st : PSt) (h : PH) : R FR := match ev e st h with
  | .ok (.tup xs) h1 => match asgFs i ts xs st h1 with
    | some (st2, h2) => .ok (.nx st2) h2
    | none => .stuck
  | _ => .stuck
def stepS (n : Nat) (ev : CE → PSt → PH → R PV) (rec : CS → PSt → PH → R FR) (c : CS) (st : PSt) (h : PH) : R FR := match c with
  | .stuck => .stuck
  | .pass => .ok (.nx st) h
  | .expr e => xExpr n ev rec e st h
  | .asg t e => xAsg n ev rec t e st h
  | .par i j a b => xPar n ev rec i j a b st h
  | .par3 i j l a b d => xPar3 n ev rec i j l a b d st h
  | .setix o i e => xSetix n ev rec o i e st h
  | .augn i op e => xAugn n ev rec i op e st h
  | .augix o i op e => xAugix n ev rec o i op e st h
  | .ret e => xRet n ev rec e st h
  | .retN => .ok (.rt .non) h
  | .ite b t u => xIte n ev rec b t u st h
  | .while b t => xWhile n ev rec b t st h
  | .for t it b => xFor n ev rec t it b st h
  | .brk => .ok (.bk st) h
  | .cont => .ok (.ct st) h
  | .tryx b xe j tgt hs => xTry n ev rec b xe j tgt hs st h
  | .lock i s => xLock rec i s st h
  | .setfld o f e => xSetfld n ev rec o f e st h
  | .asgF i ts e => xAsgF n ev rec i ts e st h
def evS (call : Nat → List PV → PH → R PV) : Nat → CS → PSt → PH → R FR
  | 0, _, _, _ => .stuck
  | n + 1, c, st, h => stepS n (evE call n) (evS call n) c st h

inductive XS where
  | no | rz (k : Nat) | call (k : Nat) (es : List CE) | ite (b : CB) (t : List CS) (tx : List XS) (u : List CS) (ux : List XS)
structure Def where
  ar : Nat
  sz : Nat
  body : List CS
  xb : List XS := []
abbrev Prg := List Def
def runD (call : Nat → List PV → PH → R PV) (n : Nat) (d : Def) (vs : List PV) (h : PH) : R PV := match Nat.beq vs.length d.ar with
  | false => .stuck
  | true => match evSs (evS call n) d.body (vs.map some ++ List.replicate (d.sz - vs.length) none) h with
    | .ok (.rt v) h1 => .ok v h1
    | .ok (.nx _) h1 => .ok .non h1
    | _ => .stuck
def xvSs (rec : CS → PSt → PH → R FR) (xr : XS → PSt → PH → R PV) : List CS → List XS → PSt → PH → R PV
  | s :: ss, x :: xs, st, h => match xr x st h with
    | .stuck => .stuck
    | .ok (.int k) h1 => .ok (.int k) h1
    | .ok _ _ => match rec s st h with
      | .stuck => .stuck
      | .ok (.nx st1) h1 => xvSs rec xr ss xs st1 h1
      | .ok _ _ => .ok .non h
  | _, _, _, h => .ok .non h
def xvS (ev : CE → PSt → PH → R PV) (rec : CS → PSt → PH → R FR) : Nat → XS → PSt → PH → R PV
  | 0, _, _, _ => .stuck
  | m + 1, c, st, h => match c with
    | .no => .ok .non h
    | .rz k => .ok (.int (k : Nat)) h
    | .ite b t tx u ux => match evB ev b st h with
      | .stuck => .stuck
      | .ok true h1 => xvSs rec (xvS ev rec m) t tx st h1
      | .ok false h1 => xvSs rec (xvS ev rec m) u ux st h1
    | .call k es => ev (.call (xbig + k) es) st h
def runX (call : Nat → List PV → PH → R PV) (n : Nat) (d : Def) (vs : List PV) (h : PH) : R PV := match Nat.beq vs.length d.ar with
  | false => .stuck
  | true => xvSs (evS call n) (xvS (evE call n) (evS call n) 20) d.body d.xb (vs.map some ++ List.replicate (d.sz - vs.length) none) h
def callP (P : Prg) (n : Nat) : Nat → Nat → List PV → PH → R PV
  | 0, _, _, _ => .stuck
  | d + 1, k, vs, h => match P[k]? with
    | some f => runD (callP P n d) n f vs h
    | none => match Nat.ble xbig k with
      | true => match P[k - xbig]? with
        | some f => runX (callP P n d) n f vs h
        | none => .stuck
      | false => .stuck
end Pyx

namespace Pyx
open PySem PySem.Spec PyProof.Rows L2
structure FnQ (g : Bool) (P : Program) (w : World) (K : PySem.W.Frag) (mg : Str → Option Value) (base : Heap) (CX : CXT) (k : Nat) (f : Addr) (fd : FuncData) (ps : List Str) (sp : Sp) : Prop where
  len : ∀ vs H Q E, sp vs H Q E → vs.length = ps.length
  run : ∀ (A : Around) (out : List Env) (s : Shared) (H : Hp) (args : Args) (us : List Value) (vs : List V) (Q : VK) (E : XK), Room k A → (g = true → A.guards = some []) → Env0 P w K mg base A out s H → BindsTo s fd args (ps.zip us) → Vals vs us → sp vs H Q E → codeAny (model P w) A (.call (.ref f) args) (CR CX out P w H s Q E) s
section
variable {g : Bool} {P : Program} {w : World} {K : PySem.W.Frag} {mg : Str → Option Value} {base : Heap} {CX : CXT} {k : Nat} {f : Addr} {fd : FuncData} {ps : List Str} {sp sp' : Sp}
theorem FnQ.imp (F : FnQ g P w K mg base CX k f fd ps sp) (h : ∀ vs H Q E, sp' vs H Q E → sp vs H Q E) : FnQ g P w K mg base CX k f fd ps sp' :=
  ⟨fun vs H Q E q => F.len vs H Q E (h _ _ _ _ q), fun A out s H args us vs Q E a1 a2 a3 a4 a5 q => F.run A out s H args us vs Q E a1 a2 a3 a4 a5 (h _ _ _ _ q)⟩
theorem FnQ.ok (F : FnQ false P w K mg base CX k f fd ps sp) : FnOk P w K mg base CX k f fd ps sp := ⟨F.len, fun A out s H args us vs Q E a1 a3 a4 a5 q => F.run A out s H args us vs Q E a1 (fun z => nomatch z) a3 a4 a5 q⟩
theorem FnQ.of (F : FnOk P w K mg base CX k f fd ps sp) : FnQ g P w K mg base CX k f fd ps sp := ⟨F.len, fun A out s H args us vs Q E a1 _ a3 a4 a5 q => F.run A out s H args us vs Q E a1 a3 a4 a5 q⟩
end
section
variable {g : Bool} {X : Cx} {CX : CXT} {k i : Nat} {f C : Addr} {fd : FuncData} {ps : List Str} {sp : Sp} {E : XK} {x : Str} {p pos : Pos} {e : Expr} {es : List Expr} {t : TA} {pins : List (Addr × Obj)} {σ : L2.St} {H : Hp} {s : Shared} {Q : VK} {us : List Value} {vs : List V}
theorem run_q (F : FnQ g X.prog X.w X.K X.mg X.base CX k f fd ps sp) (rm : Room k X.A) (gd : g = true → X.A.guards = some []) (bd : Binds X.K fd ps []) (I : Inv X pins σ H s) (px : ∀ er s', CX X.stack H s E er s' → X.xe er s') (rv : Vals vs us) (q : sp vs H Q E) :
    wpAny (model X.prog X.w) X.A (call (.ref f) us) (EP X pins σ Q) X.xe s := by
  have nu : (us ++ []).length = ps.length := by rw [List.append_nil, ← rv.length]; exact F.len _ _ _ _ q
  have b := bd s us I.kIn nu
  rw [List.append_nil] at b
  refine wpAny_call (codeAny_mono (F.run X.A X.stack s H ⟨us, []⟩ us vs Q E rm gd I.env0 b rv q) fun res s' z => ?_)
  match res, z with
  | .error er, z => exact px er s' z
  | .ok (.ret u), z => exact I.after z
theorem pe_qcall (F : FnQ g X.prog X.w X.K X.mg X.base CX k f fd ps sp) (rm : Room k X.A) (gd : g = true → X.A.guards = some []) (hg : Gl X x) (hm : X.mg x = some (.ref f)) (hk : PySem.W.keepIn X.K (.ref f) = true) (bd : Binds X.K fd ps []) (hx : Passes CX X E) (ha : PA X (e :: es) t) (hdb : (x == ("__debug__" : Str)) = false)
    (he : starEach (e :: es) X.env = (false, eval e X.env) :: starEach es X.env) (hpl : (backTo pos (starEach es X.env)).any (·.1) = false) : PE X (.Call (.Name x p) (e :: es) [] pos) (tCall sp [] E t) :=
  ⟨fun pins s σ H Q I h => wpAny_Call_Name_kw (ld_glob I hg hm (PySem.W.callWith_K (h₀ := X.base) I.ok.mod.kin hk (thn (ha.run pos pins s σ H _ I h) fun us s1 ⟨vs, H1, I1, r, q⟩ => ⟨I1.kIn, run_q F rm gd bd I1 (fun er s' z => hx pins σ H1 s1 er s' I1 z) r (by simpa only [List.append_nil] using q)⟩) he hpl) hdb)⟩
theorem pe_qcall0 (F : FnQ g X.prog X.w X.K X.mg X.base CX k f fd ps sp) (rm : Room k X.A) (gd : g = true → X.A.guards = some []) (hg : Gl X x) (hm : X.mg x = some (.ref f)) (hk : PySem.W.keepIn X.K (.ref f) = true) (bd : Binds X.K fd ps []) (hx : Passes CX X E) (hdb : (x == ("__debug__" : Str)) = false) :
    PE X (.Call (.Name x p) [] [] pos) (tCall sp [] E tNil) :=
  ⟨fun pins s σ H Q I h => wpAny_Call_Name_kw (ld_glob I hg hm (PySem.W.callWith_K0 I.kIn hk (run_q (us := []) F rm gd bd I (fun er s' z => hx pins σ H s er s' I z) .nil h)) hdb)⟩
theorem pe_qcallL (F : FnQ g X.prog X.w X.K X.mg X.base CX k f fd ps sp) (rm : Room k X.A) (gd : g = true → X.A.guards = some []) (hN : X.N[i]? = some x) (hv : Vis X.env.scope x) (hk : PySem.W.keepIn X.K (.ref f) = true) (bd : Binds X.K fd ps []) (hx : Passes CX X E) (ha : PA X (e :: es) t) (hdb : (x == ("__debug__" : Str)) = false) (hcd : (x == ("__classdict__" : Str)) = false)
    (he : starEach (e :: es) X.env = (false, eval e X.env) :: starEach es X.env) (hpl : (backTo pos (starEach es X.env)).any (·.1) = false) : PE X (.Call (.Name x p) (e :: es) [] pos) (tCallL i f sp [] E t) := by
  refine ⟨fun pins s σ H Q I ⟨hs, ht⟩ => wpAny_Call_Name_kw (thn ((pe_var (pos := p) hN hv hdb hcd).run pins s σ H (fun v H1 => v = .ref f ∧ H1 = H) I ⟨.ref f, hs, rfl, rfl⟩) fun u s1 ⟨v, H1, I1, r1, q1⟩ => ?_)⟩
  rw [q1.1] at r1
  rw [q1.2] at I1
  obtain rfl : u = Value.ref f := r1
  exact PySem.W.callWith_K (h₀ := X.base) I.ok.mod.kin hk (thn (ha.run pos pins s1 σ _ _ I1 ht) fun us s2 ⟨vs, H2, I2, r, q⟩ => ⟨I2.kIn, run_q F rm gd bd I2 (fun er s' z => hx pins σ H2 s2 er s' I2 z) r (by simpa only [List.append_nil] using q)⟩) he hpl
theorem pe_qcallS {Es : L2.St → XK} (F : FnQ g X.prog X.w X.K X.mg X.base CX k f fd ps sp) (rm : Room k X.A) (gd : g = true → X.A.guards = some []) (hg : Gl X x) (hm : X.mg x = some (.ref f)) (hk : PySem.W.keepIn X.K (.ref f) = true) (bd : Binds X.K fd ps []) (hx : ∀ σ, PassesAt CX X σ (Es σ)) (ha : PA X (e :: es) t) (hdb : (x == ("__debug__" : Str)) = false)
    (he : starEach (e :: es) X.env = (false, eval e X.env) :: starEach es X.env) (hpl : (backTo pos (starEach es X.env)).any (·.1) = false) : PE X (.Call (.Name x p) (e :: es) [] pos) (tCallS sp Es t) :=
  ⟨fun pins s σ H Q I h => wpAny_Call_Name_kw (ld_glob I hg hm (PySem.W.callWith_K (h₀ := X.base) I.ok.mod.kin hk (thn (ha.run pos pins s σ H _ I h) fun us s1 ⟨vs, H1, I1, r, q⟩ => ⟨I1.kIn, run_q F rm gd bd I1 (fun er s' z => hx σ pins H1 s1 er s' I1 z) r q⟩) he hpl) hdb)⟩
theorem make_guards {A : Around} {us : List Value} : (A.under (.builtin "type.__call__" ⟨.ref C :: us, []⟩)).guards = A.guards := by
  first
    | rfl
    | simp [Around.under, Code.guards, Code.isGuard, guardIds, pushGuards]
theorem run_qmake (M : Mk X.K C f) (F : FnQ g X.prog X.w X.K X.mg X.base CX k f fd ps sp) (rm : Room (k + 1) X.A) (gd : g = true → X.A.guards = some []) (bd : Binds X.K fd ps []) (hx : Passes CX X E) (I : Inv X pins σ H s) (rv : Vals vs us)
    (h : ∀ y d, H y = none → H d = none → d ≠ y → sp (.ref y :: vs) (upd (upd H d (.own y)) y (.ins C d [])) (fun v H2 => v = .non ∧ Q (.ref y) H2) E) : wpAny (model X.prog X.w) X.A (call (.ref C) us) (EP X pins σ Q) X.xe s := by
  have q := h (s.heap.objs.size + 1) s.heap.objs.size (I.hok.fresh (Nat.le_succ _)) (I.hok.fresh (Nat.le_refl _)) (Nat.ne_of_lt (Nat.lt_succ_self _))
  have J := Inv.made (C := C) I
  have rv2 : Vals (V.ref (s.heap.objs.size + 1) :: vs) (Value.ref (s.heap.objs.size + 1) :: us) := .cons rfl rv
  have nu : ((Value.ref (s.heap.objs.size + 1) :: us) ++ []).length = ps.length := by rw [List.append_nil, ← rv2.length]; exact F.len _ _ _ _ q
  have b := bd { s with heap := (s.heap.push PySem.W.emptyDict).push (PySem.W.instObj C s.heap.objs.size) } _ J.kIn nu
  rw [List.append_nil] at b
  refine wpAny_call (make_map (f := f) I.kIn M.makes M.init (beq_iff_eq.mp M.fn) (codeAny_mono (F.run _ X.stack _ _ ⟨Value.ref (s.heap.objs.size + 1) :: us, []⟩ _ _ _ E (rm.make C us []) (fun z => make_guards.trans (gd z)) (J.env0.make C us []) b rv2 q) fun res s' z => ?_))
  match res, z with
  | .error er, z => exact hx pins σ _ _ er s' J z
  | .ok (.ret u), z =>
    obtain ⟨v, H', J2, ru, ev, q3⟩ := J.after z
    subst ev
    exact ⟨ru, ⟨V.ref (s.heap.objs.size + 1), H', J2, rfl, q3⟩⟩
theorem pe_qmake (M : Mk X.K C f) (F : FnQ g X.prog X.w X.K X.mg X.base CX k f fd ps sp) (rm : Room (k + 1) X.A) (gd : g = true → X.A.guards = some []) (hg : Gl X x) (hm : X.mg x = some (.ref C)) (bd : Binds X.K fd ps []) (hx : Passes CX X E) (ha : PA X (e :: es) t) (hdb : (x == ("__debug__" : Str)) = false)
    (he : starEach (e :: es) X.env = (false, eval e X.env) :: starEach es X.env) (hpl : (backTo pos (starEach es X.env)).any (·.1) = false) : PE X (.Call (.Name x p) (e :: es) [] pos) (tMake C sp [] E t) :=
  ⟨fun pins s σ H Q I h => wpAny_Call_Name_kw (ld_glob I hg hm (PySem.W.callWith_K (h₀ := X.base) I.ok.mod.kin M.kp (thn (ha.run pos pins s σ H _ I h) fun us s1 ⟨vs, H1, I1, r, q⟩ => ⟨I1.kIn, run_qmake M F rm gd bd hx I1 r (by simpa only [List.append_nil] using q)⟩) he hpl) hdb)⟩
theorem pe_qmake0 (M : Mk X.K C f) (F : FnQ g X.prog X.w X.K X.mg X.base CX k f fd ps sp) (rm : Room (k + 1) X.A) (gd : g = true → X.A.guards = some []) (hg : Gl X x) (hm : X.mg x = some (.ref C)) (bd : Binds X.K fd ps []) (hx : Passes CX X E) (hdb : (x == ("__debug__" : Str)) = false) :
    PE X (.Call (.Name x p) [] [] pos) (tMake C sp [] E tNil) :=
  ⟨fun pins s σ H Q I h => wpAny_Call_Name_kw (ld_glob I hg hm (PySem.W.callWith_K0 I.kIn M.kp (run_qmake (us := []) M F rm gd bd hx I .nil fun y d a b c => h y d a b c)) hdb)⟩
structure Mk0 (K : PySem.W.Frag) (C : Addr) : Prop where
  makes : PySem.W.makesIn K C = true
  init : PySem.W.findIn K (.ref C) "__init__" = some (some (.builtin "object.__init__"))
  kp : PySem.W.keepIn K (.ref C) = true
def tMake0 (C : Addr) : TE := fun _ H Q => ∀ y d, H y = none → H d = none → d ≠ y → Q (.ref y) (upd (upd H d (.own y)) y (.ins C d []))
theorem pe_made0 (M : Mk0 X.K C) (hg : Gl X x) (hm : X.mg x = some (.ref C)) (hdb : (x == ("__debug__" : Str)) = false) : PE X (.Call (.Name x p) [] [] pos) (tMake0 C) := by
  refine ⟨fun pins s σ H Q I h => wpAny_Call_Name_kw (ld_glob I hg hm (PySem.W.callWith_K0 I.kIn M.kp ?_) hdb)⟩
  have J := Inv.made (C := C) I
  have q := h (s.heap.objs.size + 1) s.heap.objs.size (I.hok.fresh (Nat.le_succ _)) (I.hok.fresh (Nat.le_refl _)) (Nat.ne_of_lt (Nat.lt_succ_self _))
  refine wpAny_call (make_map0 I.kIn M.makes M.init (fun self => PySem.W.Looks.of_pure (PySem.W.oi_bind self)) ?_)
  have t2 : PySem.W.Looks (model X.prog X.w) ((s.heap.push PySem.W.emptyDict).push (PySem.W.instObj C s.heap.objs.size)) (isInstance (.ref (s.heap.objs.size + 1)) (.type "object")) true := by
    have ld : ((s.heap.push PySem.W.emptyDict).push (PySem.W.instObj C s.heap.objs.size)).get? (s.heap.objs.size + 1) = some (PySem.W.instObj C s.heap.objs.size) := by
      have z := Heap.get?_push_size (s.heap.push PySem.W.emptyDict) (o := PySem.W.instObj C s.heap.objs.size) rfl
      rwa [Heap.size_push] at z
    have t1 : PySem.W.Looks (model X.prog X.w) ((s.heap.push PySem.W.emptyDict).push (PySem.W.instObj C s.heap.objs.size)) (typeOf (.ref (s.heap.objs.size + 1))) (.ref C) := (PySem.W.Looks.ld ld).andThen .now
    exact t1.andThen ((PySem.W.makes_of (M := model X.prog X.w) I.kIn M.makes).top.keeps fun b o e => Heap.get?_push_of_some _ (Heap.get?_push_of_some _ e))
  refine codeAny_call_builtin PySem.W.oi_plain PySem.W.entry_oi (@PySem.W.check_slot (model X.prog X.w) _ _ _ "object.__init__" "object" "__init__" (.ref (s.heap.objs.size + 1)) [] [] _ PySem.W.oi_kind PySem.W.oi_split t2 (PySem.W.oi_args (.ref (s.heap.objs.size + 1))) ?_)
  rw [PySem.W.oi_run]
  exact wpAny_pure ⟨rfl, ⟨V.ref (s.heap.objs.size + 1), _, J, rfl, q⟩⟩
end
theorem deeper_guards {A : Around} {env : Env} : (A.deeper env).guards = A.guards := by
  first
    | rfl
    | simp [Around.deeper]
theorem fn_ofQ {g : Bool} {CX : CXT} {P : Program} {w : World} {K : PySem.W.Frag} {mg : Str → Option Value} {base : Heap} {k : Nat} {f : Addr} {name qual : Str} {params : Arguments} {body : List Stmt} {scope : Scope} {dV kV doc pm cdv ct oc : Value} {an od : Option Addr} {osl : Array (Option Value)} {N ps : List Str} {sp : Sp}
    (lk : K.lookup f = some ⟨oc, od, .func (PySem.W.fnOf name qual params body scope dV kV doc pm an cdv ct), osl⟩) (hcd : PySem.W.codeIn K cdv qual = true) (S : FnScope N ps scope) (len : ∀ vs H Q E, sp vs H Q E → vs.length = ps.length)
    (bodyOk : ∀ (A : Around) (out : List Env) (s : Shared) (H : Hp) (vs : List V) (Q : VK) (E : XK), Room k (A.deeper (envOfC qual scope s.heap.objs.size f cdv)) → (g = true → (A.deeper (envOfC qual scope s.heap.objs.size f cdv)).guards = some []) → sp vs H Q E → ∃ t, PSs (cxOf CX P w K mg base N qual scope f cdv A out s H E) body t ∧ t { nx := fun _ H' => Q .non H', rt := Q } (start N vs) H) :
    FnQ g P w K mg base CX (k + 1) f (PySem.W.fnOf name qual params body scope dV kV doc pm an cdv ct) ps sp := by
  refine ⟨len, fun A out s H args us vs Q E rm gd e0 bd rv q => ?_⟩
  have kin : K.In s.heap := e0.mod.kin.keeps fun b o e => (e0.bs b o e).1
  have kinds : ∀ y ∈ ps.zip us, scope.names.lookup y.1 = some .local ∨ (scope.names.lookup y.1 = some .cell ∧ ((cellsFrom (s.heap.objs.size + 1) scope.names []).lookup y.1).isSome = true) := by
    rintro ⟨n, v⟩ hy
    rcases S.par n (List.of_mem_zip hy).1 with z | z
    · exact .inl z
    · exact .inr ⟨z, PySem.W.cellsFrom_some _ _ _ (.inl z)⟩
  refine codeAny_call_function rm.depth (kin _ _ lk) rfl S.co S.gen rfl (PySem.W.codeRec_of kin hcd) (bd _ _ _ _ ?_)
  refine wpAny_newFunctionEnv_cells S.kind kinds fun env he s1 xs => ?_
  subst he
  refine ⟨(e0.mod.nolimit.keeps fun b o e => (e0.bs b o e).1).keeps xs.toInCall.keep, codeAny_func ?_⟩
  obtain ⟨t, pt, tq⟩ := bodyOk A out s H vs Q E (rm.deeper _) (fun z => deeper_guards.trans (gd z)) q
  have I0 : Inv (cxOf CX P w K mg base N qual scope f cdv A out s H E) [] (start N vs) H s1 := inv_start S rm.hd e0 (len _ _ _ _ q) rv xs
  refine wpAny_mono (pt.run [] s1 (start N vs) H _ I0 tq) (fun fl s2 z => ?_) fun _ _ z => z
  cases fl with
  | brk => exact z.elim fun _ z => z.elim fun _ z => (show False from z.2).elim
  | cont => exact z.elim fun _ z => z.elim fun _ z => (show False from z.2).elim
  | ret u => exact z.elim fun v z => z.elim fun _ z => z.elim fun H2 z => ⟨v, H2, z.1.os, z.1.bare, z.1.base, z.1.hok, z.2.1, z.2.2⟩
  | next => exact z.elim fun _ z => z.elim fun H2 z => ⟨V.non, H2, z.1.os, z.1.bare, z.1.base, z.1.hok, rfl, z.2⟩
structure Scr (K : PySem.W.Frag) (P : Program) (w : World) (H : Hp) (h : Heap) (a : Addr) : Prop where
  only : Only H
  ok : HOk P w H h
  at0 : ∀ b, H b ≠ none → b = a
  free : H a ≠ none → K.lookup a = none
end Pyx

namespace Pyx
open PySem PySem.Spec PyProof.Rows L2

structure Rc where
  K : PySem.W.Frag
  w : World
  F : Nat → Addr
  C : Nat → Addr := fun _ => 0
  cd : Addr := 0
  tb : Addr := 0
  lq : Str := ""
  sc : Option Addr := none
  L : Nat → Addr := fun _ => 0
  isC : Nat → Bool := fun _ => false
  gd : Bool := false
def Frz (c : Rc) (H : Hp) (a : Addr) (xs : List V) : Prop :=
  (∃ o, H a = some (.frz o (.lst xs))) ∨
    (∃ (o : Obj) (its : Array Value) (n : Nat), c.K.lookup a = some o ∧ o.cls = .type "list" ∧ o.dict = none ∧ o.data = .seq its n ∧ its.size ≤ sizeLine ∧ Vals xs its.toList) ∨
    (c.sc = some a ∧ H a = some (.lst xs))
theorem Frz.seq {c : Rc} {H : Hp} {a : Addr} {xs : List V} (h : Frz c H a xs) : SqL c.K H a xs := by
  rcases h with ⟨o, h⟩ | h | h
  · exact .inl (.inr ⟨o, h⟩)
  · exact .inr h
  · exact .inl (.inl h.2)
mutual
inductive RV (c : Rc) (f : Nat → Addr) (n : Nat) (H : Hp) : PV → V → Prop where
  | non : RV c f n H .non .non
  | bl (b : Bool) : RV c f n H (.bl b) (.bl b)
  | int (i : Int) : RV c f n H (.int i) (.int i)
  | str (s : Str) : RV c f n H (.str s) (.str s)
  | tup {a : Addr} {xs : List PV} {vs : List V} : H a = some (.tup vs) → RVs c f n H xs vs → RV c f n H (.tup xs) (.ref a)
  | ref {i : Nat} : i < n → RV c f n H (.ref i) (.ref (f i))
  | fn (k : Nat) : RV c f n H (.fn k) (.ref (c.F k))
inductive RVs (c : Rc) (f : Nat → Addr) (n : Nat) (H : Hp) : List PV → List V → Prop where
  | nil : RVs c f n H [] []
  | cons {x : PV} {v : V} {xs : List PV} {vs : List V} : RV c f n H x v → RVs c f n H xs vs → RVs c f n H (x :: xs) (v :: vs)
end
def IsDt : HO → Prop
  | .dT _ => True
  | .dK _ => True
  | _ => False
structure Ext (f : Nat → Addr) (n : Nat) (H : Hp) (f' : Nat → Addr) (n' : Nat) (H' : Hp) : Prop where
  le : n ≤ n'
  eq : ∀ i, i < n → f' i = f i
  tup : ∀ a vs, H a = some (.tup vs) → H' a = some (.tup vs)
  cod : ∀ a q, H a = some (LamX.CodeO a q) → H' a = some (LamX.CodeO a q)
  frz : ∀ a o u, IsDt u → H a = some (.frz o u) → H' a = some (.frz o u)
section
variable {c : Rc} {f f' f1 f2 : Nat → Addr} {n n' n1 n2 : Nat} {H H' H1 H2 : Hp}
theorem Ext.refl : Ext f n H f n H := ⟨Nat.le_refl _, fun _ _ => rfl, fun _ _ h => h, fun _ _ h => h, fun _ _ _ _ h => h⟩
theorem Ext.trans (a : Ext f n H f1 n1 H1) (b : Ext f1 n1 H1 f2 n2 H2) : Ext f n H f2 n2 H2 :=
  ⟨Nat.le_trans a.le b.le, fun i h => (b.eq i (Nat.lt_of_lt_of_le h a.le)).trans (a.eq i h), fun x vs h => b.tup x vs (a.tup x vs h), fun x q h => b.cod x q (a.cod x q h), fun x o q d h => b.frz x o q d (a.frz x o q d h)⟩
mutual
theorem RV.mono (e : Ext f n H f' n' H') {x : PV} {v : V} : RV c f n H x v → RV c f' n' H' x v
  | .non => .non
  | .bl b => .bl b
  | .int i => .int i
  | .str s => .str s
  | .tup h r => .tup (e.tup _ _ h) (RVs.mono e r)
  | .ref h => by
    have q := RV.ref (c := c) (f := f') (H := H') (Nat.lt_of_lt_of_le h e.le)
    rw [e.eq _ h] at q
    exact q
  | .fn k => .fn k
theorem RVs.mono (e : Ext f n H f' n' H') {xs : List PV} {vs : List V} : RVs c f n H xs vs → RVs c f' n' H' xs vs
  | .nil => .nil
  | .cons h r => .cons (RV.mono e h) (RVs.mono e r)
end
theorem RVs.length : ∀ {xs : List PV} {vs : List V}, RVs c f n H xs vs → xs.length = vs.length
  | [], [], _ => rfl
  | _ :: _, _ :: _, .cons _ r => congrArg (· + 1) r.length
theorem RVs.app : ∀ {xs ys : List PV} {vs ws : List V}, RVs c f n H xs vs → RVs c f n H ys ws → RVs c f n H (xs ++ ys) (vs ++ ws)
  | [], _, [], _, _, h => h
  | _ :: _, _, _ :: _, _, .cons r t, h => .cons r (t.app h)
theorem RVs.get : ∀ {xs : List PV} {vs : List V}, RVs c f n H xs vs → ∀ (i : Nat) (x : PV), xs[i]? = some x → ∃ v, vs[i]? = some v ∧ RV c f n H x v
  | _ :: _, _ :: _, .cons r t, 0, x, h => by
    rw [List.getElem?_cons_zero] at h
    cases h
    exact ⟨_, rfl, r⟩
  | _ :: _, _ :: _, .cons r t, i + 1, x, h => by
    rw [List.getElem?_cons_succ] at h
    obtain ⟨v, e, q⟩ := RVs.get t i x h
    exact ⟨v, by rw [List.getElem?_cons_succ]; exact e, q⟩
  | [], [], .nil, i, x, h => by simp at h
theorem RVs.set : ∀ {xs : List PV} {vs : List V} (i : Nat) {x : PV} {v : V}, RVs c f n H xs vs → RV c f n H x v → RVs c f n H (xs.set i x) (vs.set i v)
  | [], [], _, _, _, .nil, _ => .nil
  | _ :: _, _ :: _, 0, _, _, .cons _ t, h => .cons h t
  | _ :: _, _ :: _, i + 1, _, _, .cons r t, h => .cons r (t.set i h)
theorem RVs.take : ∀ {xs : List PV} {vs : List V} (i : Nat), RVs c f n H xs vs → RVs c f n H (xs.take i) (vs.take i)
  | _, _, 0, _ => by rw [List.take_zero, List.take_zero]; exact .nil
  | [], [], i + 1, .nil => .nil
  | _ :: _, _ :: _, i + 1, .cons r t => .cons r (t.take i)
theorem RVs.drop : ∀ {xs : List PV} {vs : List V} (i : Nat), RVs c f n H xs vs → RVs c f n H (xs.drop i) (vs.drop i)
  | _, _, 0, h => h
  | [], [], i + 1, .nil => .nil
  | _ :: _, _ :: _, i + 1, .cons _ t => t.drop i
theorem RVs.rep {xs : List PV} {vs : List V} (r : RVs c f n H xs vs) : ∀ k : Nat, RVs c f n H (List.replicate k xs).flatten (List.replicate k vs).flatten
  | 0 => .nil
  | k + 1 => by
    rw [List.replicate_succ, List.replicate_succ, List.flatten_cons, List.flatten_cons]
    exact r.app (r.rep k)
theorem RVs.dropLast : ∀ {xs : List PV} {vs : List V}, RVs c f n H xs vs → RVs c f n H xs.dropLast vs.dropLast
  | [], [], .nil => .nil
  | [_], [_], .cons _ .nil => .nil
  | _ :: _ :: _, _ :: _ :: _, .cons r (.cons r2 t) => .cons r (RVs.dropLast (.cons r2 t))
theorem RVs.cut {xs : List PV} {vs : List V} (r : RVs c f n H xs vs) (lo hi : Option Int) : RVs c f n H (cutP xs lo hi) (cutV vs lo hi) := by
  unfold cutP cutV
  rw [r.length]
  exact (r.drop _).take _

inductive RD {κ κ' : Type} (e : κ → κ') (c : Rc) (f : Nat → Addr) (n : Nat) (H : Hp) : List (κ × PV) → List (κ' × V) → Prop where
  | nil : RD e c f n H [] []
  | cons {k : κ} {x : PV} {v : V} {r : List (κ × PV)} {s : List (κ' × V)} : RV c f n H x v → RD e c f n H r s → RD e c f n H ((k, x) :: r) ((e k, v) :: s)
theorem RD.mono {κ κ' : Type} {ek : κ → κ'} (e : Ext f n H f' n' H') : ∀ {r : List (κ × PV)} {s : List (κ' × V)}, RD ek c f n H r s → RD ek c f' n' H' r s
  | _, _, .nil => .nil
  | _, _, .cons h t => .cons (h.mono e) (RD.mono e t)
theorem RD.length {κ κ' : Type} {ek : κ → κ'} : ∀ {r : List (κ × PV)} {s : List (κ' × V)}, RD ek c f n H r s → r.length = s.length
  | _, _, .nil => rfl
  | _, _, .cons _ t => congrArg (· + 1) t.length
theorem RD.val {κ κ' : Type} [DecidableEq κ] [DecidableEq κ'] {ek : κ → κ'} (inj : ∀ a b, ek a = ek b → a = b) (k : κ) : ∀ {r : List (κ × PV)} {s : List (κ' × V)}, RD ek c f n H r s → (valG k r = none ∧ valV s (ek k) = none) ∨ ∃ x v, valG k r = some x ∧ valV s (ek k) = some v ∧ RV c f n H x v
  | _, _, .nil => .inl ⟨rfl, rfl⟩
  | _, _, .cons (k := j) (x := x) (v := v) (r := r) (s := s) h t => by
    by_cases hk : j = k
    · subst hk
      refine .inr ⟨x, v, ?_, valV_pos rfl, h⟩
      unfold valG
      rw [decide_eq_true rfl]
    · have h1 : valG k ((j, x) :: r) = valG k r := by
        show (match decide (j = k) with | true => some x | false => valG k r) = _
        rw [decide_eq_false hk]
      rw [h1, valV_neg (fun z => hk (inj _ _ z))]
      exact t.val inj k
theorem putK_cons_pos {κ : Type} [DecidableEq κ] {k : κ} {v w : V} {r : List (κ × V)} (nd : valV r k = none) : putK ((k, w) :: r) k v = (k, v) :: r := by
  unfold putK
  rw [if_pos (by simp)]
  rw [List.map_cons, if_pos rfl]
  congr 1
  have key : ∀ l : List (κ × V), valV l k = none → (l.map fun kv => if kv.1 = k then (kv.1, v) else kv) = l := by
    intro l
    induction l with
    | nil => intro _; rfl
    | cons p l ih =>
      intro hn
      by_cases hp : p.1 = k
      · rw [valV_pos hp] at hn; cases hn
      · rw [valV_neg hp] at hn
        rw [List.map_cons, if_neg hp, ih hn]
  exact key r nd
theorem putK_cons_neg {κ : Type} [DecidableEq κ] {k j : κ} {v w : V} {r : List (κ × V)} (hk : ¬ j = k) : putK ((j, w) :: r) k v = (j, w) :: putK r k v := by
  unfold putK
  by_cases ha : (r.any fun kv => decide (kv.1 = k)) = true
  · rw [if_pos (by rw [List.any_cons, ha, Bool.or_true]), if_pos ha, List.map_cons, if_neg hk]
  · rw [if_neg (by rw [List.any_cons]; simpa [hk] using ha), if_neg ha]
    rfl
def NoTw {κ : Type} [DecidableEq κ] : List (κ × V) → Prop
  | [] => True
  | p :: r => valV r p.1 = none ∧ NoTw r
theorem valV_putK_ne {κ : Type} [DecidableEq κ] {k j : κ} {v : V} (hk : ¬ j = k) : ∀ r : List (κ × V), valV r j = none → valV (putK r k v) j = none := fun r h => by
  rw [valV_put, if_neg hk]
  exact h
theorem NoTw.put {κ : Type} [DecidableEq κ] {k : κ} {v : V} : ∀ {r : List (κ × V)}, NoTw r → NoTw (putK r k v)
  | [], _ => by
    have e : putK ([] : List (κ × V)) k v = [(k, v)] := rfl
    rw [e]
    exact ⟨rfl, trivial⟩
  | (j, w) :: r, h => by
    by_cases hk : j = k
    · subst hk
      rw [putK_cons_pos h.1]
      exact h
    · rw [putK_cons_neg hk]
      exact ⟨valV_putK_ne hk r h.1, NoTw.put h.2⟩
theorem RD.put {κ κ' : Type} [DecidableEq κ] [DecidableEq κ'] {ek : κ → κ'} (inj : ∀ a b, ek a = ek b → a = b) (k : κ) {x : PV} {v : V} (rv : RV c f n H x v) : ∀ {r : List (κ × PV)} {s : List (κ' × V)}, RD ek c f n H r s → NoTw s → RD ek c f n H (putG k x r) (putK s (ek k) v)
  | _, _, .nil, _ => .cons rv .nil
  | _, _, .cons (k := j) (x := y) (v := w) (r := r) (s := s) h t, nt => by
    by_cases hk : j = k
    · subst hk
      rw [putK_cons_pos nt.1]
      have h1 : putG j x ((j, y) :: r) = (j, x) :: r := by
        show (match decide (j = j) with | true => (j, x) :: r | false => (j, y) :: putG j x r) = _
        rw [decide_eq_true rfl]
      rw [h1]
      exact .cons rv t
    · rw [putK_cons_neg (fun z => hk (inj _ _ z))]
      have h1 : putG k x ((j, y) :: r) = (j, y) :: putG k x r := by
        show (match decide (j = k) with | true => (j, x) :: r | false => (j, y) :: putG k x r) = _
        rw [decide_eq_false hk]
      rw [h1]
      exact .cons h (t.put inj k rv nt.2)
def kI (i : Int) : Key := .inl i
def kT (is : List Int) : List Key := is.map kI
theorem kI_inj (a b : Int) (h : kI a = kI b) : a = b := by
  cases h
  rfl
theorem kT_inj : ∀ a b : List Int, kT a = kT b → a = b
  | [], [], _ => rfl
  | [], _ :: _, h => by cases h
  | _ :: _, [], h => by cases h
  | x :: a, y :: b, h => by
    have h1 := List.cons.inj h
    rw [kI_inj _ _ h1.1, kT_inj a b h1.2]
def kS (s : Str) : Str := s
theorem RD.look {f : Nat → Addr} {n : Nat} {H : Hp} (k : Str) : ∀ {r : List (Str × PV)} {s : List (Str × V)}, RD kS c f n H r s → (valG k r = none ∧ s.lookup k = none) ∨ ∃ x v, valG k r = some x ∧ s.lookup k = some v ∧ RV c f n H x v
  | _, _, .nil => .inl ⟨rfl, rfl⟩
  | _, _, .cons (k := j) (x := x) (v := v) (r := r) (s := s) h t => by
    have h1 : valG k ((j, x) :: r) = match decide (j = k) with | true => some x | false => valG k r := rfl
    rw [h1]
    show (_ ∧ List.lookup k ((j, v) :: s) = none) ∨ ∃ y w, _ = some y ∧ List.lookup k ((j, v) :: s) = some w ∧ _
    rw [List.lookup_cons]
    by_cases hk : j = k
    · rw [decide_eq_true hk, show (k == j) = true from beq_iff_eq.mpr hk.symm]
      exact .inr ⟨x, v, rfl, rfl, h⟩
    · rw [decide_eq_false hk, show (k == j) = false from beq_eq_false_iff_ne.mpr fun z => hk z.symm]
      exact RD.look k t
theorem RD.putF {f : Nat → Addr} {n : Nat} {H : Hp} (k : Str) {x : PV} {v : V} (rv : RV c f n H x v) : ∀ {r : List (Str × PV)} {s : List (Str × V)}, RD kS c f n H r s → RD kS c f n H (putG k x r) (L2.putF k v s)
  | _, _, .nil => .cons (e := kS) rv .nil
  | _, _, .cons (k := j) (x := y) (v := u) (r := r) (s := s) h t => by
    have e1 : putG k x ((j, y) :: r) = match decide (j = k) with | true => (j, x) :: r | false => (j, y) :: putG k x r := rfl
    rw [e1]
    show RD kS c f n H _ (L2.putF k v ((j, u) :: s))
    unfold L2.putF
    by_cases hk : j = k
    · rw [decide_eq_true hk, if_pos hk]
      exact .cons (e := kS) rv t
    · rw [decide_eq_false hk, if_neg hk]
      exact .cons (e := kS) h (RD.putF k rv t)
mutual
inductive NK (H : Hp) : NestedKey → V → Prop where
  | non : NK H .none .non
  | bl (b : Bool) : NK H (.num (if b = true then 1 else 0)) (.bl b)
  | int (i : Int) : NK H (.num i) (.int i)
  | str (s : Str) : NK H (.text s) (.str s)
  | tup {a : Addr} {vs : List V} {ks : List NestedKey} : H a = some (.tup vs) → NKs H ks vs → NK H (.tup ks) (.ref a)
inductive NKs (H : Hp) : List NestedKey → List V → Prop where
  | nil : NKs H [] []
  | cons {k : NestedKey} {v : V} {ks : List NestedKey} {vs : List V} : NK H k v → NKs H ks vs → NKs H (k :: ks) (v :: vs)
end
mutual
theorem NK.tmap {H H' : Hp} (e : ∀ a vs, H a = some (.tup vs) → H' a = some (.tup vs)) {k : NestedKey} {v : V} : NK H k v → NK H' k v
  | .non => .non
  | .bl b => .bl b
  | .int i => .int i
  | .str s => .str s
  | .tup h r => .tup (e _ _ h) (NKs.tmap e r)
theorem NKs.tmap {H H' : Hp} (e : ∀ a vs, H a = some (.tup vs) → H' a = some (.tup vs)) {ks : List NestedKey} {vs : List V} : NKs H ks vs → NKs H' ks vs
  | .nil => .nil
  | .cons h r => .cons (NK.tmap e h) (NKs.tmap e r)
end
mutual
theorem nk_of : ∀ {x : PV} {v : V} {k : NestedKey}, RV c f n H x v → nkO x = some k → NK H k v
  | _, _, _, .non, e => by
    rw [nkO] at e
    cases e
    exact .non
  | _, _, _, .bl b, e => by
    rw [nkO] at e
    cases e
    exact .bl b
  | _, _, _, .int i, e => by
    rw [nkO] at e
    cases e
    exact .int i
  | _, _, _, .str s, e => by
    rw [nkO] at e
    cases e
    exact .str s
  | _, _, _, .tup h r, e => by
    rw [nkO] at e
    split at e
    · rename_i ks ek
      cases e
      exact .tup h (nks_of r ek)
    · cases e
  | _, _, _, .ref h, e => by
    rw [nkO] at e
    cases e
  | _, _, _, .fn k, e => by
    rw [nkO] at e
    cases e
theorem nks_of : ∀ {xs : List PV} {vs : List V} {ks : List NestedKey}, RVs c f n H xs vs → nkA xs = some ks → NKs H ks vs
  | _, _, _, .nil, e => by
    rw [nkA] at e
    cases e
    exact .nil
  | _, _, _, .cons h r, e => by
    rw [nkA] at e
    split at e
    · rename_i k ek
      split at e
      · rename_i ks eks
        cases e
        exact .cons (nk_of h ek) (nks_of r eks)
      · cases e
    · cases e
end
theorem keyN_at {y : PV} {w : V} {k : NestedKey} (r : RV c f n H y w) (e : keyN y = some k) : ∃ b, w = .ref b ∧ NK H k w ∧ k.depth ≤ 8 := by
  unfold keyN at e
  split at e
  · split at e
    · rename_i k' ek
      split at e
      · rename_i eb
        cases e
        have z := nk_of r ek
        cases r with
        | tup h1 h2 => exact ⟨_, rfl, z, Nat.le_of_ble_eq_true eb⟩
      · cases e
    · cases e
  · cases e
abbrev NE := NestedKey × Addr × V
def valN (k : NestedKey) : List NE → Option V
  | [] => none
  | p :: r => match decide (p.1 = k) with
    | true => some p.2.2
    | false => valN k r
def putN (k : NestedKey) (b : Addr) (v : V) : List NE → List NE
  | [] => [(k, b, v)]
  | p :: r => match decide (p.1 = k) with
    | true => (p.1, p.2.1, v) :: r
    | false => p :: putN k b v r
def DictR (w : World) (h : Heap) (a : Addr) (es : List NE) : Prop :=
  es.length ≤ sizeLine ∧ (a == sysModules) = false ∧ ∃ xs : List (NestedKey × Addr × Value), Paired (fun (p : NE) (q : NestedKey × Addr × Value) => p.1 = q.1 ∧ p.2.1 = q.2.1 ∧ RelV p.2.2 q.2.2) es xs ∧
    ∃ o dd ep, h.get? a = some o ∧ o.ExactDict ∧ o.data = .dict dd ep ∧ dd.toList = xs.map (fun x => (⟨x.1.hash w, .ref x.2.1, x.2.2⟩ : DictEntry)) ∧ (xs.map (·.1)).Nodup
def DictN (w : World) (a : Addr) (es : List NE) : HO := .ext fun h => DictR w h a es
def pkVs (q : PK) : List V := match q.1 with
  | none => [.non, .int q.2]
  | some i => [.int i, .int q.2]
def KX (H : Hp) (k : NestedKey) (b : Addr) : Prop := ∀ q, pkOf k = some q → H b = some (.tup (pkVs q))
inductive RN (c : Rc) (f : Nat → Addr) (n : Nat) (H : Hp) : List (NestedKey × PV) → List NE → Prop where
  | nil : RN c f n H [] []
  | cons {k : NestedKey} {x : PV} {b : Addr} {v : V} {r : List (NestedKey × PV)} {s : List NE} : NK H k (.ref b) → k.depth ≤ 8 → KX H k b → RV c f n H x v → RN c f n H r s → RN c f n H ((k, x) :: r) ((k, b, v) :: s)
theorem RN.mono (e : Ext f n H f' n' H') : ∀ {r : List (NestedKey × PV)} {s : List NE}, RN c f n H r s → RN c f' n' H' r s
  | _, _, .nil => .nil
  | _, _, .cons a b kx h t => .cons (a.tmap e.tup) b (fun q hq => e.tup _ _ (kx q hq)) (h.mono e) (RN.mono e t)
theorem RN.length : ∀ {r : List (NestedKey × PV)} {s : List NE}, RN c f n H r s → r.length = s.length
  | _, _, .nil => rfl
  | _, _, .cons _ _ _ _ t => congrArg (· + 1) t.length
theorem RN.keys : ∀ {r : List (NestedKey × PV)} {s : List NE}, RN c f n H r s → r.map (·.1) = s.map (·.1)
  | _, _, .nil => rfl
  | _, _, .cons _ _ _ _ t => congrArg (_ :: ·) t.keys
theorem RN.val (k : NestedKey) : ∀ {r : List (NestedKey × PV)} {s : List NE}, RN c f n H r s → (valG k r = none ∧ valN k s = none) ∨ ∃ x v, valG k r = some x ∧ valN k s = some v ∧ RV c f n H x v
  | _, _, .nil => .inl ⟨rfl, rfl⟩
  | _, _, .cons (k := j) (x := x) (b := b) (v := v) (r := r) (s := s) _ _ _ h t => by
    have h1 : valG k ((j, x) :: r) = match decide (j = k) with | true => some x | false => valG k r := rfl
    have h2 : valN k ((j, b, v) :: s) = match decide (j = k) with | true => some v | false => valN k s := rfl
    rw [h1, h2]
    by_cases hk : j = k
    · rw [decide_eq_true hk]
      exact .inr ⟨x, v, rfl, rfl, h⟩
    · rw [decide_eq_false hk]
      exact RN.val k t
theorem RN.put (k : NestedKey) {b : Addr} {x : PV} {v : V} (nk : NK H k (.ref b)) (dp : k.depth ≤ 8) (kx : KX H k b) (rv : RV c f n H x v) : ∀ {r : List (NestedKey × PV)} {s : List NE}, RN c f n H r s → RN c f n H (putG k x r) (putN k b v s)
  | _, _, .nil => .cons nk dp kx rv .nil
  | _, _, .cons (k := j) (x := y) (b := b') (v := u) (r := r) (s := s) h1 h2 hx h3 t => by
    have e1 : putG k x ((j, y) :: r) = match decide (j = k) with | true => (j, x) :: r | false => (j, y) :: putG k x r := rfl
    have e2 : putN k b v ((j, b', u) :: s) = match decide (j = k) with | true => (j, b', v) :: s | false => (j, b', u) :: putN k b v s := rfl
    rw [e1, e2]
    by_cases hk : j = k
    · rw [decide_eq_true hk]
      exact .cons h1 h2 hx rv t
    · rw [decide_eq_false hk]
      exact .cons h1 h2 hx h3 (RN.put k nk dp kx rv t)
theorem putNG_len (k : NestedKey) (x : PV) : ∀ r : List (NestedKey × PV), (putG k x r).length ≤ r.length + 1
  | [] => Nat.le_refl _
  | (j, y) :: r => by
    have e1 : putG k x ((j, y) :: r) = match decide (j = k) with | true => (j, x) :: r | false => (j, y) :: putG k x r := rfl
    rw [e1]
    cases decide (j = k) with
    | true => exact Nat.le_succ _
    | false => exact Nat.succ_le_succ (putNG_len k x r)
theorem putNG_mem (k : NestedKey) (x : PV) : ∀ (r : List (NestedKey × PV)) (j : NestedKey), j ∈ (putG k x r).map (·.1) → j = k ∨ j ∈ r.map (·.1)
  | [], j, h => .inl (List.mem_singleton.mp h)
  | (i, y) :: r, j, h => by
    have e1 : putG k x ((i, y) :: r) = match decide (i = k) with | true => (i, x) :: r | false => (i, y) :: putG k x r := rfl
    rw [e1] at h
    cases e : decide (i = k) with
    | true =>
      rw [e] at h
      exact .inr h
    | false =>
      rw [e] at h
      rcases List.mem_cons.mp h with h | h
      · exact .inr (by rw [h]; exact List.mem_cons_self)
      · rcases putNG_mem k x r j h with h | h
        · exact .inl h
        · exact .inr (List.mem_cons_of_mem _ h)
theorem putNG_nd (k : NestedKey) (x : PV) : ∀ r : List (NestedKey × PV), (r.map (·.1)).Nodup → ((putG k x r).map (·.1)).Nodup
  | [], _ => List.nodup_cons.mpr ⟨List.not_mem_nil, List.nodup_nil⟩
  | (j, y) :: r, h => by
    have e1 : putG k x ((j, y) :: r) = match decide (j = k) with | true => (j, x) :: r | false => (j, y) :: putG k x r := rfl
    rw [e1]
    rw [List.map_cons, List.nodup_cons] at h
    cases e : decide (j = k) with
    | true => exact List.nodup_cons.mpr h
    | false =>
      refine List.nodup_cons.mpr ⟨fun z => ?_, putNG_nd k x r h.2⟩
      rcases putNG_mem k x r _ z with z | z
      · exact of_decide_eq_false e z
      · exact h.1 z
def dicO (dd : Array DictEntry) : Obj := { cls := .type "dict", data := .dict dd }
def hpN : Nat → Heap
  | 0 => {}
  | n + 1 => (hpN n).push (dicO #[])
theorem hpN_size : ∀ n, (hpN n).objs.size = n
  | 0 => rfl
  | n + 1 => by
    show ((hpN n).push (dicO #[])).objs.size = n + 1
    rw [Heap.size_push, hpN_size n]
theorem hpN_dict : ∀ (n : Nat) (a : Addr) (o : Obj), (hpN n).get? a = some o → ∃ dd ep, o.data = .dict dd ep
  | 0, a, o, h => by
    have := Heap.lt_size h
    exact absurd this (Nat.not_lt_zero _)
  | n + 1, a, o, h => by
    have h : ((hpN n).push (dicO #[])).get? a = some o := h
    rcases Heap.get?_push_cases h with ⟨_, e⟩ | q
    · rw [e]
      exact ⟨_, _, rfl⟩
    · exact hpN_dict n a o q
theorem v_some : ∀ v : V, ∃ u, RelV v u
  | .non => ⟨_, rfl⟩
  | .bl b => ⟨_, rfl⟩
  | .int i => ⟨.int i 0, _, rfl⟩
  | .str x => ⟨.str x 0, _, rfl⟩
  | .byt b => ⟨.bytes b 0, _, rfl⟩
  | .flt b => ⟨.float b 0, _, rfl⟩
  | .ref a => ⟨_, rfl⟩
  | .ty n => ⟨_, rfl⟩
theorem ne_some : ∀ es : List NE, ∃ xs : List (NestedKey × Addr × Value), Paired (fun (p : NE) (q : NestedKey × Addr × Value) => p.1 = q.1 ∧ p.2.1 = q.2.1 ∧ RelV p.2.2 q.2.2) es xs ∧ xs.map (·.1) = es.map (·.1)
  | [] => ⟨[], .nil, rfl⟩
  | (k, b, v) :: es => by
    obtain ⟨u, hu⟩ := v_some v
    obtain ⟨xs, h1, h2⟩ := ne_some es
    exact ⟨(k, b, u) :: xs, .cons ⟨rfl, rfl, hu⟩ h1, congrArg (k :: ·) h2⟩
theorem sat_N (w : World) (a : Addr) (es : List NE) (hl : es.length ≤ sizeLine) (ha : (a == sysModules) = false) (nd : (es.map (·.1)).Nodup) : ∃ h : Heap, DictR w h a es ∧ ∀ b o, h.get? b = some o → ∃ dd ep, o.data = .dict dd ep := by
  obtain ⟨xs, h1, h2⟩ := ne_some es
  have sz := hpN_size a
  have g : ((hpN a).push (dicO (xs.map (fun x => (⟨x.1.hash w, .ref x.2.1, x.2.2⟩ : DictEntry))).toArray)).get? a = some (dicO (xs.map (fun x => (⟨x.1.hash w, .ref x.2.1, x.2.2⟩ : DictEntry))).toArray) := by
    have z := Heap.get?_push_size (h := hpN a) (o := dicO (xs.map (fun x => (⟨x.1.hash w, .ref x.2.1, x.2.2⟩ : DictEntry))).toArray) (by rfl)
    rw [sz] at z
    exact z
  refine ⟨_, ⟨hl, ha, xs, h1, _, _, _, g, ⟨rfl, rfl, rfl⟩, rfl, rfl, by rw [h2]; exact nd⟩, fun b o q => ?_⟩
  rcases Heap.get?_push_cases q with ⟨_, e⟩ | q
  · rw [e]
    exact ⟨_, _, rfl⟩
  · exact hpN_dict a b o q
theorem DictN.no_set {w w' : World} {a : Addr} {es : List NE} (hl : es.length ≤ sizeLine) (ha : (a == sysModules) = false) (nd : (es.map (·.1)).Nodup) (S : Int → Bool) (k : Nat) : DictN w a es ≠ SetO w' a S k := fun z => by
  obtain ⟨h, h1, h2⟩ := sat_N w a es hl ha nd
  unfold DictN SetO at z
  have z := congrFun (HO.ext.inj z) h
  have y : SetR w' h a S k := by rw [← z]; exact h1
  obtain ⟨o, _, _, _, ho, _, hd, _⟩ := y
  obtain ⟨dd, ep, e⟩ := h2 _ _ ho
  rw [e] at hd
  cases hd
theorem DictN.no_setT {w w' : World} {a : Addr} {es : List NE} (hl : es.length ≤ sizeLine) (ha : (a == sysModules) = false) (nd : (es.map (·.1)).Nodup) (P : Program) (L : List (Addr × List Int)) : DictN w a es ≠ SetTO P w' a L := fun z => by
  obtain ⟨h, h1, h2⟩ := sat_N w a es hl ha nd
  unfold DictN SetTO at z
  have z := congrFun (HO.ext.inj z) h
  have y : SetT0 P w' h a L := by rw [← z]; exact h1
  obtain ⟨es', ep', t', ⟨o, ho, _, hd⟩, _⟩ := y.ex
  obtain ⟨dd, ep, e⟩ := h2 _ _ ho
  rw [e] at hd
  cases hd
theorem DictN.no_code {w : World} {a : Addr} {es : List NE} (hl : es.length ≤ sizeLine) (ha : (a == sysModules) = false) (nd : (es.map (·.1)).Nodup) (b : Addr) (q : Str) : DictN w a es ≠ LamX.CodeO b q := fun z => by
  obtain ⟨h, h1, h2⟩ := sat_N w a es hl ha nd
  unfold DictN LamX.CodeO at z
  have z := congrFun (HO.ext.inj z) h
  have y := h1
  rw [z] at y
  obtain ⟨o, vs, t, ho, hd, _⟩ := y
  obtain ⟨dd, ep, e⟩ := h2 _ _ ho
  rw [e] at hd
  cases hd
inductive RO (c : Rc) (f : Nat → Addr) (n : Nat) (H : Hp) : PO → Addr → Prop where
  | lst {xs : List PV} {vs : List V} {a : Addr} : H a = some (.lst vs) → RVs c f n H xs vs → c.sc ≠ some a → RO c f n H (.lst xs) a
  | fz {xs : List PV} {vs : List V} {a : Addr} : Frz c H a vs → RVs c f n H xs vs → RO c f n H (.fz xs) a
  | set {xs : List Int} {S : Int → Bool} {k : Nat} {a : Addr} : H a = some (SetO c.w a S k) → (∀ j, S j = true ↔ j ∈ xs) → k = xs.length → xs.Nodup → RO c f n H (.set xs) a
  | dK {kvs : List (Int × PV)} {ws : List (Key × V)} {a : Addr} : H a = some (.dK ws) → RD kI c f n H kvs ws → NoTw ws → RO c f n H (.dK kvs) a
  | dT {kvs : List (List Int × PV)} {ws : List (List Key × V)} {a : Addr} : H a = some (.dT ws) → RD kT c f n H kvs ws → NoTw ws → RO c f n H (.dT kvs) a
  | tb {a : Addr} : a = c.tb → LamX.TabS H a c.lq → RO c f n H .tb a
  | lT {kvs : List (List Int × PV)} {ws : List (List Key × V)} {a : Addr} {o : Obj} : H a = some (.frz o (.dT ws)) → RD kT c f n H kvs ws → NoTw ws → RO c f n H (.lT kvs) a
  | lK {kvs : List (Int × PV)} {ws : List (Key × V)} {a : Addr} {o : Obj} : H a = some (.frz o (.dK ws)) → RD kI c f n H kvs ws → NoTw ws → RO c f n H (.lK kvs) a
  | dN {kvs : List (NestedKey × PV)} {es : List NE} {a : Addr} : H a = some (DictN c.w a es) → RN c f n H kvs es → kvs.length ≤ sizeLine ∧ (a == sysModules) = false ∧ (kvs.map (·.1)).Nodup → RO c f n H (.dN kvs) a
  | ins {cl : Nat} {fs : List (Str × PV)} {dx : Addr} {ws : List (Str × V)} {a : Addr} : H a = some (.ins (c.L cl) dx ws) → RD kS c f n H fs ws → c.isC cl = true → RO c f n H (.ins cl fs) a
  | setT {ts : List (List Int)} {P : Program} {L : List (Addr × List Int)} {a : Addr} : H a = some (SetTO P c.w a L) → (∀ p ∈ L, H p.1 = some (.tup (p.2.map V.int))) → (∀ k, k ∈ L.map (·.2) ↔ k ∈ ts) → ts.Nodup → RO c f n H (.setT ts) a
def mutO : PO → Bool
  | .lst _ => true
  | .dK _ => true
  | .dT _ => true
  | .lT _ => true
  | .lK _ => true
  | .dN _ => true
  | .ins _ _ => true
  | _ => false
structure Rel (c : Rc) (f : Nat → Addr) (h : PH) (H : Hp) : Prop where
  len : h.os.length = h.n
  obj : ∀ i o, h.get i = some o → RO c f h.n H o (f i)
  inj : ∀ i j o u, h.get i = some o → h.get j = some u → mutO o = true → mutO u = true → f i = f j → i = j
  scr : ∀ a, c.sc = some a → ∃ xs, H a = some (.lst xs)
theorem get_lt {h : PH} {i : Nat} {o : PO} (e : h.get i = some o) : i < h.n := by
  unfold PH.get at e
  split at e
  · rename_i hb
    exact Nat.le_of_ble_eq_true hb
  · cases e
theorem get_at {h : PH} {i : Nat} (hi : i < h.n) : h.get i = h.os[h.n - 1 - i]? := by
  unfold PH.get
  rw [show Nat.blt i h.n = true from Nat.ble_eq_true_of_le hi]
theorem get_push {h : PH} {o : PO} (i : Nat) : (h.push o).get i = if i = h.n then some o else h.get i := by
  unfold PH.push
  by_cases e : i = h.n
  · subst e
    rw [if_pos rfl, get_at (h := ⟨h.n + 1, o :: h.os⟩) (Nat.lt_succ_self _)]
    show (o :: h.os)[h.n + 1 - 1 - h.n]? = some o
    rw [Nat.add_sub_cancel, Nat.sub_self, List.getElem?_cons_zero]
  · rw [if_neg e]
    by_cases hi : i < h.n
    · rw [get_at (h := ⟨h.n + 1, o :: h.os⟩) (Nat.lt_succ_of_lt hi), get_at hi]
      show (o :: h.os)[h.n + 1 - 1 - i]? = _
      rw [show h.n + 1 - 1 - i = (h.n - 1 - i) + 1 by omega, List.getElem?_cons_succ]
    · have h1 : ∀ g : PH, ¬ i < g.n → g.get i = none := fun g hg => by
        cases q : g.get i with
        | none => rfl
        | some u => exact absurd (get_lt q) hg
      rw [h1 h hi, h1 _ (show ¬ i < h.n + 1 by omega)]
theorem get_set {h : PH} {j : Nat} {o : PO} (len : h.os.length = h.n) (hj : j < h.n) (i : Nat) : (h.set j o).get i = if i = j then some o else h.get i := by
  unfold PH.set
  by_cases hi : i < h.n
  · rw [get_at (h := ⟨h.n, h.os.set (h.n - 1 - j) o⟩) hi, get_at hi]
    show (h.os.set (h.n - 1 - j) o)[h.n - 1 - i]? = _
    by_cases e : i = j
    · subst e
      rw [if_pos rfl, List.getElem?_set_self (by omega)]
    · rw [if_neg e, List.getElem?_set_ne (by omega)]
  · have h1 : ∀ g : PH, ¬ i < g.n → g.get i = none := fun g hg => by
      cases q : g.get i with
      | none => rfl
      | some u => exact absurd (get_lt q) hg
    rw [if_neg (show i ≠ j by omega)]
    exact (h1 ⟨h.n, h.os.set (h.n - 1 - j) o⟩ hi).trans (h1 h hi).symm

theorem RO.mono {o : PO} {a : Addr} (e : Ext f n H f' n' H') (hk : ∀ u, H a = some u → H' a = some u) : RO c f n H o a → RO c f' n' H' o a
  | .lst h r n => .lst (hk _ h) (r.mono e) n
  | .fz h r => .fz (by
    rcases h with ⟨ob, h⟩ | h | h
    · exact .inl ⟨ob, hk _ h⟩
    · exact .inr (.inl h)
    · exact .inr (.inr ⟨h.1, hk _ h.2⟩)) (r.mono e)
  | .set h a b c => .set (hk _ h) a b c
  | .setT h a b c => .setT (hk _ h) (fun p hp => e.tup _ _ (a p hp)) b c
  | .dK h r t => .dK (hk _ h) (r.mono e) t
  | .dT h r t => .dT (hk _ h) (r.mono e) t
  | .lT h r t => .lT (hk _ h) (r.mono e) t
  | .lK h r t => .lK (hk _ h) (r.mono e) t
  | .dN h r t => .dN (hk _ h) (r.mono e) t
  | .ins h r t => .ins (hk _ h) (r.mono e) t
  | .tb h t => .tb h (by
    obtain ⟨ps, h1, h2, h3⟩ := t
    exact ⟨ps, hk _ h1, h2, fun pos cv hc => let ⟨cc, e1, e2⟩ := h3 pos cv hc; ⟨cc, e1, e.cod _ _ e2⟩⟩)
theorem Rel.same {h : PH} (r : Rel c f h H) (s : Same H H') : Rel c f h H' ∧ Ext f h.n H f h.n H' := by
  have e : Ext f h.n H f h.n H' := ⟨Nat.le_refl _, fun _ _ => rfl, fun a vs q => s a _ q, fun a qq q => s a _ q, fun a o qq _ q => s a _ q⟩
  exact ⟨⟨r.len, fun i o q => (r.obj i o q).mono e (fun u z => s _ _ z), r.inj, fun a q => let ⟨xs, z⟩ := r.scr a q; ⟨xs, s _ _ z⟩⟩, e⟩
theorem same_upd {p : Addr} {o : HO} (hp : H p = none) : Same H (upd H p o) := fun b u q => by
  rw [upd_ne (ne_of_none q hp)]
  exact q
def ext1 (f : Nat → Addr) (n : Nat) (p : Addr) : Nat → Addr := fun i => if i = n then p else f i
theorem ext1_at {p : Addr} : ext1 f n p n = p := by unfold ext1; rw [if_pos rfl]
theorem ext1_lt {p : Addr} {i : Nat} (h : i < n) : ext1 f n p i = f i := by unfold ext1; rw [if_neg (Nat.ne_of_lt h)]
theorem Rel.lays {h : PH} {p : Addr} {o : PO} {u : HO} (r : Rel c f h H) (hp : H p = none) (ro : RO c (ext1 f h.n p) (h.n + 1) (upd H p u) o p) :
    Rel c (ext1 f h.n p) (h.push o) (upd H p u) ∧ Ext f h.n H (ext1 f h.n p) (h.n + 1) (upd H p u) := by
  have s : Same H (upd H p u) := same_upd hp
  have e : Ext f h.n H (ext1 f h.n p) (h.n + 1) (upd H p u) := ⟨Nat.le_succ _, fun i hi => ext1_lt hi, fun a ws q => s a _ q, fun a qq q => s a _ q, fun a o qq _ q => s a _ q⟩
  refine ⟨⟨by show (o :: h.os).length = h.n + 1; rw [List.length_cons, r.len], fun i o q => ?_, fun i j us ws q1 q2 m1 m2 ef => ?_, fun a q => let ⟨xs, z⟩ := r.scr a q; ⟨xs, s _ _ z⟩⟩, e⟩
  · rw [get_push] at q
    by_cases hi : i = h.n
    · rw [if_pos hi] at q
      cases q
      subst hi
      rw [ext1_at]
      exact ro
    · rw [if_neg hi] at q
      rw [ext1_lt (get_lt q)]
      exact (r.obj i o q).mono e (fun u z => s _ _ z)
  · rw [get_push] at q1 q2
    have old : ∀ k u, h.get k = some u → mutO u = true → f k ≠ p := fun k u q m z => by
      cases r.obj k _ q with
      | lst h1 _ => rw [z, hp] at h1; cases h1
      | dK h1 _ _ => rw [z, hp] at h1; cases h1
      | dT h1 _ _ => rw [z, hp] at h1; cases h1
      | lT h1 _ _ => rw [z, hp] at h1; cases h1
      | lK h1 _ _ => rw [z, hp] at h1; cases h1
      | dN h1 _ _ => rw [z, hp] at h1; cases h1
      | ins h1 _ _ => rw [z, hp] at h1; cases h1
      | fz _ _ => cases m
      | set _ _ _ _ => cases m
      | setT _ _ _ _ => cases m
      | tb _ _ => cases m
    by_cases hi : i = h.n <;> by_cases hj : j = h.n
    · rw [hi, hj]
    · rw [if_neg hj] at q2
      rw [hi, ext1_at, ext1_lt (get_lt q2)] at ef
      exact absurd ef.symm (old _ _ q2 m2)
    · rw [if_neg hi] at q1
      rw [hj, ext1_at, ext1_lt (get_lt q1)] at ef
      exact absurd ef (old _ _ q1 m1)
    · rw [if_neg hi] at q1
      rw [if_neg hj] at q2
      rw [ext1_lt (get_lt q1), ext1_lt (get_lt q2)] at ef
      exact r.inj _ _ _ _ q1 q2 m1 m2 ef
theorem Rel.laid {h : PH} {p : Addr} {xs : List PV} {vs : List V} (r : Rel c f h H) (hp : H p = none) (rv : RVs c f h.n H xs vs) :
    Rel c (ext1 f h.n p) (h.push (.lst xs)) (upd H p (.lst vs)) ∧ Ext f h.n H (ext1 f h.n p) (h.n + 1) (upd H p (.lst vs)) := by
  have s : Same H (upd H p (.lst vs)) := same_upd hp
  have e : Ext f h.n H (ext1 f h.n p) (h.n + 1) (upd H p (.lst vs)) := ⟨Nat.le_succ _, fun i hi => ext1_lt hi, fun a ws q => s a _ q, fun a qq q => s a _ q, fun a o qq _ q => s a _ q⟩
  exact r.lays hp (.lst upd_same (rv.mono e) (fun z => by
    obtain ⟨ys, q⟩ := r.scr _ z
    rw [hp] at q
    cases q))
theorem Rel.rewrite {h : PH} {i : Nat} {o : PO} {o' : PO} {u u' : HO} (r : Rel c f h H) (hi : h.get i = some o) (m : mutO o = true) (m' : mutO o' = true) (hu : H (f i) = some u) (nt : ∀ vs, u ≠ .tup vs) (nf : ∀ ob vs, u ≠ .frz ob (.lst vs))
    (ns : ∀ S k, u ≠ SetO c.w (f i) S k) (new : ∀ H' : Hp, H' (f i) = some u' → Ext f h.n H f h.n H' → RO c f h.n H' o' (f i)) (nb : ∀ ps, u ≠ .tbl ps := by intro _ z; cases z) (nc : ∀ b q, u ≠ LamX.CodeO b q := by intro _ _ z; unfold LamX.CodeO at z; cases z) (nz : ∀ o v, u ≠ .frz o v := by intro _ _ z; cases z) (nst : ∀ P L, u ≠ SetTO P c.w (f i) L := by intro _ _ z; unfold SetTO at z; cases z) :
    Rel c f (h.set i o') (upd H (f i) u') ∧ Ext f h.n H f h.n (upd H (f i) u') := by
  have scn : c.sc ≠ some (f i) := fun z => by
    obtain ⟨ys, q⟩ := r.scr _ z
    cases r.obj i _ hi with
    | lst h1 h2 h3 => exact h3 z
    | dK h1 _ _ => rw [h1] at q; cases q
    | dT h1 _ _ => rw [h1] at q; cases q
    | lT h1 _ _ => rw [h1] at q; cases q
    | lK h1 _ _ => rw [h1] at q; cases q
    | dN h1 _ _ => rw [h1] at q; unfold DictN at q; cases q
    | ins h1 _ _ => rw [h1] at q; cases q
    | fz _ _ => cases m
    | set _ _ _ _ => cases m
    | setT _ _ _ _ => cases m
    | tb _ _ => cases m
  have e : Ext f h.n H f h.n (upd H (f i) u') := ⟨Nat.le_refl _, fun _ _ => rfl, fun a us q => by
    rw [upd_ne (ne_of q hu (fun z => nt us z.symm))]
    exact q, fun a qq q => by
    rw [upd_ne (ne_of q hu (fun z => nc _ _ z.symm))]
    exact q, fun a o qq _ q => by
    rw [upd_ne (ne_of q hu (fun z => nz _ _ z.symm))]
    exact q⟩
  refine ⟨⟨by show (h.os.set _ _).length = h.n; rw [List.length_set, r.len], fun j v q => ?_, fun j k us zs q1 q2 m1 m2 ef => ?_, fun a q => ?_⟩, e⟩
  · rw [get_set r.len (get_lt hi)] at q
    by_cases hj : j = i
    · rw [if_pos hj] at q
      cases q
      subst hj
      exact new _ upd_same e
    · rw [if_neg hj] at q
      have q' := r.obj j v q
      have ne : mutO v = true → f j ≠ f i := fun mv z => hj (r.inj _ _ _ _ q hi mv m z)
      cases q' with
      | lst h1 h2 h3 => exact .lst (by rw [upd_ne (ne rfl)]; exact h1) (h2.mono e) h3
      | dK h1 h2 h3 => exact .dK (by rw [upd_ne (ne rfl)]; exact h1) (h2.mono e) h3
      | dT h1 h2 h3 => exact .dT (by rw [upd_ne (ne rfl)]; exact h1) (h2.mono e) h3
      | lT h1 h2 h3 => exact .lT (by rw [upd_ne (ne rfl)]; exact h1) (h2.mono e) h3
      | lK h1 h2 h3 => exact .lK (by rw [upd_ne (ne rfl)]; exact h1) (h2.mono e) h3
      | dN h1 h2 h3 => exact .dN (by rw [upd_ne (ne rfl)]; exact h1) (h2.mono e) h3
      | ins h1 h2 h3 => exact .ins (by rw [upd_ne (ne rfl)]; exact h1) (h2.mono e) h3
      | fz h1 h2 =>
        refine .fz ?_ (h2.mono e)
        rcases h1 with ⟨ob, h1⟩ | h1 | h1
        · exact .inl ⟨ob, by rw [upd_ne (ne_of h1 hu (fun z => nf _ _ z.symm))]; exact h1⟩
        · exact .inr (.inl h1)
        · exact .inr (.inr ⟨h1.1, by rw [upd_ne (fun z => scn (by rw [← z]; exact h1.1))]; exact h1.2⟩)
      | tb h1 h2 =>
        obtain ⟨ps, g1, g2, g3⟩ := h2
        exact .tb h1 ⟨ps, by rw [upd_ne (ne_of g1 hu (fun z => nb _ z.symm))]; exact g1, g2, fun pos cv hc => let ⟨cc, e1, e2⟩ := g3 pos cv hc; ⟨cc, e1, e.cod _ _ e2⟩⟩
      | setT h1 h2 h3 h4 =>
        by_cases hz : f j = f i
        · rw [hz, hu] at h1
          exact absurd (Option.some.inj h1) (nst _ _)
        · exact .setT ((upd_ne hz).trans h1) (fun p hp => e.tup _ _ (h2 p hp)) h3 h4
      | set h1 h2 h3 h4 =>
        refine .set ?_ h2 h3 h4
        by_cases hz : f j = f i
        · rw [hz, hu] at h1
          exact absurd (Option.some.inj h1) (ns _ _)
        · rw [upd_ne hz]; exact h1
  · rw [get_set r.len (get_lt hi)] at q1 q2
    have back : ∀ k w, (if k = i then some o' else h.get k) = some w → mutO w = true → ∃ us, h.get k = some us ∧ mutO us = true := fun k w q mw => by
      by_cases hk : k = i
      · exact ⟨o, by rw [hk]; exact hi, m⟩
      · rw [if_neg hk] at q
        exact ⟨_, q, mw⟩
    obtain ⟨_, z1, y1⟩ := back _ _ q1 m1
    obtain ⟨_, z2, y2⟩ := back _ _ q2 m2
    exact r.inj _ _ _ _ z1 z2 y1 y2 ef
  · obtain ⟨xs, z⟩ := r.scr a q
    exact ⟨xs, by rw [upd_ne (fun w => scn (by rw [← w]; exact q))]; exact z⟩
theorem Rel.write {h : PH} {i : Nat} {xs ys : List PV} {vs : List V} (r : Rel c f h H) (hi : h.get i = some (.lst xs)) (rv : RVs c f h.n H ys vs) :
    Rel c f (h.set i (.lst ys)) (upd H (f i) (.lst vs)) ∧ Ext f h.n H f h.n (upd H (f i) (.lst vs)) := by
  obtain ⟨ws, hw, hn⟩ : ∃ ws, H (f i) = some (.lst ws) ∧ c.sc ≠ some (f i) := by
    cases r.obj i _ hi with
    | lst h1 _ h3 => exact ⟨_, h1, h3⟩
  exact r.rewrite hi rfl rfl hw (fun vs z => by cases z) (fun ob vs z => by cases z) (fun S k z => by cases z) fun H' e x => .lst e (rv.mono x) hn
theorem Rel.writeK {h : PH} {i : Nat} {kvs kvs' : List (Int × PV)} {ws : List (Key × V)} (r : Rel c f h H) (hi : h.get i = some (.dK kvs)) (rv : RD kI c f h.n H kvs' ws) (nt : NoTw ws) :
    Rel c f (h.set i (.dK kvs')) (upd H (f i) (.dK ws)) ∧ Ext f h.n H f h.n (upd H (f i) (.dK ws)) := by
  obtain ⟨ws, hw⟩ : ∃ ws, H (f i) = some (.dK ws) := by
    cases r.obj i _ hi with
    | dK h1 _ _ => exact ⟨_, h1⟩
  exact r.rewrite hi rfl rfl hw (fun vs z => by cases z) (fun ob vs z => by cases z) (fun S k z => by cases z) fun H' e x => .dK e (rv.mono x) nt
theorem Rel.writeT {h : PH} {i : Nat} {kvs kvs' : List (List Int × PV)} {ws : List (List Key × V)} (r : Rel c f h H) (hi : h.get i = some (.dT kvs)) (rv : RD kT c f h.n H kvs' ws) (nt : NoTw ws) :
    Rel c f (h.set i (.dT kvs')) (upd H (f i) (.dT ws)) ∧ Ext f h.n H f h.n (upd H (f i) (.dT ws)) := by
  obtain ⟨ws, hw⟩ : ∃ ws, H (f i) = some (.dT ws) := by
    cases r.obj i _ hi with
    | dT h1 _ _ => exact ⟨_, h1⟩
  exact r.rewrite hi rfl rfl hw (fun vs z => by cases z) (fun ob vs z => by cases z) (fun S k z => by cases z) fun H' e x => .dT e (rv.mono x) nt

mutual
theorem RV.tmap (e : ∀ a vs, H a = some (.tup vs) → H' a = some (.tup vs)) {x : PV} {v : V} : RV c f n H x v → RV c f n H' x v
  | .non => .non
  | .bl b => .bl b
  | .int i => .int i
  | .str s => .str s
  | .tup h r => .tup (e _ _ h) (RVs.tmap e r)
  | .ref h => .ref h
  | .fn k => .fn k
theorem RVs.tmap (e : ∀ a vs, H a = some (.tup vs) → H' a = some (.tup vs)) {xs : List PV} {vs : List V} : RVs c f n H xs vs → RVs c f n H' xs vs
  | .nil => .nil
  | .cons h r => .cons (RV.tmap e h) (RVs.tmap e r)
end
theorem RD.tmap {κ κ' : Type} {ek : κ → κ'} (e : ∀ a vs, H a = some (.tup vs) → H' a = some (.tup vs)) : ∀ {r : List (κ × PV)} {s : List (κ' × V)}, RD ek c f n H r s → RD ek c f n H' r s
  | _, _, .nil => .nil
  | _, _, .cons h t => .cons (h.tmap e) (RD.tmap e t)
theorem RN.tmap (e : ∀ a vs, H a = some (.tup vs) → H' a = some (.tup vs)) : ∀ {r : List (NestedKey × PV)} {s : List NE}, RN c f n H r s → RN c f n H' r s
  | _, _, .nil => .nil
  | _, _, .cons a b kx h t => .cons (a.tmap e) b (fun q hq => e _ _ (kx q hq)) (h.tmap e) (RN.tmap e t)
theorem Rel.writeF {h : PH} {i cl : Nat} {fs fs' : List (Str × PV)} {dx : Addr} {ws0 ws : List (Str × V)} (r : Rel c f h H) (hi : h.get i = some (.ins cl fs)) (hw : H (f i) = some (.ins (c.L cl) dx ws0)) (hc : c.isC cl = true) (rv : RD kS c f h.n H fs' ws) :
    Rel c f (h.set i (.ins cl fs')) (upd H (f i) (.ins (c.L cl) dx ws)) ∧ Ext f h.n H f h.n (upd H (f i) (.ins (c.L cl) dx ws)) :=
  r.rewrite hi rfl rfl hw (fun vs z => by cases z) (fun ob vs z => by cases z) (fun S k z => by cases z) fun H' e x => .ins e (rv.mono x) hc
theorem Rel.writeN {h : PH} {i : Nat} {kvs kvs' : List (NestedKey × PV)} {es : List NE} (r : Rel c f h H) (hi : h.get i = some (.dN kvs)) (rv : RN c f h.n H kvs' es) (hl : kvs'.length ≤ sizeLine) (nd : (kvs'.map (·.1)).Nodup) :
    Rel c f (h.set i (.dN kvs')) (upd H (f i) (DictN c.w (f i) es)) ∧ Ext f h.n H f h.n (upd H (f i) (DictN c.w (f i) es)) := by
  obtain ⟨es0, hw, r0, l0, a0, n0⟩ : ∃ es0, H (f i) = some (DictN c.w (f i) es0) ∧ RN c f h.n H kvs es0 ∧ kvs.length ≤ sizeLine ∧ (f i == sysModules) = false ∧ (kvs.map (·.1)).Nodup := by
    cases r.obj i _ hi with
    | dN h1 h2 h3 => exact ⟨_, h1, h2, h3⟩
  have l1 : es0.length ≤ sizeLine := by rw [← r0.length]; exact l0
  have n1 : (es0.map (·.1)).Nodup := by rw [← r0.keys]; exact n0
  exact r.rewrite hi rfl rfl hw (fun vs z => by unfold DictN at z; cases z) (fun ob vs z => by unfold DictN at z; cases z) (fun S k => DictN.no_set l1 a0 n1 S k) (fun H' e x => .dN e (rv.mono x) ⟨hl, a0, nd⟩) (fun ps z => by unfold DictN at z; cases z) (fun b q => DictN.no_code l1 a0 n1 b q) (fun o v z => by unfold DictN at z; cases z) (nst := fun P L => DictN.no_setT l1 a0 n1 P L)
theorem Rel.lock {h : PH} {i : Nat} {kvs : List (List Int × PV)} (r : Rel c f h H) (hi : h.get i = some (.dT kvs)) :
    ∃ ws, H (f i) = some (.dT ws) ∧ ∀ od, Rel c f (h.set i (.lT kvs)) (upd H (f i) (.frz od (.dT ws))) ∧ Ext f h.n H f h.n (upd H (f i) (.frz od (.dT ws))) := by
  obtain ⟨ws, hw, rd, nt⟩ : ∃ ws, H (f i) = some (.dT ws) ∧ RD kT c f h.n H kvs ws ∧ NoTw ws := by
    cases r.obj i _ hi with
    | dT h1 h2 h3 => exact ⟨_, h1, h2, h3⟩
  exact ⟨ws, hw, fun od => r.rewrite hi rfl rfl hw (fun vs z => by cases z) (fun ob vs z => by cases z) (fun S k z => by cases z) fun H' e x => .lT e (rd.mono x) nt⟩
theorem Rel.unlock {h : PH} {i : Nat} {kvs : List (List Int × PV)} {od : Obj} {ws : List (List Key × V)} (r : Rel c f h H) (hi : h.get i = some (.lT kvs)) (hu : H (f i) = some (.frz od (.dT ws))) :
    Rel c f (h.set i (.dT kvs)) (upd H (f i) (.dT ws)) := by
  have tm : ∀ a vs, H a = some (.tup vs) → upd H (f i) (.dT ws) a = some (.tup vs) := fun a vs q => by
    rw [upd_ne (ne_of q hu (fun z => by cases z))]
    exact q
  obtain ⟨rd, nt⟩ : RD kT c f h.n H kvs ws ∧ NoTw ws := by
    cases r.obj i _ hi with
    | lT h1 h2 h3 =>
      rw [hu] at h1
      cases h1
      exact ⟨h2, h3⟩
  have scn : c.sc ≠ some (f i) := fun z => by
    obtain ⟨ys, q⟩ := r.scr _ z
    rw [hu] at q
    cases q
  refine ⟨by show (h.os.set _ _).length = h.n; rw [List.length_set, r.len], fun j v q => ?_, fun j k us zs q1 q2 m1 m2 ef => ?_, fun a q => ?_⟩
  · rw [get_set r.len (get_lt hi)] at q
    by_cases hj : j = i
    · rw [if_pos hj] at q
      cases q
      subst hj
      exact .dT upd_same (rd.tmap tm) nt
    · rw [if_neg hj] at q
      have q' := r.obj j v q
      have ne : mutO v = true → f j ≠ f i := fun mv z => hj (r.inj _ _ _ _ q hi mv rfl z)
      cases q' with
      | lst h1 h2 h3 => exact .lst (by rw [upd_ne (ne rfl)]; exact h1) (h2.tmap tm) h3
      | dK h1 h2 h3 => exact .dK (by rw [upd_ne (ne rfl)]; exact h1) (h2.tmap tm) h3
      | dT h1 h2 h3 => exact .dT (by rw [upd_ne (ne rfl)]; exact h1) (h2.tmap tm) h3
      | lT h1 h2 h3 => exact .lT (by rw [upd_ne (ne rfl)]; exact h1) (h2.tmap tm) h3
      | lK h1 h2 h3 => exact .lK (by rw [upd_ne (ne rfl)]; exact h1) (h2.tmap tm) h3
      | dN h1 h2 h3 => exact .dN (by rw [upd_ne (ne rfl)]; exact h1) (h2.tmap tm) h3
      | ins h1 h2 h3 => exact .ins (by rw [upd_ne (ne rfl)]; exact h1) (h2.tmap tm) h3
      | fz h1 h2 =>
        refine .fz ?_ (h2.tmap tm)
        rcases h1 with ⟨ob, h1⟩ | h1 | h1
        · exact .inl ⟨ob, by rw [upd_ne (ne_of h1 hu (fun z => by cases z))]; exact h1⟩
        · exact .inr (.inl h1)
        · exact .inr (.inr ⟨h1.1, by rw [upd_ne (fun z => scn (by rw [← z]; exact h1.1))]; exact h1.2⟩)
      | tb h1 h2 =>
        obtain ⟨ps, g1, g2, g3⟩ := h2
        exact .tb h1 ⟨ps, by rw [upd_ne (ne_of g1 hu (fun z => by cases z))]; exact g1, g2, fun pos cv hc => let ⟨cc, e1, e2⟩ := g3 pos cv hc; ⟨cc, e1, by rw [upd_ne (ne_of e2 hu (fun z => by unfold LamX.CodeO at z; cases z))]; exact e2⟩⟩
      | setT h1 h2 h3 h4 =>
        exact .setT ((upd_ne (ne_of h1 hu (fun z => by unfold SetTO at z; cases z))).trans h1) (fun p hp => tm _ _ (h2 p hp)) h3 h4
      | set h1 h2 h3 h4 =>
        refine .set ?_ h2 h3 h4
        rw [upd_ne (ne_of h1 hu (fun z => by unfold SetO at z; cases z))]
        exact h1
  · rw [get_set r.len (get_lt hi)] at q1 q2
    have back : ∀ k w, (if k = i then some (PO.dT kvs) else h.get k) = some w → mutO w = true → ∃ us, h.get k = some us ∧ mutO us = true := fun k w q mw => by
      by_cases hk : k = i
      · exact ⟨_, by rw [hk]; exact hi, rfl⟩
      · rw [if_neg hk] at q
        exact ⟨_, q, mw⟩
    obtain ⟨_, z1, y1⟩ := back _ _ q1 m1
    obtain ⟨_, z2, y2⟩ := back _ _ q2 m2
    exact r.inj _ _ _ _ z1 z2 y1 y2 ef
  · obtain ⟨xs, z⟩ := r.scr a q
    exact ⟨xs, by rw [upd_ne (fun w => scn (by rw [← w]; exact q))]; exact z⟩
theorem Rel.lockK {h : PH} {i : Nat} {kvs : List (Int × PV)} (r : Rel c f h H) (hi : h.get i = some (.dK kvs)) :
    ∃ ws, H (f i) = some (.dK ws) ∧ ∀ od, Rel c f (h.set i (.lK kvs)) (upd H (f i) (.frz od (.dK ws))) ∧ Ext f h.n H f h.n (upd H (f i) (.frz od (.dK ws))) := by
  obtain ⟨ws, hw, rd, nt⟩ : ∃ ws, H (f i) = some (.dK ws) ∧ RD kI c f h.n H kvs ws ∧ NoTw ws := by
    cases r.obj i _ hi with
    | dK h1 h2 h3 => exact ⟨_, h1, h2, h3⟩
  exact ⟨ws, hw, fun od => r.rewrite hi rfl rfl hw (fun vs z => by cases z) (fun ob vs z => by cases z) (fun S k z => by cases z) fun H' e x => .lK e (rd.mono x) nt⟩
theorem Rel.unlockK {h : PH} {i : Nat} {kvs : List (Int × PV)} {od : Obj} {ws : List (Key × V)} (r : Rel c f h H) (hi : h.get i = some (.lK kvs)) (hu : H (f i) = some (.frz od (.dK ws))) :
    Rel c f (h.set i (.dK kvs)) (upd H (f i) (.dK ws)) := by
  have tm : ∀ a vs, H a = some (.tup vs) → upd H (f i) (.dK ws) a = some (.tup vs) := fun a vs q => by
    rw [upd_ne (ne_of q hu (fun z => by cases z))]
    exact q
  obtain ⟨rd, nt⟩ : RD kI c f h.n H kvs ws ∧ NoTw ws := by
    cases r.obj i _ hi with
    | lK h1 h2 h3 =>
      rw [hu] at h1
      cases h1
      exact ⟨h2, h3⟩
  have scn : c.sc ≠ some (f i) := fun z => by
    obtain ⟨ys, q⟩ := r.scr _ z
    rw [hu] at q
    cases q
  refine ⟨by show (h.os.set _ _).length = h.n; rw [List.length_set, r.len], fun j v q => ?_, fun j k us zs q1 q2 m1 m2 ef => ?_, fun a q => ?_⟩
  · rw [get_set r.len (get_lt hi)] at q
    by_cases hj : j = i
    · rw [if_pos hj] at q
      cases q
      subst hj
      exact .dK upd_same (rd.tmap tm) nt
    · rw [if_neg hj] at q
      have q' := r.obj j v q
      have ne : mutO v = true → f j ≠ f i := fun mv z => hj (r.inj _ _ _ _ q hi mv rfl z)
      cases q' with
      | lst h1 h2 h3 => exact .lst (by rw [upd_ne (ne rfl)]; exact h1) (h2.tmap tm) h3
      | dK h1 h2 h3 => exact .dK (by rw [upd_ne (ne rfl)]; exact h1) (h2.tmap tm) h3
      | dT h1 h2 h3 => exact .dT (by rw [upd_ne (ne rfl)]; exact h1) (h2.tmap tm) h3
      | lT h1 h2 h3 => exact .lT (by rw [upd_ne (ne rfl)]; exact h1) (h2.tmap tm) h3
      | lK h1 h2 h3 => exact .lK (by rw [upd_ne (ne rfl)]; exact h1) (h2.tmap tm) h3
      | dN h1 h2 h3 => exact .dN (by rw [upd_ne (ne rfl)]; exact h1) (h2.tmap tm) h3
      | ins h1 h2 h3 => exact .ins (by rw [upd_ne (ne rfl)]; exact h1) (h2.tmap tm) h3
      | fz h1 h2 =>
        refine .fz ?_ (h2.tmap tm)
        rcases h1 with ⟨ob, h1⟩ | h1 | h1
        · exact .inl ⟨ob, by rw [upd_ne (ne_of h1 hu (fun z => by cases z))]; exact h1⟩
        · exact .inr (.inl h1)
        · exact .inr (.inr ⟨h1.1, by rw [upd_ne (fun z => scn (by rw [← z]; exact h1.1))]; exact h1.2⟩)
      | tb h1 h2 =>
        obtain ⟨ps, g1, g2, g3⟩ := h2
        exact .tb h1 ⟨ps, by rw [upd_ne (ne_of g1 hu (fun z => by cases z))]; exact g1, g2, fun pos cv hc => let ⟨cc, e1, e2⟩ := g3 pos cv hc; ⟨cc, e1, by rw [upd_ne (ne_of e2 hu (fun z => by unfold LamX.CodeO at z; cases z))]; exact e2⟩⟩
      | setT h1 h2 h3 h4 =>
        exact .setT ((upd_ne (ne_of h1 hu (fun z => by unfold SetTO at z; cases z))).trans h1) (fun p hp => tm _ _ (h2 p hp)) h3 h4
      | set h1 h2 h3 h4 =>
        refine .set ?_ h2 h3 h4
        rw [upd_ne (ne_of h1 hu (fun z => by unfold SetO at z; cases z))]
        exact h1
  · rw [get_set r.len (get_lt hi)] at q1 q2
    have back : ∀ k w, (if k = i then some (PO.dK kvs) else h.get k) = some w → mutO w = true → ∃ us, h.get k = some us ∧ mutO us = true := fun k w q mw => by
      by_cases hk : k = i
      · exact ⟨_, by rw [hk]; exact hi, rfl⟩
      · rw [if_neg hk] at q
        exact ⟨_, q, mw⟩
    obtain ⟨_, z1, y1⟩ := back _ _ q1 m1
    obtain ⟨_, z2, y2⟩ := back _ _ q2 m2
    exact r.inj _ _ _ _ z1 z2 y1 y2 ef
  · obtain ⟨xs, z⟩ := r.scr a q
    exact ⟨xs, by rw [upd_ne (fun w => scn (by rw [← w]; exact q))]; exact z⟩
def Post {α : Type} (c : Rc) (f : Nat → Addr) (n : Nat) (H : Hp) (r : R α) (Q : (Nat → Addr) → PH → Hp → α → Prop) : Prop := match r with
  | .ok a h' => ∀ f' H', Ext f n H f' h'.n H' → Rel c f' h' H' → Q f' h' H' a
  | .stuck => False
def VQ (c : Rc) (Q : VK) : (Nat → Addr) → PH → Hp → PV → Prop := fun f h H x => ∀ v, RV c f h.n H x v → Q v H
theorem Post.mono {α : Type} {r : R α} {Q : (Nat → Addr) → PH → Hp → α → Prop} (e : Ext f n H f1 n1 H1) (p : Post c f n H r Q) : Post c f1 n1 H1 r Q := by
  cases r with
  | ok a h => exact fun f' H' e' R' => p f' H' (e.trans e') R'
  | stuck => exact p
theorem Post.imp {α : Type} {r : R α} {Q Q' : (Nat → Addr) → PH → Hp → α → Prop} (p : Post c f n H r Q) (k : ∀ f' h' H' a, Q f' h' H' a → Q' f' h' H' a) : Post c f n H r Q' := by
  cases r with
  | ok a h => exact fun f' H' e' R' => k _ _ _ _ (p f' H' e' R')
  | stuck => exact p
def RSt (c : Rc) (f : Nat → Addr) (n : Nat) (H : Hp) (st : PSt) (σ : L2.St) : Prop := st.length = σ.length ∧ ∀ (i : Nat) (x : PV), st[i]? = some (some x) → ∃ v, σ[i]? = some (some v) ∧ RV c f n H x v
theorem RSt.mono {st : PSt} {σ : L2.St} (e : Ext f n H f' n' H') (r : RSt c f n H st σ) : RSt c f' n' H' st σ :=
  ⟨r.1, fun i x q => let ⟨v, h1, h2⟩ := r.2 i x q; ⟨v, h1, h2.mono e⟩⟩
theorem RSt.set {st : PSt} {σ : L2.St} (r : RSt c f n H st σ) (i : Nat) {x : PV} {v : V} (rv : RV c f n H x v) : RSt c f n H (st.set i (some x)) (σ.set i (some v)) := by
  refine ⟨by rw [List.length_set, List.length_set]; exact r.1, fun j y q => ?_⟩
  by_cases hj : i = j
  · subst hj
    by_cases hi : i < st.length
    · rw [List.getElem?_set_self hi] at q
      cases q
      exact ⟨v, List.getElem?_set_self (by rw [← r.1]; exact hi), rv⟩
    · rw [List.getElem?_eq_none (by rw [List.length_set]; omega)] at q
      cases q
  · rw [List.getElem?_set_ne hj] at q
    rw [List.getElem?_set_ne hj]
    exact r.2 j y q
theorem RSt.wipe {st : PSt} {σ : L2.St} (r : RSt c f n H st σ) : ∀ vs : List Nat, RSt c f n H (wipeP st vs) (wipe σ vs)
  | [] => r
  | i :: vs => by
    have t := r.wipe vs
    unfold wipeP L2.wipe
    refine ⟨by rw [List.length_set, List.length_set]; exact t.1, fun j y q => ?_⟩
    by_cases hj : i = j
    · subst hj
      by_cases hi : i < (wipeP st vs).length
      · rw [List.getElem?_set_self hi] at q
        cases q
      · rw [List.getElem?_eq_none (by rw [List.length_set]; omega)] at q
        cases q
    · rw [List.getElem?_set_ne hj] at q
      rw [List.getElem?_set_ne hj]
      exact t.2 j y q
def tE (c : Rc) (ev : PSt → PH → R PV) : TE := fun σ H Q => ∃ f h st, Rel c f h H ∧ RSt c f h.n H st σ ∧ Post c f h.n H (ev st h) (VQ c Q)
def tB' (c : Rc) (ev : PSt → PH → R Bool) : TT := fun σ H Q => ∃ f h st, Rel c f h H ∧ RSt c f h.n H st σ ∧ Post c f h.n H (ev st h) (fun _ _ H' b => Q b H')
def tA (c : Rc) (ev : PSt → PH → R (List PV)) : TA := fun σ H Q => ∃ f h st, Rel c f h H ∧ RSt c f h.n H st σ ∧ Post c f h.n H (ev st h) (fun f' h' H' xs => ∀ vs, RVs c f' h'.n H' xs vs → Q vs H')
variable {σ : L2.St} {st : PSt} {h h1 : PH}
theorem tE_of {ev : PSt → PH → R PV} {x : PV} {Q : VK} (hr : ev st h = .ok x h1) (r : Rel c f h H) (s : RSt c f h.n H st σ)
    (k : ∀ f1 H1 v, Ext f h.n H f1 h1.n H1 → Rel c f1 h1 H1 → RSt c f1 h1.n H1 st σ → RV c f1 h1.n H1 x v → Q v H1) : tE c ev σ H Q :=
  ⟨f, h, st, r, s, by rw [hr]; exact fun f1 H1 e1 R1 v rv => k f1 H1 v e1 R1 (s.mono e1) rv⟩
theorem tB_of {ev : PSt → PH → R Bool} {x : Bool} {Q : Bool → Hp → Prop} (hr : ev st h = .ok x h1) (r : Rel c f h H) (s : RSt c f h.n H st σ)
    (k : ∀ f1 H1, Ext f h.n H f1 h1.n H1 → Rel c f1 h1 H1 → RSt c f1 h1.n H1 st σ → Q x H1) : tB' c ev σ H Q :=
  ⟨f, h, st, r, s, by rw [hr]; exact fun f1 H1 e1 R1 => k f1 H1 e1 R1 (s.mono e1)⟩
theorem tA_of {ev : PSt → PH → R (List PV)} {xs : List PV} {Q : List V → Hp → Prop} (hr : ev st h = .ok xs h1) (r : Rel c f h H) (s : RSt c f h.n H st σ)
    (k : ∀ f1 H1 vs, Ext f h.n H f1 h1.n H1 → Rel c f1 h1 H1 → RSt c f1 h1.n H1 st σ → RVs c f1 h1.n H1 xs vs → Q vs H1) : tA c ev σ H Q :=
  ⟨f, h, st, r, s, by rw [hr]; exact fun f1 H1 e1 R1 v rv => k f1 H1 v e1 R1 (s.mono e1) rv⟩
end
section
variable {c : Rc} {f : Nat → Addr} {h : PH} {H : Hp}
theorem seqL_at {x : PV} {v : V} {xs : List PV} (r : Rel c f h H) (rv : RV c f h.n H x v) (e : seqL x h = some xs) : ∃ a vs, v = .ref a ∧ SqL c.K H a vs ∧ RVs c f h.n H xs vs := by
  unfold seqL at e
  split at e
  · rename_i i
    cases rv with
    | ref hi =>
      split at e
      · rename_i ys q
        cases e
        cases r.obj i _ q with
        | lst h1 h2 => exact ⟨_, _, rfl, SqL.of h1, h2⟩
      · rename_i ys q
        cases e
        cases r.obj i _ q with
        | fz h1 h2 => exact ⟨_, _, rfl, h1.seq, h2⟩
      · cases e
  · cases e
theorem seqOf_at {x : PV} {v : V} {xs : List PV} (r : Rel c f h H) (rv : RV c f h.n H x v) (e : seqOf x h = some xs) : ∃ a vs, v = .ref a ∧ (SqL c.K H a vs ∨ SqT c.K H a vs) ∧ RVs c f h.n H xs vs := by
  cases x with
  | tup ys =>
    cases e
    cases rv with
    | tup h1 h2 => exact ⟨_, _, rfl, .inr (SqT.of h1), h2⟩
  | ref i =>
    obtain ⟨a, vs, h1, h2, h3⟩ := seqL_at (x := .ref i) r rv e
    exact ⟨a, vs, h1, .inl h2, h3⟩
  | _ => cases e
theorem seqOf_at2 {x : PV} {v : V} {xs : List PV} (r : Rel c f h H) (rv : RV c f h.n H x v) (e : seqOf x h = some xs) : ∃ a vs, v = .ref a ∧ (SqL c.K H a vs ∨ (x = .tup xs ∧ H a = some (.tup vs))) ∧ RVs c f h.n H xs vs := by
  cases x with
  | tup ys =>
    cases e
    cases rv with
    | tup h1 h2 => exact ⟨_, _, rfl, .inr ⟨rfl, h1⟩, h2⟩
  | ref i =>
    obtain ⟨a, vs, h1, h2, h3⟩ := seqL_at (x := .ref i) r rv e
    exact ⟨a, vs, h1, .inl h2, h3⟩
  | _ => cases e
theorem lstAt_at {x : PV} {v : V} {i : Nat} {xs : List PV} (r : Rel c f h H) (rv : RV c f h.n H x v) (e : lstAt x h = some (i, xs)) : ∃ vs, v = .ref (f i) ∧ h.get i = some (.lst xs) ∧ H (f i) = some (.lst vs) ∧ RVs c f h.n H xs vs := by
  unfold lstAt at e
  split at e
  · rename_i j
    cases rv with
    | ref hi =>
      split at e
      · rename_i ys q
        cases e
        cases r.obj _ _ q with
        | lst h1 h2 => exact ⟨_, rfl, q, h1, h2⟩
      · cases e
  · cases e
theorem intsP_vals : ∀ {xs : List PV} {vs : List V} {is : List Int}, RVs c f h.n H xs vs → intsP xs = some is → vs = is.map V.int ∧ xs = is.map PV.int
  | [], [], is, .nil, e => by cases e; exact ⟨rfl, rfl⟩
  | x :: xs, v :: vs, is, .cons r t, e => by
    cases x with
    | int i =>
      cases r
      unfold intsP at e
      cases q : intsP xs with
      | none => rw [q] at e; cases e
      | some js =>
        rw [q] at e
        cases e
        obtain ⟨e1, e2⟩ := intsP_vals t q
        exact ⟨by rw [e1]; rfl, by rw [e2]; rfl⟩
    | _ => cases e
theorem rvs_ints {n : Nat} : ∀ is : List Int, RVs c f n H (is.map PV.int) (is.map V.int)
  | [] => .nil
  | i :: is => .cons (.int i) (rvs_ints is)
theorem small_le {α : Type} {xs : List α} (e : small xs = true) : xs.length ≤ 100000 := Nat.le_of_ble_eq_true e
theorem line_big : 100000 < sizeLine := by rw [sizeLine_eq]; decide
theorem small_size {α : Type} {xs : List α} (e : small xs = true) : xs.length < sizeLine := Nat.lt_of_le_of_lt (small_le e) line_big
theorem okL_at {xs : List PV} {vs : List V} {Q : VK} (r : Rel c f h H) (rv : RVs c f h.n H xs vs) (p : Post c f h.n H (okL xs h) (VQ c Q)) : vs.length < sizeLine ∧ ∀ a, H a = none → Q (.ref a) (upd H a (.lst vs)) := by
  unfold okL at p
  split at p
  · rename_i e
    refine ⟨by rw [← rv.length]; exact small_size e, fun a ha => ?_⟩
    obtain ⟨r1, e1⟩ := r.laid ha rv
    have q := p _ _ e1 r1 (.ref a)
    refine q ?_
    have z := RV.ref (c := c) (f := ext1 f h.n a) (n := h.n + 1) (H := upd H a (.lst vs)) (Nat.lt_succ_self h.n)
    rw [ext1_at] at z
    exact z
  · exact p.elim
theorem okT_at {xs : List PV} {vs : List V} {Q : VK} (r : Rel c f h H) (rv : RVs c f h.n H xs vs) (p : Post c f h.n H (okT xs h) (VQ c Q)) : vs.length < sizeLine ∧ (∀ a, H a = none → Q (.ref a) (upd H a (.tup vs))) ∧ ∀ a, H a = some (.tup vs) → Q (.ref a) H := by
  unfold okT at p
  split at p
  · rename_i e
    refine ⟨by rw [← rv.length]; exact small_size e, fun a ha => ?_, fun a ha => ?_⟩
    · obtain ⟨r1, e1⟩ := r.same (same_upd (o := .tup vs) ha)
      exact p _ _ e1 r1 (.ref a) (.tup upd_same (rv.mono e1))
    · exact p _ _ .refl r (.ref a) (.tup ha rv)
  · exact p.elim
end
end Pyx

namespace Pyx
open PySem PySem.Spec PyProof.Rows L2
def NEs (H : Hp) (es : List NE) : Prop := ∀ p ∈ es, NK H p.1 (.ref p.2.1) ∧ p.1.depth ≤ 8
theorem RN.nes {c : Rc} {f : Nat → Addr} {n : Nat} {H : Hp} : ∀ {r : List (NestedKey × PV)} {s : List NE}, RN c f n H r s → NEs H s
  | _, _, .nil => fun p hp => by cases hp
  | _, _, .cons a b kx h t => fun p hp => by
    rcases List.mem_cons.mp hp with e | hp
    · subst e
      exact ⟨a, b⟩
    · exact t.nes p hp
abbrev NP : List NE → List (NestedKey × Addr × Value) → Prop := Paired (fun (p : NE) (q : NestedKey × Addr × Value) => p.1 = q.1 ∧ p.2.1 = q.2.1 ∧ RelV p.2.2 q.2.2)
section
variable {P : Program} {w : World} {H : Hp} {h : Heap} {a : Addr}
mutual
theorem nk_is (ok : HOk P w H h) : ∀ {k : NestedKey} {v : V} {u : Value}, NK H k v → RelV v u → NestedIs h k u
  | _, _, _, .non, e => by
    cases (show _ = Value.none from e)
    exact .none
  | _, _, _, .bl b, e => by
    cases (show _ = Value.bool b from e)
    exact .bool rfl
  | _, _, _, .int i, e => by
    obtain ⟨t, rfl⟩ := (show ∃ t, _ = Value.int i t from e)
    exact .int _ _
  | _, _, _, .str s, e => by
    obtain ⟨t, rfl⟩ := (show ∃ t, _ = Value.str s t from e)
    exact .text _ _
  | _, _, _, .tup (a := a) (vs := vs) h1 h2, e => by
    cases (show _ = Value.ref a from e)
    obtain ⟨_, its, r, o, g1, g2, n, g3⟩ := (show ObjOk P w H h a (.tup vs) from ok a _ h1)
    exact .tup g1 g2 g3 (nks_is ok h2 r)
theorem nks_is (ok : HOk P w H h) : ∀ {ks : List NestedKey} {vs : List V} {us : List Value}, NKs H ks vs → Vals vs us → NestedAll h ks us
  | _, _, _, .nil, r => by
    cases r
    exact .nil
  | _, _, _, .cons h1 h2, r => by
    cases r with
    | cons r1 r2 => exact .cons (nk_is ok h1 r1) (nks_is ok h2 r2)
end
theorem NP.val {es : List NE} {xs : List (NestedKey × Addr × Value)} (r : NP es xs) (k : NestedKey) : RelO (valN k es) ((atKey xs k).map (·.2)) := by
  induction r with
  | nil => exact True.intro
  | @cons p q ps qs hq t ih =>
    have e1 : valN k (p :: ps) = match decide (p.1 = k) with | true => some p.2.2 | false => valN k ps := rfl
    rw [e1]
    unfold atKey
    rw [List.find?_cons, ← hq.1]
    cases e : decide (p.1 = k) with
    | true => exact hq.2.2
    | false => exact ih
theorem atKey_cons_neg {q : NestedKey × Addr × Value} {qs : List (NestedKey × Addr × Value)} {k : NestedKey} (e : ¬ q.1 = k) : atKey (q :: qs) k = atKey qs k := by
  unfold atKey
  rw [List.find?_cons, decide_eq_false e]
theorem atKey_cons_pos {q : NestedKey × Addr × Value} {qs : List (NestedKey × Addr × Value)} {k : NestedKey} (e : q.1 = k) : atKey (q :: qs) k = some q.2 := by
  unfold atKey
  rw [List.find?_cons, decide_eq_true e]
  rfl
theorem map_putAt {k : NestedKey} {u : Value} : ∀ {qs : List (NestedKey × Addr × Value)}, k ∉ qs.map (·.1) → qs.map (putAt k u) = qs
  | [], _ => rfl
  | q :: qs, h => by
    have h1 : ¬ q.1 = k := fun e => h (by rw [← e]; exact List.mem_cons_self)
    rw [List.map_cons, map_putAt (fun z => h (List.mem_cons_of_mem _ z))]
    unfold putAt
    rw [if_neg h1]
theorem NP.put {k : NestedKey} {b : Addr} {v : V} {u : Value} (ru : RelV v u) {es : List NE} {xs : List (NestedKey × Addr × Value)} (r : NP es xs) : (xs.map (·.1)).Nodup → NP (putN k b v es) (storedH xs k b u) := by
  induction r with
  | nil => exact fun _ => .cons ⟨rfl, rfl, ru⟩ .nil
  | @cons p q ps qs hq t ih =>
    intro nd
    rw [List.map_cons, List.nodup_cons] at nd
    have e1 : putN k b v (p :: ps) = match decide (p.1 = k) with | true => (p.1, p.2.1, v) :: ps | false => p :: putN k b v ps := rfl
    rw [e1]
    by_cases e : p.1 = k
    · rw [decide_eq_true e]
      have e' : q.1 = k := by rw [← hq.1]; exact e
      unfold storedH
      rw [atKey_cons_pos e', Option.isSome_some, if_pos rfl, List.map_cons, map_putAt (by rw [← e']; exact nd.1)]
      unfold putAt
      rw [if_pos e']
      exact .cons ⟨hq.1, hq.2.1, ru⟩ t
    · rw [decide_eq_false e]
      have e' : ¬ q.1 = k := by rw [← hq.1]; exact e
      have z := ih nd.2
      unfold storedH at z ⊢
      rw [atKey_cons_neg e']
      by_cases i : (atKey qs k).isSome = true
      · rw [if_pos i] at z ⊢
        rw [List.map_cons]
        refine .cons ?_ z
        unfold putAt
        rw [if_neg e']
        exact hq
      · rw [if_neg i] at z ⊢
        exact .cons hq z
theorem NP.length {es : List NE} {xs : List (NestedKey × Addr × Value)} (r : NP es xs) : es.length = xs.length := Paired.length r
theorem dn_of {es : List NE} (ok : HOk P w H h) (e : H a = some (DictN w a es)) (ns : NEs H es) : es.length ≤ sizeLine ∧ (a == sysModules) = false ∧ ∃ xs, NP es xs ∧ h.DictOfH (nestedKind P w) a xs := by
  obtain ⟨⟨l, ha, xs, pr, o, dd, ep, h1, h2, h3, h4, h5⟩, z1, z2⟩ := (show ObjOk P w H h a (DictN w a es) from ok a _ e)
  refine ⟨l, ha, xs, pr, o, dd, ep, h1, h2, h3, h4, ?_, h5⟩
  clear h4 h5 l e z1 z2
  induction pr with
  | nil => exact fun x hx => by cases hx
  | @cons p q ps qs hq t ih =>
    intro x hx
    rcases List.mem_cons.mp hx with e | hx
    · subst e
      obtain ⟨a1, a2⟩ := ns p List.mem_cons_self
      rw [hq.1, hq.2.1] at a1
      rw [hq.1] at a2
      exact ⟨nk_is ok a1 rfl, a2⟩
    · exact ih (fun p hp => ns p (List.mem_cons_of_mem _ hp)) x hx
end
def DGx (w : World) (H : Hp) (a : Addr) (y : V) (r : Option V) : Prop :=
  DGet H a y r ∨ ∃ es k b, H a = some (DictN w a es) ∧ NEs H es ∧ y = .ref b ∧ NK H k y ∧ k.depth ≤ 8 ∧ r = valN k es
def DPx (w : World) (H : Hp) (a : Addr) (y v : V) (H' : Hp) : Prop :=
  DPut H a y v H' ∨ ∃ es k b, H a = some (DictN w a es) ∧ NEs H es ∧ y = .ref b ∧ NK H k y ∧ k.depth ≤ 8 ∧ es.length < sizeLine ∧ H' = upd H a (DictN w a (putN k b v es))
theorem putN_len (k : NestedKey) (b : Addr) (v : V) : ∀ es : List NE, (putN k b v es).length ≤ es.length + 1
  | [] => Nat.le_refl _
  | p :: r => by
    have e1 : putN k b v (p :: r) = match decide (p.1 = k) with | true => (p.1, p.2.1, v) :: r | false => p :: putN k b v r := rfl
    rw [e1]
    cases decide (p.1 = k) with
    | true => exact Nat.le_succ _
    | false => exact Nat.succ_le_succ (putN_len k b v r)
section
variable {X : Cx} {pins : List (Addr × Obj)} {σ : L2.St} {H : Hp} {s : Shared} {a : Addr} {y v : V} {u r : Value} {o : Option V} {A : Around} {E : Value → Shared → Prop}
theorem nroom {P : Program} {w : World} (hu : A.units + 65 < cLine) : (nestedKind P w).room A.in1 := by
  show A.in1.units + 8 < cLine
  have : A.in1.units = A.units + 1 := rfl
  omega
theorem x_getItem {Q : Value → Shared → Prop} (hu : A.units + 65 < cLine) (I : Inv X pins σ H s) (g : DGx X.w H a y (some v)) (ry : RelV y u) (h : ∀ w' s', Inv X pins σ H s' → RelV v w' → Q w' s') :
    wpAny (model X.prog X.w) A (getItem (.ref a) u) Q E s := by
  rcases g with g | ⟨es, k, b, e, ns, ey, nk, dp, l⟩
  · exact d_getItem (by omega) I g ry h
  · subst ey
    cases (show u = Value.ref b from ry)
    obtain ⟨z, hd, xs, rel, dd⟩ := dn_of I.hok e ns
    obtain ⟨w', hw, rw'⟩ := RelO.some_of (v := v) (o := (atKey xs k).map (·.2)) (by rw [l]; exact rel.val k)
    obtain ⟨p, hp, hp2⟩ := Option.map_eq_some_iff.mp hw
    refine wpAny_getItem_heap (nroom hu) ⟨nk_is I.hok nk rfl, dp⟩ dd hp ?_
    rw [hp2]
    exact h w' _ (I.tok _) rw'
theorem x_in {Q : Value → Shared → Prop} (hu : A.units + 65 < cLine) (I : Inv X pins σ H s) (g : DGx X.w H a y o) (ry : RelV y u) (h : ∀ s', Inv X pins σ H s' → Q (.bool o.isSome) s') :
    wpAny (model X.prog X.w) A (compareOp .In u (.ref a)) Q E s := by
  rcases g with g | ⟨es, k, b, e, ns, ey, nk, dp, l⟩
  · exact d_in (by omega) I g ry h
  · subst ey
    cases (show u = Value.ref b from ry)
    obtain ⟨z, hd, xs, rel, dd⟩ := dn_of I.hok e ns
    refine wpAny_in_heap (nroom hu) ⟨nk_is I.hok nk rfl, dp⟩ hd dd ?_
    have q := (rel.val k).isSome_eq
    rw [Option.isSome_map] at q
    rw [← q, ← l]
    exact h _ (I.tok _)
theorem x_notIn {Q : Value → Shared → Prop} (hu : A.units + 65 < cLine) (I : Inv X pins σ H s) (g : DGx X.w H a y o) (ry : RelV y u) (h : ∀ s', Inv X pins σ H s' → Q (.bool (!o.isSome)) s') :
    wpAny (model X.prog X.w) A (compareOp .NotIn u (.ref a)) Q E s := by
  rcases g with g | ⟨es, k, b, e, ns, ey, nk, dp, l⟩
  · exact d_notIn (by omega) I g ry h
  · subst ey
    cases (show u = Value.ref b from ry)
    obtain ⟨z, hd, xs, rel, dd⟩ := dn_of I.hok e ns
    refine wpAny_notIn_heap (nroom hu) ⟨nk_is I.hok nk rfl, dp⟩ hd dd ?_
    have q := (rel.val k).isSome_eq
    rw [Option.isSome_map] at q
    rw [← q, ← l]
    exact h _ (I.tok _)
theorem x_setItem {H' : Hp} {Q : Unit → Shared → Prop} (hu : A.units + 65 < cLine) (I : Inv X pins σ H s) (g : DPx X.w H a y v H') (ry : RelV y u) (rv : RelV v r) (h : ∀ s', Inv X pins σ H' s' → Q () s') :
    wpAny (model X.prog X.w) A (setItem (.ref a) u r) Q E s := by
  rcases g with g | ⟨es, k, b, e, ns, ey, nk, dp, l, eH⟩
  · exact d_setItem (by omega) I g ry rv h
  · subst ey eH
    cases (show u = Value.ref b from ry)
    obtain ⟨z, hd, xs, rel, dd⟩ := dn_of I.hok e ns
    have hz : xs.length ≤ sizeLine := by rw [← rel.length]; exact z
    have hl : (putN k b v es).length ≤ sizeLine := by have := putN_len k b v es; omega
    refine wpAny_setItem_heap (hsz := hz) (nroom hu) ⟨nk_is I.hok nk rfl, dp⟩ dd fun h' dd' hs => h _ ?_
    have nd := dd.nodup
    obtain ⟨q, ds, ep, hq, h2, h3, h4, _, h5⟩ := dd'
    refine d_write I (by rw [e]; exact True.intro) hs ⟨q, hq⟩ ⟨⟨hl, hd, _, rel.put rv nd, q, ds, ep, hq, h2, h3, h4, h5⟩, ⟨q, hq⟩, fun h1 h2' p st => ?_⟩
    obtain ⟨p1, p2, p3, p4, p5, p6, p7, p8, p9⟩ := p
    exact ⟨p1, p2, p3, p4, p5, p6, p7, st _ p8, p9⟩
theorem x_typeIs (I : Inv X pins σ H s) (g : DGx X.w H a y o) : s.TypeIs (.ref a) "dict" := by
  rcases g with g | ⟨es, k, b, e, ns, _⟩
  · exact dict_typeIs I g
  · obtain ⟨_, _, xs, _, dd⟩ := dn_of I.hok e ns
    exact dd.typeIs
end
section
variable {X : Cx} {pins : List (Addr × Obj)} {σ : L2.St} {H : Hp} {s : Shared} {a : Addr} {y d : V} {u r : Value} {o : Option V} {A : Around} {E : Value → Shared → Prop}
theorem x_get2 {Q : Value → Shared → Prop} (hu : A.units + 65 < cLine) (I : Inv X pins σ H s) (g : DGx X.w H a y o) (ry : RelV y u) (rd : RelV d r) (h : ∀ w' s', Inv X pins σ H s' → RelV (o.getD d) w' → Q w' s') :
    wpAny (model X.prog X.w) A (call (.builtin "dict.get") [.ref a, u, r]) Q E s := by
  rcases g with g | ⟨es, k, b, e, ns, ey, nk, dp, l⟩
  · exact d_get2 (by omega) I g ry rd h
  · subst ey
    cases (show u = Value.ref b from ry)
    obtain ⟨z, hd, xs, rel, dd⟩ := dn_of I.hok e ns
    refine call_meetsIn PySem.F.slot_dict_get dd.typeIs PySem.F.entry_dict_get (PySem.F.args_dict_get_3 _ _ _) (meetsH_dict_get_default (nestedKind X.prog X.w) a b hd r) ⟨nroom hu, k, xs, ⟨nk_is I.hok nk rfl, dp⟩, dd, h _ _ (I.tok _) ?_⟩
    rw [l]
    exact (rel.val k).getD rd
def IsDx (w : World) (H : Hp) (a : Addr) : Prop := IsD H a ∨ ∃ es, H a = some (DictN w a es) ∧ NEs H es
theorem isDx_at (I : Inv X pins σ H s) (d : IsDx X.w H a) :
    s.TypeIs (.ref a) "dict" ∧ (∀ b, Value.ref a = .ref b → ∃ ob, s.heap.get? b = some ob ∧ ob.dict = none) ∧ (a == sysModules) = false := by
  rcases d with d | ⟨es, e, ns⟩
  · exact isD_at I d
  · obtain ⟨_, hd, xs, _, dd⟩ := dn_of I.hok e ns
    refine ⟨dd.typeIs, fun b q => ?_, hd⟩
    cases q
    obtain ⟨ob, _, _, h1, h2, _⟩ := dd
    exact ⟨ob, h1, h2.2.1⟩
end
def tXGet2 (w : World) (td ty tx : TE) : TE := fun σ H Q => td σ H fun x H1 => ∃ a, x = .ref a ∧ IsDx w H1 a ∧ ty σ H1 fun y H2 => tx σ H2 fun z H3 => ∃ o, DGx w H3 a y o ∧ Q (o.getD z) H3
theorem pe_xget2 {X : Cx} {o e f : Expr} {td ty tx : TE} {apos cpos : Pos} (hu : X.A.units + 65 < cLine) (ho : PE X o td) (he : PE X e ty) (hf : PE X f tx) (m : M2 X o "get" apos e f cpos) : PE X (.Call (.Attribute o "get" apos) [e, f] [] cpos) (tXGet2 X.w td ty tx) := by
  refine ⟨fun pins s σ H Q I h => ?_⟩
  refine wpAny_Call_method m.base m.few m.line PySem.F.plainAttrs_dict PySem.F.slot_dict_get PySem.F.type_dict_get (thn (ho.run pins s σ H _ I h) fun u s1 ⟨x, H1, I1, rx, a, ex, d, q1⟩ => ?_)
  subst ex
  obtain rfl : u = Value.ref a := rx
  obtain ⟨t1, t2, _⟩ := isDx_at I1 d
  refine ⟨t1, t2, ?_⟩
  rw [m.trees]
  refine Calls.callWith_builtin rfl (Calls.evalArgs_plain (Calls.spliced_cons (thn (he.run pins s1 σ H1 _ I1 q1) fun iv s2 ⟨y, H2, I2, ry, q2⟩ =>
    Calls.spliced_cons (thn (hf.run pins s2 σ H2 _ I2 q2) fun fv s3 ⟨z, H3, I3, rz, ov, g, q3⟩ => Calls.spliced_nil ?_))))
  exact x_get2 hu I3 g ry rz fun w' s4 I4 rw' => ⟨_, H3, I4, rw', q3⟩
def tDNewN (w : World) : TE := fun _ H Q => ∀ p, H p = none → (p == sysModules) = false → Q (.ref p) (upd H p (DictN w p []))
theorem dn_empty {P : Program} {w : World} {H : Hp} (h : Heap) (hb : sysModules < h.objs.size) : ObjOk P w H (h.push { cls := .type "dict", data := .dict #[] }) h.objs.size (DictN w h.objs.size []) :=
  ⟨⟨Nat.zero_le _, beq_eq_false_iff_ne.mpr (Ne.symm (Nat.ne_of_lt hb)), [], .nil, _, #[], 0, Heap.get?_push_size _ rfl, ⟨rfl, rfl, rfl⟩, rfl, rfl, List.nodup_nil⟩, ⟨_, Heap.get?_push_size _ rfl⟩, fun h1 h2 p st => by
    obtain ⟨p1, p2, p3, p4, p5, p6, p7, p8, p9⟩ := p
    exact ⟨p1, p2, p3, p4, p5, p6, p7, st _ p8, p9⟩⟩
theorem pe_dnewN {X : Cx} {pos : Pos} : PE X (.Dict [] [] pos) (tDNewN X.w) := ⟨fun pins s σ H Q I h =>
  wpAny_Dict_empty ⟨.ref s.heap.objs.size, _, I.laid (a := s.heap.objs.size) (o := DictN X.w s.heap.objs.size []) (t' := s.toks) (fun _ _ q => Heap.get?_push_of_some _ q) (Nat.le_refl _) (dn_empty s.heap I.big), rfl, h _ (I.hok.fresh (Nat.le_refl _)) (beq_eq_false_iff_ne.mpr (Ne.symm (Nat.ne_of_lt I.big)))⟩⟩
end Pyx

namespace Pyx
open PySem PySem.Spec PyProof.Rows L2
def opB : Bop → Operator
  | .add => .Add
  | .sub => .Sub
  | .mul => .Mult
  | .fdiv => .FloorDiv
  | .mod => .Mod
  | .pow => .Pow
def opC : Cop → CmpOp
  | .eq => .Eq
  | .ne => .NotEq
  | .lt => .Lt
  | .le => .LtE
  | .gt => .Gt
  | .ge => .GtE
  | .is => .Is
  | .nis => .IsNot
theorem tuple_mul1 (l : Addr) (items : Array Value) (n : Nat) (dd : Option Addr) (sl : Array (Option Value)) (u : Tok) :
    Meets (Builtin.«tuple.__mul__» ⟨[.ref l, .int 1 u], []⟩) (fun _ R s => s.heap.get? l = some { cls := .type "tuple", dict := dd, data := .seq items n, slots := sl } ∧ R (.ok (.ret (Value.ref l))) s) :=
  .of_wp fun prog w A R s h => by
    obtain ⟨hp, g, d, tk, os⟩ := s
    obtain ⟨hl, h⟩ := h
    have f1 := AutoSeq1.idx_int
    wp_walk using wpAny_loadPart' hl
    repeat (first
      | (refine wpAny_ite_false (by decide) ?_; wp_walk using wpAny_loadPart' hl)
      | (refine wpAny_ite_true (by simp) ?_; wp_walk using wpAny_loadPart' hl))
    exact ⟨_, rfl, h⟩
def rRep1 (K : PySem.W.Frag) : R2 := fun x y H Q => ∃ l xs, x = .ref l ∧ y = .int 1 ∧ SqT K H l xs ∧ Q (.ref l) H
theorem op_rep1 {X : Cx} : OpR X (binaryOp .Mult) (rRep1 X.K) := by
  intro pins s σ H x y v u Q I rx ry h
  obtain ⟨l, xs, rfl, rfl, hT, q⟩ := h
  cases rx
  obtain ⟨t, rfl⟩ := ry
  obtain ⟨its, r, ⟨⟨cls, dd, data, sl⟩, ho, hc, n, hd⟩, hs⟩ := I.tuple hT
  simp only at hc hd
  subst hc hd
  refine wpAny_binaryOp_repeat_ref (T := "tuple") (U := "int") (by decide) ⟨_, ho, rfl⟩ (fun s' => typeIs_int s' 1 t) noFill_tuple_mul F.fills_int_mul F.slot_int_rmul repeat_tuple F.slot_int_index.lookup
    (call_meets F.slot_int_rmul (typeIs_int s 1 t) F.entry_int_rmul (F.args_int_rmul_2 _ _) (int_rmul_tuple 1 t l its.toArray n dd sl)
      ⟨ho, rfl, ⟨_, ho, rfl⟩, call_meets F.slot_tuple_mul ⟨_, ho, rfl⟩ F.entry_tuple_mul (F.args_tuple_mul_2 _ _) (tuple_mul1 l its.toArray n dd sl t) ⟨ho, ?_⟩⟩)
  exact ⟨.ref l, H, I, rfl, q⟩
def rBin (c : Rc) (op : Bop) : R2 := fun x y H Q => ∃ f h pv pw, Rel c f h H ∧ RV c f h.n H pv x ∧ RV c f h.n H pw y ∧ Post c f h.n H (binP op pv pw h) (VQ c Q)
def rCmp (c : Rc) (op : Cop) : R2 := fun x y H Q => ∃ f h pv pw k, Rel c f h H ∧ RV c f h.n H pv x ∧ RV c f h.n H pw y ∧ cmpP op pv pw h = some k ∧ Q (.bl k) H
def rInP (c : Rc) (ng : Bool) : R2 := fun x y H Q => ∃ f h pv pw k, Rel c f h H ∧ RV c f h.n H pv x ∧ RV c f h.n H pw y ∧ inP pv pw h = some k ∧ Q (.bl (if ng then !k else k)) H
def rBi (c : Rc) (b : Bi) : List V → Hp → VK → Prop := fun vs H Q => ∃ f h ps, Rel c f h H ∧ RVs c f h.n H ps vs ∧ Post c f h.n H (biP b ps h) (VQ c Q)
def rIxP (c : Rc) : R2 := fun x y H Q => ∃ f h pv pw pu, Rel c f h H ∧ RV c f h.n H pv x ∧ RV c f h.n H pw y ∧ ixP pv pw h = some pu ∧ ∀ v, RV c f h.n H pu v → Q v H
def rSlP (c : Rc) : V → Option Int → Option Int → Hp → VK → Prop := fun x lo hi H Q => ∃ f h pv, Rel c f h H ∧ RV c f h.n H pv x ∧ Post c f h.n H (slP pv lo hi h) (VQ c Q)
def rSetP (c : Rc) : TSet := fun o i v H Q => ∃ f h po pi pv h', Rel c f h H ∧ RV c f h.n H po o ∧ RV c f h.n H pi i ∧ RV c f h.n H pv v ∧ setP po pi pv h = some h' ∧ (∀ H', Rel c f h' H' → Ext f h.n H f h'.n H' → Q H')
def rMt (c : Rc) (m : Mt) : V → List V → Hp → VK → Prop := fun x vs H Q => ∃ f h pv ps, Rel c f h H ∧ RV c f h.n H pv x ∧ RVs c f h.n H ps vs ∧ Post c f h.n H (mtP m pv ps h) (VQ c Q)
theorem tuple_mul0 (l : Addr) (items : Array Value) (n : Nat) (dd : Option Addr) (sl : Array (Option Value)) (x : Int) (u : Tok) (c0 : (decide (x < -(2 ^ 63)) || decide (x ≥ 2 ^ 63)) = false) (c1 : (items.isEmpty || x == 1) = false) (c2 : (decide (x ≤ 0) || items.isEmpty) = true) :
    Meets (Builtin.«tuple.__mul__» ⟨[.ref l, .int x u], []⟩) (fun _ R s => s.heap.get? l = some { cls := .type "tuple", dict := dd, data := .seq items n, slots := sl } ∧
      R (.ok (.ret (Value.ref s.heap.objs.size))) { s with heap := s.heap.push { cls := Value.type "tuple", data := Data.seq #[] }, toks := s.toks }) :=
  .of_wp fun prog w A R s h => by
    obtain ⟨hp, g, d, tk, os⟩ := s
    obtain ⟨hl, h⟩ := h
    have f1 := AutoSeq1.idx_int
    wp_walk using wpAny_loadPart' hl
    repeat (first
      | (refine wpAny_ite_false (decide_eq_false (by rw [c0]; exact Bool.false_ne_true)) ?_; wp_walk using wpAny_loadPart' hl)
      | (refine wpAny_ite_false (decide_eq_false (by rw [c1]; exact Bool.false_ne_true)) ?_; wp_walk using wpAny_loadPart' hl)
      | (refine wpAny_ite_true (decide_eq_true c2) ?_; wp_walk using wpAny_loadPart' hl))
    exact ⟨_, rfl, h⟩
theorem op_repT0 {X : Cx} : OpR X (binaryOp .Mult) (fun x y H Q => ∃ l k xs, x = .ref l ∧ y = .int k ∧ SqT X.K H l xs ∧ xs ≠ [] ∧ -1000 ≤ k ∧ k ≤ 0 ∧ ∀ p, H p = none → Q (.ref p) (upd H p (.tup []))) := by
  intro pins s σ H x y v u Q I rx ry h
  obtain ⟨l, k, xs, rfl, rfl, hT, hne, h1, h2, q⟩ := h
  cases rx
  obtain ⟨t, rfl⟩ := ry
  obtain ⟨its, r, ⟨⟨cls, dd, data, sl⟩, ho, hc, n, hd⟩, hs⟩ := I.tuple hT
  simp only at hc hd
  subst hc hd
  have hle : its.length = xs.length := r.length.symm
  have hn : its ≠ [] := fun e => hne (by
    rw [e] at hle
    exact List.eq_nil_of_length_eq_zero hle.symm)
  have hi : its.toArray.isEmpty = false := by
    cases its with
    | nil => exact absurd rfl hn
    | cons a b => rfl
  have c0 : (decide (k < -(2 ^ 63)) || decide (k ≥ 2 ^ 63)) = false := by
    rw [decide_eq_false (by omega), decide_eq_false (by omega)] <;> rfl
  have c1 : (its.toArray.isEmpty || k == 1) = false := by
    rw [hi, Bool.false_or]
    exact beq_eq_false_iff_ne.mpr (by omega)
  have c2 : (decide (k ≤ 0) || its.toArray.isEmpty) = true := by
    rw [decide_eq_true h2, Bool.true_or]
  refine wpAny_binaryOp_repeat_ref (T := "tuple") (U := "int") (by decide) ⟨_, ho, rfl⟩ (fun s' => typeIs_int s' k t) noFill_tuple_mul F.fills_int_mul F.slot_int_rmul repeat_tuple F.slot_int_index.lookup
    (call_meets F.slot_int_rmul (typeIs_int s k t) F.entry_int_rmul (F.args_int_rmul_2 _ _) (int_rmul_tuple k t l its.toArray n dd sl)
      ⟨ho, rfl, ⟨_, ho, rfl⟩, call_meets F.slot_tuple_mul ⟨_, ho, rfl⟩ F.entry_tuple_mul (F.args_tuple_mul_2 _ _) (tuple_mul0 l its.toArray n dd sl k t c0 c1 c2) ⟨ho, ?_⟩⟩)
  refine ⟨.ref s.heap.objs.size, _, I.laid (t' := s.toks) (o := .tup []) (fun b ob q => Heap.get?_push_of_some _ q) (Nat.le_refl _) ?_, rfl, q _ (I.hok.fresh (Nat.le_refl _))⟩
  exact ⟨Nat.zero_le _, [], .nil, IsTup.new _ _⟩
theorem two64 : (2 : Int) ^ 64 = 18446744073709551616 := by decide
theorem wide_is {i : Int} (h : wide i = true) : -(2 ^ 64) < i ∧ i < 2 ^ 64 := by
  unfold wide at h
  rw [Bool.and_eq_true] at h
  rw [two64]
  exact ⟨of_decide_eq_true h.1, of_decide_eq_true h.2⟩
section
variable {X : Cx} {c : Rc}
theorem op_bin (hK : X.K = c.K) (op : Bop) : OpR X (binaryOp (opB op)) (rBin c op) := by
  intro pins s σ H x y v u Q I rx ry ⟨f, h, pv, pw, r, r1, r2, p⟩
  unfold binP at p
  split at p
  · cases r1; cases r2
    exact op_add pins s σ H _ _ v u Q I rx ry ⟨_, _, rfl, rfl, p _ _ .refl r _ (.int _)⟩
  · cases r1; cases r2
    exact op_sub pins s σ H _ _ v u Q I rx ry ⟨_, _, rfl, rfl, p _ _ .refl r _ (.int _)⟩
  · cases r1; cases r2
    split at p
    · rename_i e
      rw [Bool.or_eq_true, Bool.or_eq_true] at e
      rcases e with (e | e) | e
      · exact op_mul pins s σ H _ _ v u Q I rx ry ⟨_, _, rfl, rfl, .inl (wide_is e), p _ _ .refl r _ (.int _)⟩
      · exact op_mul pins s σ H _ _ v u Q I rx ry ⟨_, _, rfl, rfl, .inr (wide_is e), p _ _ .refl r _ (.int _)⟩
      · exact op_mulW pins s σ H _ _ v u Q I rx ry ⟨_, _, rfl, rfl, Nat.le_of_ble_eq_true e, p _ _ .refl r _ (.int _)⟩
    · exact p.elim
  · cases r1; cases r2
    split at p
    · rename_i e
      rw [Bool.and_eq_true, Bool.or_eq_true] at e
      rcases e.2 with e2 | e2
      · exact op_fdiv pins s σ H _ _ v u Q I rx ry ⟨_, _, rfl, rfl, ⟨of_decide_eq_true e.1, of_decide_eq_true e2⟩, p _ _ .refl r _ (.int _)⟩
      · exact op_fdivW pins s σ H _ _ v u Q I rx ry ⟨_, _, rfl, rfl, ⟨of_decide_eq_true e.1, Nat.le_of_ble_eq_true e2⟩, p _ _ .refl r _ (.int _)⟩
    · exact p.elim
  · cases r1; cases r2
    split at p
    · rename_i e
      exact op_mod pins s σ H _ _ v u Q I rx ry ⟨_, _, rfl, rfl, of_decide_eq_true e, p _ _ .refl r _ (.int _)⟩
    · exact p.elim
  · cases r1; cases r2
    split at p
    · rename_i e
      simp only [Bool.and_eq_true, decide_eq_true_eq] at e
      exact op_pow pins s σ H _ _ v u Q I rx ry ⟨_, _, rfl, rfl, ⟨e.1.1, e.1.2, Nat.lt_of_lt_of_le (Nat.le_of_ble_eq_true e.2) (by decide)⟩, p _ _ .refl r _ (.int _)⟩
    · exact p.elim
  · cases r1 with
    | tup a1 a2 =>
      cases r2 with
      | tup b1 b2 =>
        obtain ⟨z, k1, k2⟩ := okT_at r (a2.app b2) p
        rw [List.length_append] at z
        refine op_catA pins s σ H _ _ v u Q I rx ry ⟨_, _, _, _, rfl, rfl, SqT.of a1, SqT.of b1, Nat.le_of_lt z, fun e => ?_, fun _ e => ?_, fun _ _ q hq => k1 q hq⟩
        · subst e; exact k2 _ b1
        · subst e; rw [List.append_nil] at k2; exact k2 _ a1
  · split at p
    · rename_i e1 e2
      obtain ⟨vs, rfl, _, h1, rv1⟩ := lstAt_at r r1 e1
      obtain ⟨ws, rfl, _, h2, rv2⟩ := lstAt_at r r2 e2
      obtain ⟨z, k⟩ := okL_at r (rv1.app rv2) p
      rw [List.length_append] at z
      exact op_cat pins s σ H _ _ v u Q I rx ry ⟨_, _, _, _, rfl, rfl, h1, h2, Nat.le_of_lt z, k⟩
    · exact p.elim
  · split at p
    · rename_i e
      have e := of_decide_eq_true e
      subst e
      cases r1 with
      | tup a1 a2 =>
        cases r2
        exact op_rep1 pins s σ H _ _ v u Q I rx ry ⟨_, _, rfl, rfl, SqT.of a1, p _ _ .refl r _ (.tup a1 a2)⟩
    split at p
    · rename_i e
      simp only [Bool.and_eq_true, decide_eq_true_eq, Bool.not_eq_true', List.isEmpty_eq_false_iff] at e
      cases r1 with
      | tup a1 a2 =>
        cases r2
        obtain ⟨z, k1, k2⟩ := okT_at r (a2.rep _) p
        have hn : ∀ {ys : List PV} {ws : List V}, RVs c f h.n H ys ws → ys ≠ [] → ws ≠ [] := fun rr hne hz => by
          subst hz
          cases rr
          exact hne rfl
        exact op_repT pins s σ H _ _ v u Q I rx ry ⟨_, _, _, rfl, rfl, SqT.of a1, hn a2 e.2, e.1.1.1, e.1.1.2, by rw [← a2.length]; exact Nat.le_of_ble_eq_true e.1.2, k1⟩
    split at p
    · rename_i e
      simp only [Bool.and_eq_true, decide_eq_true_eq, Bool.not_eq_true', List.isEmpty_eq_false_iff] at e
      cases r1 with
      | tup a1 a2 =>
        cases r2
        obtain ⟨z, k1, k2⟩ := okT_at r .nil p
        have hn : ∀ {ys : List PV} {ws : List V}, RVs c f h.n H ys ws → ys ≠ [] → ws ≠ [] := fun rr hne hz => by
          subst hz
          cases rr
          exact hne rfl
        exact op_repT0 pins s σ H _ _ v u Q I rx ry ⟨_, _, _, rfl, rfl, SqT.of a1, hn a2 e.2, e.1.1, e.1.2, k1⟩
    · exact p.elim
  · split at p
    · rename_i e1 e2
      simp only [Bool.and_eq_true, decide_eq_true_eq] at e2
      split at p
      · rename_i e3
        obtain ⟨vs, rfl, _, h1, rv1⟩ := lstAt_at r r1 e1
        cases r2
        obtain ⟨z, k⟩ := okL_at r (rv1.rep _) p
        have l3 := Nat.le_of_ble_eq_true e3
        rw [rv1.length] at l3
        have l4 : ∀ j : Int, j ≤ 1000 → vs.length * j.toNat ≤ 1000 * 1000 := fun j hj => Nat.mul_le_mul l3 (by omega)
        have l5 : 1000 * 1000 ≤ sizeLine := by rw [sizeLine_eq]; decide
        have l6 : ∀ j : Int, 0 ≤ j → -(2 ^ 63) ≤ j := fun j hj => by omega
        have l7 : ∀ j : Int, j ≤ 1000 → j < 2 ^ 63 := fun j hj => by omega
        exact op_rep pins s σ H _ _ v u Q I rx ry ⟨_, _, _, rfl, rfl, h1, l6 _ e2.1, l7 _ e2.2, Nat.le_trans (l4 _ e2.2) l5, k⟩
      · exact p.elim
    · exact p.elim
  · exact p.elim
theorem toDs_at {f : Nat → Addr} {n : Nat} {H : Hp} {g : PV → Option PyData} (k : ∀ x v d, RV c f n H x v → g x = some d → Dp c.K H v d) : ∀ {xs : List PV} {vs : List V} {ds : List PyData}, RVs c f n H xs vs → toDs g xs = some ds → DpAll c.K H vs ds
  | [], [], ds, .nil, e => by cases e; exact .nil
  | x :: xs, v :: vs, ds, .cons r t, e => by
    unfold toDs at e
    split at e
    · cases e
    · rename_i d q
      split at e
      · cases e
      · rename_i ds' q'
        cases e
        exact .cons (k x v d r q) (toDs_at k t q')
theorem toD_at {f : Nat → Addr} {h : PH} {H : Hp} (r : Rel c f h H) : ∀ (n : Nat) (x : PV) (v : V) (d : PyData), RV c f h.n H x v → toD n h x = some d → Dp c.K H v d
  | 0, x, v, d, rv, e => by cases e
  | n + 1, x, v, d, rv, e => by
    unfold toD at e
    split at e
    · cases e; cases rv; exact .non
    · cases e; cases rv; exact .bl _
    · cases e; cases rv; exact .int _
    · cases e; cases rv; exact .str _
    · split at e
      · rename_i ds q
        cases e
        cases rv with
        | tup h1 h2 => exact .tup (SqT.of h1) (toDs_at (toD_at r n) h2 q)
      · cases e
    · rename_i i
      cases rv with
      | ref hi =>
        split at e
        · rename_i xs q
          split at e
          · rename_i ds qd
            cases e
            cases r.obj _ _ q with
            | lst h1 h2 => exact .lst (SqL.of h1) (toDs_at (toD_at r n) h2 qd)
          · cases e
        · rename_i xs q
          split at e
          · rename_i ds qd
            cases e
            cases r.obj _ _ q with
            | fz h1 h2 => exact .lst h1.seq (toDs_at (toD_at r n) h2 qd)
          · cases e
        · cases e
    · cases e
theorem toDat_at {f : Nat → Addr} {h : PH} {H : Hp} (r : Rel c f h H) {x : PV} {v : V} {d : PyData} (rv : RV c f h.n H x v) (e : toDat h x = some d) : Dp c.K H v d ∧ SeqAt.shaped d = true := by
  unfold toDat at e
  split at e
  · rename_i d' q
    split at e
    · rename_i s
      cases e
      exact ⟨toD_at r _ _ _ _ rv q, s⟩
    · cases e
  · cases e
theorem eqP_at {f : Nat → Addr} {h : PH} {H : Hp} (r : Rel c f h H) {x y : PV} {v w : V} {k : Bool} (r1 : RV c f h.n H x v) (r2 : RV c f h.n H y w) (e : eqP h x y = some k) :
    ∃ d e', Dp c.K H v d ∧ Dp c.K H w e' ∧ SeqAt.shaped d = true ∧ SeqAt.shaped e' = true ∧ k = PyData.eqv d e' := by
  unfold eqP at e
  split at e
  · rename_i d q1
    split at e
    · rename_i d' q2
      cases e
      obtain ⟨a1, a2⟩ := toDat_at r r1 q1
      obtain ⟨b1, b2⟩ := toDat_at r r2 q2
      exact ⟨d, d', a1, b1, a2, b2, rfl⟩
    · cases e
  · cases e
theorem int2_at {g : Int → Int → Bool} {x y : PV} {k : Bool} (e : int2 g x y = some k) : ∃ i j, x = .int i ∧ y = .int j ∧ k = g i j := by
  unfold int2 at e
  split at e
  · cases e
    exact ⟨_, _, rfl, rfl, rfl⟩
  · cases e
theorem ints_at {f : Nat → Addr} {n : Nat} {H : Hp} : ∀ {xs : List PV} {vs : List V} {ns : List Int}, RVs c f n H xs vs → intsP xs = some ns → vs = ns.map V.int
  | [], _, ns, r, e => by
    cases r
    cases e
    rfl
  | x :: xs, _, ns, r, e => by
    cases r with
    | cons r t =>
      cases x with
      | int i =>
        have e : (match intsP xs with | some is => some (i :: is) | none => none) = some ns := e
        cases z : intsP xs with
        | none => rw [z] at e; cases e
        | some is =>
          rw [z] at e
          cases e
          cases r
          rw [ints_at t z]
          rfl
      | _ => cases e
theorem ltT_at {f : Nat → Addr} {n : Nat} {H : Hp} {xs ys : List PV} {vs ws : List V} {k : Bool} (r : RVs c f n H xs vs) (r' : RVs c f n H ys ws) (e : ltT xs ys = some k) : ∃ ns ms : List Int, vs = ns.map V.int ∧ ws = ms.map V.int ∧ k = HT.lexLt ns ms := by
  unfold ltT at e
  split at e
  · rename_i ns e1
    split at e
    · rename_i ms e2
      cases e
      exact ⟨ns, ms, ints_at r e1, ints_at r' e2, rfl⟩
    · cases e
  · cases e
theorem ltP_at {f : Nat → Addr} {n : Nat} {H : Hp} {x y : PV} {v w : V} {k : Bool} (r : RV c f n H x v) (r' : RV c f n H y w) (e : ltP x y = some k) :
    (∃ i j, v = .int i ∧ w = .int j ∧ k = decide (i < j)) ∨ ∃ a b ns ms, v = .ref a ∧ w = .ref b ∧ H a = some (.tup (ns.map V.int)) ∧ H b = some (.tup (ms.map V.int)) ∧ k = HT.lexLt ns ms := by
  unfold ltP at e
  split at e
  · cases e; cases r; cases r'
    exact .inl ⟨_, _, rfl, rfl, rfl⟩
  · cases r with
    | tup a1 a2 =>
      cases r' with
      | tup b1 b2 =>
        obtain ⟨ns, ms, rfl, rfl, rfl⟩ := ltT_at a2 b2 e
        exact .inr ⟨_, _, _, _, rfl, rfl, a1, b1, rfl⟩
  · cases e
theorem leP_at {f : Nat → Addr} {n : Nat} {H : Hp} {x y : PV} {v w : V} {k : Bool} (r : RV c f n H x v) (r' : RV c f n H y w) (e : leP x y = some k) :
    (∃ i j, v = .int i ∧ w = .int j ∧ k = decide (i ≤ j)) ∨ ∃ a b ns ms, v = .ref a ∧ w = .ref b ∧ H a = some (.tup (ns.map V.int)) ∧ H b = some (.tup (ms.map V.int)) ∧ k = !HT.lexLt ms ns := by
  unfold leP at e
  split at e
  · cases e; cases r; cases r'
    exact .inl ⟨_, _, rfl, rfl, rfl⟩
  · cases r with
    | tup a1 a2 =>
      cases r' with
      | tup b1 b2 =>
        cases z : ltT _ _ with
        | none => rw [z] at e; cases e
        | some j =>
          rw [z] at e
          cases e
          obtain ⟨ns, ms, rfl, rfl, rfl⟩ := ltT_at b2 a2 z
          exact .inr ⟨_, _, _, _, rfl, rfl, a1, b1, rfl⟩
  · cases e
theorem lexAt_shift {e r : Nat → Bool} {z : Bool} : ∀ (m i : Nat), Ob.lexAt e r z (i + 1) m = Ob.lexAt (fun j => e (j + 1)) (fun j => r (j + 1)) z i m
  | 0, _ => rfl
  | m + 1, i => by
    rw [Ob.lexAt_succ, Ob.lexAt_succ, lexAt_shift m (i + 1)]
theorem lexAt_is : ∀ ns ms : List Int, Ob.lexAt (fun j => decide (ns.getD j 0 = ms.getD j 0)) (fun j => decide (ns.getD j 0 ≤ ms.getD j 0)) (decide (ns.length ≤ ms.length)) 0 (min ns.length ms.length) = !HT.lexLt ms ns
  | [], [] => rfl
  | [], _ :: _ => rfl
  | _ :: _, [] => rfl
  | x :: ns, y :: ms => by
    have ih := lexAt_is ns ms
    rw [List.length_cons, List.length_cons, Nat.succ_min_succ, Ob.lexAt_succ, lexAt_shift]
    have e1 : decide (ns.length + 1 ≤ ms.length + 1) = decide (ns.length ≤ ms.length) := decide_eq_decide.mpr (by omega)
    rw [e1]
    show (if decide (x = y) = true then Ob.lexAt (fun j => decide (ns.getD j 0 = ms.getD j 0)) (fun j => decide (ns.getD j 0 ≤ ms.getD j 0)) (decide (ns.length ≤ ms.length)) 0 (min ns.length ms.length) else decide (x ≤ y)) = !(if y = x then HT.lexLt ms ns else decide (y < x))
    rw [ih]
    by_cases h : x = y
    · rw [if_pos (decide_eq_true h), if_pos h.symm]
    · rw [if_neg (by rw [decide_eq_true_eq]; exact h), if_neg (fun z => h z.symm)]
      by_cases h2 : y < x
      · rw [decide_eq_true h2, decide_eq_false (by omega)]
        rfl
      · rw [decide_eq_false h2, decide_eq_true (by omega)]
        rfl
theorem gtP_at {f : Nat → Addr} {n : Nat} {H : Hp} {x y : PV} {v w : V} {k : Bool} (r : RV c f n H x v) (r' : RV c f n H y w) (e : gtP x y = some k) :
    (∃ i j, v = .int i ∧ w = .int j ∧ k = decide (j < i)) ∨ ∃ a b ns ms, v = .ref a ∧ w = .ref b ∧ H a = some (.tup (ns.map V.int)) ∧ H b = some (.tup (ms.map V.int)) ∧ k = HT.lexLt ms ns := by
  unfold gtP at e
  split at e
  · cases e; cases r; cases r'
    exact .inl ⟨_, _, rfl, rfl, rfl⟩
  · cases r with
    | tup a1 a2 =>
      cases r' with
      | tup b1 b2 =>
        obtain ⟨ns, ms, rfl, rfl, rfl⟩ := ltT_at b2 a2 e
        exact .inr ⟨_, _, _, _, rfl, rfl, a1, b1, rfl⟩
  · cases e
theorem lexAt_gt : ∀ ns ms : List Int, Ob.lexAt (fun j => decide (ns.getD j 0 = ms.getD j 0)) (fun j => decide (ms.getD j 0 < ns.getD j 0)) (decide (ns.length > ms.length)) 0 (min ns.length ms.length) = HT.lexLt ms ns
  | [], [] => rfl
  | [], _ :: _ => rfl
  | _ :: _, [] => rfl
  | x :: ns, y :: ms => by
    have ih := lexAt_gt ns ms
    rw [List.length_cons, List.length_cons, Nat.succ_min_succ, Ob.lexAt_succ, lexAt_shift]
    have e1 : decide (ns.length + 1 > ms.length + 1) = decide (ns.length > ms.length) := decide_eq_decide.mpr (by omega)
    rw [e1]
    show (if decide (x = y) = true then Ob.lexAt (fun j => decide (ns.getD j 0 = ms.getD j 0)) (fun j => decide (ms.getD j 0 < ns.getD j 0)) (decide (ns.length > ms.length)) 0 (min ns.length ms.length) else decide (y < x)) = (if y = x then HT.lexLt ms ns else decide (y < x))
    rw [ih]
    by_cases h : x = y
    · rw [if_pos (decide_eq_true h), if_pos h.symm]
    · rw [if_neg (by rw [decide_eq_true_eq]; exact h), if_neg (fun z => h z.symm)]
theorem op_gtT {X : Cx} (hu : X.A.units < cLine) : OpR X (compareOp .Gt) (fun x y H Q => ∃ (a b : Addr) (ns ms : List Int), x = .ref a ∧ y = .ref b ∧ SqT X.K H a (ns.map V.int) ∧ SqT X.K H b (ms.map V.int) ∧ Q (.bl (HT.lexLt ms ns)) H) := by
  intro pins s σ H x y v u Q I rx ry h
  obtain ⟨a, b, ns, ms, rfl, rfl, ha, hb, q⟩ := h
  cases rx
  cases ry
  obtain ⟨its, r1, p1, _⟩ := I.tuple ha
  obtain ⟨its2, r2, p2, _⟩ := I.tuple hb
  have i1 : IntsAre its ns := Vals.ints r1
  have i2 : IntsAre its2 ms := Vals.ints r2
  have e1 : its.toArray.size = ns.length := by rw [List.size_toArray]; exact i1.length
  have e2 : its2.toArray.size = ms.length := by rw [List.size_toArray]; exact i2.length
  have at1 : ∀ j (h1 : j < its.toArray.size), ∃ t, its.toArray[j] = .int (ns.getD j 0) t := fun j h1 => PyProof.Rows.IntsAre.int_at i1 _ _ (by simp at h1; simp [h1])
  have at2 : ∀ j (h1 : j < its2.toArray.size), ∃ t, its2.toArray[j] = .int (ms.getD j 0) t := fun j h1 => PyProof.Rows.IntsAre.int_at i2 _ _ (by simp at h1; simp [h1])
  have R := Ob.RcOp.tuples_gt (A := X.A) (s := s) (e := fun j => decide (ns.getD j 0 = ms.getD j 0)) (r := fun j => decide (ms.getD j 0 < ns.getD j 0)) p1 p2 hu (fun j h1 h2 => by
    obtain ⟨t, et⟩ := at1 j h1
    obtain ⟨t', et'⟩ := at2 j h2
    rw [et, et']
    have z : (ns.getD j 0 == ms.getD j 0) = decide (ns.getD j 0 = ms.getD j 0) := by
      by_cases q : ns.getD j 0 = ms.getD j 0
      · rw [decide_eq_true q]; exact beq_iff_eq.mpr q
      · rw [decide_eq_false q]; exact beq_eq_false_iff_ne.mpr q
    rw [← z]
    exact SeqAt.EqAt.int_int _ _ _ _) (fun j h1 h2 _ => by
    obtain ⟨t, et⟩ := at1 j h1
    obtain ⟨t', et'⟩ := at2 j h2
    rw [et, et']
    exact Ob.RcOp.gt_int _ _ _ _)
  rw [e1, e2, lexAt_gt] at R
  have z : wpAny (model X.prog X.w) X.A (compareOp .Gt (.ref a) (.ref b)) (EP X pins σ Q) X.xe s := R X.prog X.w X.xe (EP X pins σ Q) ⟨.bl _, H, I, rfl, q⟩
  exact z
theorem isP_at {f : Nat → Addr} {n : Nat} {H : Hp} {x y : PV} {v w : V} {k : Bool} (r : RV c f n H x v) (r' : RV c f n H y w) (e : isP x y = some k) : (w = .non ∧ k = decide (v = .non)) ∨ ∃ a b : Bool, v = .bl a ∧ w = .bl b ∧ k = decide (a = b) := by
  unfold isP at e
  split at e
  · cases r'
    refine .inl ⟨rfl, ?_⟩
    cases r <;> cases e <;> rfl
  · split at e
    · cases r'
      cases r
      cases e
      exact .inr ⟨_, _, rfl, rfl, rfl⟩
    · cases e
  · cases e
theorem negO_at {o : Option Bool} {k : Bool} (e : negO o = some k) : ∃ j, o = some j ∧ k = !j := by
  cases o with
  | none => cases e
  | some j => cases e; exact ⟨j, rfl, rfl⟩
theorem op_cmp (hK : X.K = c.K) (hu : X.A.units + 65 < cLine) (op : Cop) : OpR X (compareOp (opC op)) (rCmp c op) := by
  intro pins s σ H x y v u Q I rx ry ⟨f, h, pv, pw, k, r, r1, r2, p, q⟩
  cases op with
  | eq =>
    obtain ⟨d, e, a1, a2, a3, a4, rfl⟩ := eqP_at r r1 r2 p
    rw [← hK] at a1 a2
    exact op_eqD (by omega) pins s σ H _ _ v u Q I rx ry ⟨d, e, a1, a2, a3, a4, q⟩
  | ne =>
    obtain ⟨j, p', rfl⟩ := negO_at p
    obtain ⟨d, e, a1, a2, a3, a4, rfl⟩ := eqP_at r r1 r2 p'
    rw [← hK] at a1 a2
    exact op_neD (by omega) pins s σ H _ _ v u Q I rx ry ⟨d, e, a1, a2, a3, a4, q⟩
  | lt =>
    rcases ltP_at r1 r2 p with ⟨i, j, rfl, rfl, rfl⟩ | ⟨a, b, ns, ms, rfl, rfl, ha, hb, rfl⟩
    · exact op_lt pins s σ H _ _ v u Q I rx ry ⟨_, _, rfl, rfl, q⟩
    · exact op_ltT (by omega) pins s σ H _ _ v u Q I rx ry ⟨_, _, _, _, rfl, rfl, SqT.of ha, SqT.of hb, q⟩
  | le =>
    rcases leP_at r1 r2 p with ⟨i, j, rfl, rfl, rfl⟩ | ⟨a, b, ns, ms, rfl, rfl, ha, hb, rfl⟩
    · exact op_le pins s σ H _ _ v u Q I rx ry ⟨_, _, rfl, rfl, q⟩
    · exact op_leT (by omega) pins s σ H _ _ v u Q I rx ry ⟨_, _, _, _, rfl, rfl, SqT.of ha, SqT.of hb, by rw [lexAt_is]; exact q⟩
  | gt =>
    rcases gtP_at r1 r2 p with ⟨i, j, rfl, rfl, rfl⟩ | ⟨a, b, ns, ms, rfl, rfl, ha, hb, rfl⟩
    · exact op_gt pins s σ H _ _ v u Q I rx ry ⟨_, _, rfl, rfl, q⟩
    · exact op_gtT (by omega) pins s σ H _ _ v u Q I rx ry ⟨_, _, _, _, rfl, rfl, SqT.of ha, SqT.of hb, q⟩
  | ge =>
    obtain ⟨i, j, rfl, rfl, rfl⟩ := int2_at p
    cases r1; cases r2
    exact op_ge pins s σ H _ _ v u Q I rx ry ⟨_, _, rfl, rfl, q⟩
  | is =>
    rcases isP_at r1 r2 p with ⟨e1, rfl⟩ | ⟨a, b, e1, e2, rfl⟩
    · exact op_isN pins s σ H _ _ v u Q I rx ry ⟨e1, q⟩
    · exact op_isBl pins s σ H _ _ v u Q I rx ry ⟨a, b, e1, e2, q⟩
  | nis =>
    obtain ⟨j, p', rfl⟩ := negO_at p
    rcases isP_at r1 r2 p' with ⟨e1, rfl⟩ | ⟨a, b, e1, e2, rfl⟩
    · exact op_notN pins s σ H _ _ v u Q I rx ry ⟨e1, q⟩
    · exact op_notBl pins s σ H _ _ v u Q I rx ry ⟨a, b, e1, e2, q⟩
theorem flat_at {f : Nat → Addr} {n : Nat} {H : Hp} {x : PV} {v : V} (r : RV c f n H x v) (e : flatP x = true) : flatV v = true := by
  cases r <;> first | rfl | cases e
theorem flats_at {f : Nat → Addr} {n : Nat} {H : Hp} : ∀ {xs : List PV} {vs : List V}, RVs c f n H xs vs → xs.all flatP = true → vs.all flatV = true
  | [], [], .nil, _ => rfl
  | x :: xs, v :: vs, .cons r t, e => by
    rw [List.all_cons, Bool.and_eq_true] at e
    rw [List.all_cons, Bool.and_eq_true]
    exact ⟨flat_at r e.1, flats_at t e.2⟩
theorem eqF_at {f : Nat → Addr} {n : Nat} {H : Hp} {x y : PV} {v w : V} (r : RV c f n H x v) (r' : RV c f n H y w) (e : flatP x = true) (e' : flatP y = true) : eqF x y = eqV v w := by
  cases r <;> cases r' <;> first | rfl | (cases e; done) | (cases e'; done)
theorem in_at {f : Nat → Addr} {n : Nat} {H : Hp} {x : PV} {v : V} (r : RV c f n H x v) (e : flatP x = true) : ∀ {xs : List PV} {vs : List V}, RVs c f n H xs vs → xs.all flatP = true → (xs.any fun y => eqF y x) = inV v vs
  | [], [], .nil, _ => rfl
  | y :: xs, w :: vs, .cons r' t, e' => by
    rw [List.all_cons, Bool.and_eq_true] at e'
    unfold inV
    rw [List.any_cons, List.any_cons, eqF_at r' r e'.1 e, in_at r e t e'.2]
    rfl
theorem keyT_at {f : Nat → Addr} {h : PH} {H : Hp} {x : PV} {v : V} {is : List Int} (rv : RV c f h.n H x v) (e : keyT x = some is) : ∃ b, v = .ref b ∧ H b = some (.tup ((kT is).map kV)) := by
  cases x with
  | tup xs =>
    cases rv with
    | tup h1 h2 =>
      obtain ⟨e1, _⟩ := intsP_vals h2 e
      refine ⟨_, rfl, ?_⟩
      rw [h1, e1]
      unfold kT
      rw [List.map_map]
      rfl
  | _ => cases e
theorem dLook_at {f : Nat → Addr} {h : PH} {H : Hp} (r : Rel c f h H) {x y : PV} {v w : V} {o : Option PV} (r1 : RV c f h.n H x v) (r2 : RV c f h.n H y w) (e : dLook x y h = some o) :
    ∃ a u, v = .ref a ∧ DGx c.w H a w u ∧ ((o = none ∧ u = none) ∨ ∃ p q, o = some p ∧ u = some q ∧ RV c f h.n H p q) := by
  unfold dLook at e
  split at e
  · rename_i i
    cases r1 with
    | ref hi =>
      split at e
      · rename_i kvs g
        split at e
        · rename_i k
          cases e
          cases r2
          cases r.obj i _ g with
          | dK h1 h2 hn =>
            rename_i ws
            have z := (show DGet H _ _ _ from .inl ⟨ws, kI k, .inl h1, rfl, rfl⟩)
            refine ⟨_, valV ws (kI k), rfl, .inl z, ?_⟩
            rcases h2.val kI_inj k with ⟨e1, e2⟩ | ⟨p, q, e1, e2, e3⟩
            · exact .inl ⟨e1, e2⟩
            · exact .inr ⟨p, q, e1, e2, e3⟩
        · cases e
      · rename_i kvs g
        split at e
        · rename_i k ek
          cases e
          obtain ⟨b, rfl, hb⟩ := keyT_at r2 ek
          cases r.obj i _ g with
          | dT h1 h2 hn =>
            rename_i ws
            have z := (show DGet H _ _ _ from .inr ⟨ws, kT k, b, .inl h1, rfl, hb, rfl⟩)
            refine ⟨_, valV ws (kT k), rfl, .inl z, ?_⟩
            rcases h2.val kT_inj k with ⟨e1, e2⟩ | ⟨p, q, e1, e2, e3⟩
            · exact .inl ⟨e1, e2⟩
            · exact .inr ⟨p, q, e1, e2, e3⟩
        · cases e
      · rename_i kvs g
        split at e
        · rename_i k ek
          cases e
          obtain ⟨b, rfl, hb⟩ := keyT_at r2 ek
          cases r.obj i _ g with
          | lT h1 h2 hn =>
            rename_i ws od
            have z := (show DGet H _ _ _ from .inr ⟨ws, kT k, b, .inr ⟨_, h1⟩, rfl, hb, rfl⟩)
            refine ⟨_, valV ws (kT k), rfl, .inl z, ?_⟩
            rcases h2.val kT_inj k with ⟨e1, e2⟩ | ⟨p, q, e1, e2, e3⟩
            · exact .inl ⟨e1, e2⟩
            · exact .inr ⟨p, q, e1, e2, e3⟩
        · cases e
      · rename_i kvs g
        split at e
        · rename_i k
          cases e
          cases r2
          cases r.obj i _ g with
          | lK h1 h2 hn =>
            rename_i ws od
            have z := (show DGet H _ _ _ from .inl ⟨ws, kI k, .inr ⟨_, h1⟩, rfl, rfl⟩)
            refine ⟨_, valV ws (kI k), rfl, .inl z, ?_⟩
            rcases h2.val kI_inj k with ⟨e1, e2⟩ | ⟨p, q, e1, e2, e3⟩
            · exact .inl ⟨e1, e2⟩
            · exact .inr ⟨p, q, e1, e2, e3⟩
        · cases e
      · rename_i kvs g
        split at e
        · rename_i k ek
          cases e
          obtain ⟨b, rfl, hb, hd⟩ := keyN_at r2 ek
          cases r.obj i _ g with
          | dN h1 h2 hn =>
            rename_i es
            refine ⟨_, valN k es, rfl, .inr ⟨es, k, b, h1, h2.nes, rfl, hb, hd, rfl⟩, ?_⟩
            rcases h2.val k with ⟨e1, e2⟩ | ⟨p, q, e1, e2, e3⟩
            · exact .inl ⟨e1, e2⟩
            · exact .inr ⟨p, q, e1, e2, e3⟩
        · cases e
      · cases e
  · cases e
theorem dGetP_at {f : Nat → Addr} {h : PH} {H : Hp} (r : Rel c f h H) {x y p : PV} {v w : V} (r1 : RV c f h.n H x v) (r2 : RV c f h.n H y w) (e : dGetP x y h = some p) : ∃ a q, v = .ref a ∧ DGx c.w H a w (some q) ∧ RV c f h.n H p q := by
  unfold dGetP at e
  split at e
  · rename_i z e2
    cases e
    obtain ⟨a, u, e1, g, q⟩ := dLook_at r r1 r2 e2
    rcases q with ⟨z, _⟩ | ⟨p, q, z1, z2, z3⟩
    · cases z
    · cases z1
      subst z2
      exact ⟨a, q, e1, g, z3⟩
  · cases e
theorem dInP_at {f : Nat → Addr} {h : PH} {H : Hp} (r : Rel c f h H) {x y : PV} {v w : V} {k : Bool} (r1 : RV c f h.n H x v) (r2 : RV c f h.n H y w) (e : dInP x y h = some k) : ∃ a u, v = .ref a ∧ DGx c.w H a w u ∧ u.isSome = k := by
  unfold dInP at e
  split at e
  · rename_i z e2
    cases e
    obtain ⟨a, u, e1, g, q⟩ := dLook_at r r1 r2 e2
    refine ⟨a, u, e1, g, ?_⟩
    rcases q with ⟨z1, z2⟩ | ⟨p, q, z1, z2, z3⟩
    · rw [z1, z2]; rfl
    · rw [z1, z2]; rfl
  · cases e
theorem kx_at {f : Nat → Addr} {n : Nat} {H : Hp} {y : PV} {b : Addr} {k : NestedKey} (r : RV c f n H y (.ref b)) (e : keyN y = some k) (ok : okPk y k = true) : KX H k b := by
  intro q hq
  unfold okPk at ok
  rw [hq] at ok
  have ok : exactP y = true := ok
  have en : nkO y = some k := by
    unfold keyN at e
    split at e
    · split at e
      · rename_i k' ek
        split at e
        · cases e
          exact ek
        · cases e
      · cases e
    · cases e
  unfold exactP at ok
  split at ok
  · rename_i j
    cases en
    cases hq
    cases r with
    | tup h1 h2 =>
      cases h2 with
      | cons a1 h2 =>
        cases h2 with
        | cons a2 h2 =>
          cases h2
          cases a1
          cases a2
          exact h1
  · rename_i i j
    cases en
    cases hq
    cases r with
    | tup h1 h2 =>
      cases h2 with
      | cons a1 h2 =>
        cases h2 with
        | cons a2 h2 =>
          cases h2
          cases a1
          cases a2
          exact h1
  · cases ok
theorem dPutP_at {f : Nat → Addr} {h h' : PH} {H : Hp} (r : Rel c f h H) {x y p : PV} {v w q : V} (r1 : RV c f h.n H x v) (r2 : RV c f h.n H y w) (r3 : RV c f h.n H p q) (e : dPutP x y p h = some h') : ∃ a H', v = .ref a ∧ DPx c.w H a w q H' ∧ Rel c f h' H' ∧ Ext f h.n H f h'.n H' := by
  unfold dPutP at e
  split at e
  · rename_i i
    cases r1 with
    | ref hi =>
      split at e
      · rename_i kvs g
        split at e
        · rename_i k hz
          cases e
          cases r2
          cases r.obj i _ g with
          | dK h1 h2 h3 =>
            rename_i ws
            obtain ⟨r4, e4⟩ := r.writeK g (h2.put kI_inj k r3 h3) h3.put
            refine ⟨_, _, rfl, .inl (.inl ⟨ws, kI k, h1, rfl, ?_, rfl⟩), r4, e4⟩
            rw [← h2.length]
            exact Nat.lt_of_le_of_lt (Nat.le_of_ble_eq_true hz) line_big
        · cases e
      · rename_i kvs g
        split at e
        · rename_i k ek hz
          cases e
          obtain ⟨b, rfl, hb⟩ := keyT_at r2 ek
          cases r.obj i _ g with
          | dT h1 h2 h3 =>
            rename_i ws
            obtain ⟨r4, e4⟩ := r.writeT g (h2.put kT_inj k r3 h3) h3.put
            refine ⟨_, _, rfl, .inl (.inr ⟨ws, kT k, b, h1, rfl, hb, ?_, rfl⟩), r4, e4⟩
            rw [← h2.length]
            exact Nat.lt_of_le_of_lt (Nat.le_of_ble_eq_true hz) line_big
        · cases e
      · rename_i kvs g
        split at e
        · rename_i k ek hz
          split at e
          · rename_i hok
            cases e
            obtain ⟨b, rfl, hb, hd⟩ := keyN_at r2 ek
            have kx := kx_at r2 ek hok
            cases r.obj i _ g with
            | dN h1 h2 h3 =>
              rename_i es
              have hl : kvs.length < sizeLine := Nat.lt_of_le_of_lt (Nat.le_of_ble_eq_true hz) (by rw [sizeLine_eq]; decide)
              obtain ⟨r4, e4⟩ := r.writeN g (h2.put k hb hd kx r3) (Nat.le_trans (putNG_len k _ kvs) hl) (putNG_nd k _ kvs h3.2.2)
              exact ⟨_, _, rfl, .inr ⟨es, k, b, h1, h2.nes, rfl, hb, hd, by rw [← h2.length]; exact hl, rfl⟩, r4, e4⟩
          · cases e
        · cases e
      · cases e
  · cases e
def rIxD (w : World) : R2 := fun x y H Q => ∃ a v, x = .ref a ∧ DGx w H a y (some v) ∧ Q v H
theorem ix_dict (hu : X.A.units + 65 < cLine) : IxR X (rIxD X.w) := by
  intro value slice pins s σ H x y v u Q I rx ry ⟨a, w, e, g, q⟩ hs
  subst e
  obtain rfl : v = Value.ref a := rx
  have hT := x_typeIs I g
  unfold subscriptTail
  refine wpAny_bind ?_
  rw [getitemInPython_of_ne hT.not_modules]
  refine wpAny_bind (wpAny_specialOf hT PySem.F.slot_dict_getitem.lookup ?_)
  have fin : wpAny (model X.prog X.w) X.A (subscripted slice false (.ref a) u) (fun r s₃ => wpAny (model X.prog X.w) X.A (letTemporaryGo value (.ref a) r >>= fun _ => pure r) (EP X pins σ Q) X.xe s₃) X.xe s := by
    rw [hs]
    exact wpAny_operating (wpAny_mono (x_getItem hu I g ry fun w' s3 I3 rw' => (show EP X pins σ Q w' s3 from ⟨w, H, I3, rw', q⟩)) (fun r s₃ h₃ => wpAny_bind (wpAny_letTemporaryGo (wpAny_pure h₃))) fun _ _ x => x)
  first
    | exact wpAny_pure (wpAny_bind fin)
    | exact wpAny_bind (wpAny_pure (wpAny_bind fin))
    | exact wpAny_bind fin
def rInDT (K : PySem.W.Frag) : R2 := fun x y H Q => ∃ d ds, Dp K H x d ∧ Dp K H y (.tuple ds) ∧ SeqAt.shaped d = true ∧ SeqAt.shaped (.tuple ds) = true ∧ Q (.bl (ds.any fun z => PyData.eqv z d)) H
def rNotInDT (K : PySem.W.Frag) : R2 := fun x y H Q => ∃ d ds, Dp K H x d ∧ Dp K H y (.tuple ds) ∧ SeqAt.shaped d = true ∧ SeqAt.shaped (.tuple ds) = true ∧ Q (.bl (!ds.any fun z => PyData.eqv z d)) H
theorem op_inDT (hu : X.A.units + 65 < cLine) : OpR X (compareOp .In) (rInDT X.K) := by
  intro pins s σ H x y v u Q I rx ry h
  obtain ⟨d, ds, hd, he, sd, se, q⟩ := h
  obtain ⟨as, r1⟩ := Dp.reads I d x v hd rx
  obtain ⟨bs, r2⟩ := Dp.reads I (.tuple ds) y u he ry
  exact SeqAt.in_tuple_reads r2 r1 (SeqAt.canLay_of_shaped se) (SeqAt.canLay_of_shaped sd) (room_in_shaped sd hu) ⟨.bl _, H, I, rfl, q⟩
theorem op_notInDT (hu : X.A.units + 65 < cLine) : OpR X (compareOp .NotIn) (rNotInDT X.K) := by
  intro pins s σ H x y v u Q I rx ry h
  obtain ⟨d, ds, hd, he, sd, se, q⟩ := h
  obtain ⟨as, r1⟩ := Dp.reads I d x v hd rx
  obtain ⟨bs, r2⟩ := Dp.reads I (.tuple ds) y u he ry
  exact SeqAt.notIn_tuple_reads r2 r1 (SeqAt.canLay_of_shaped se) (SeqAt.canLay_of_shaped sd) (room_in_shaped sd hu) ⟨.bl _, H, I, rfl, q⟩
theorem op_inP (hK : X.K = c.K) (hW : X.w = c.w) (hu : X.A.units + 65 < cLine) (ng : Bool) : OpR X (compareOp (if ng then .NotIn else .In)) (rInP c ng) := by
  intro pins s σ H x y v u Q I rx ry ⟨f, h, pv, pw, k, r, r1, r2, p, q⟩
  unfold inP at p
  split at p
  · rename_i xs e
    split at p
    · rename_i e'
      cases p
      rw [Bool.and_eq_true] at e'
      obtain ⟨a, vs, rfl, hs, rv⟩ := seqOf_at r r2 e
      rw [in_at r1 e'.1 rv e'.2] at q
      rw [← hK] at hs
      cases ng with
      | false => exact op_in_seq pins s σ H _ _ v u Q I rx ry ⟨a, vs, rfl, hs, flat_at r1 e'.1, flats_at rv e'.2, q⟩
      | true => exact op_notIn_seq pins s σ H _ _ v u Q I rx ry ⟨a, vs, rfl, hs, flat_at r1 e'.1, flats_at rv e'.2, q⟩
    · unfold inD at p
      split at p
      · rename_i d q1
        split at p
        · rename_i ds q2
          cases p
          obtain ⟨a1, a2⟩ := toDat_at r r1 q1
          obtain ⟨b1, b2⟩ := toDat_at r r2 q2
          rw [← hK] at a1 b1
          cases ng with
          | false => exact op_inD hu pins s σ H _ _ v u Q I rx ry ⟨d, ds, a1, b1, a2, b2, q⟩
          | true => exact op_notInD hu pins s σ H _ _ v u Q I rx ry ⟨d, ds, a1, b1, a2, b2, q⟩
        · rename_i ds q2
          cases p
          obtain ⟨a1, a2⟩ := toDat_at r r1 q1
          obtain ⟨b1, b2⟩ := toDat_at r r2 q2
          rw [← hK] at a1 b1
          cases ng with
          | false => exact op_inDT hu pins s σ H _ _ v u Q I rx ry ⟨d, ds, a1, b1, a2, b2, q⟩
          | true => exact op_notInDT hu pins s σ H _ _ v u Q I rx ry ⟨d, ds, a1, b1, a2, b2, q⟩
        · cases p
      · cases p
  · obtain ⟨a, u2, rfl, g, e⟩ := dInP_at r r2 r1 p
    cases (show u = Value.ref a from ry)
    subst e
    rw [← hW] at g
    cases ng with
    | false => exact x_in hu I g rx fun s' I' => ⟨.bl _, H, I', rfl, q⟩
    | true => exact x_notIn hu I g rx fun s' I' => ⟨.bl _, H, I', rfl, q⟩
theorem isEmpty_at {f : Nat → Addr} {n : Nat} {H : Hp} {xs : List PV} {vs : List V} (r : RVs c f n H xs vs) : xs.isEmpty = vs.isEmpty := by
  cases r <;> rfl
theorem atI_at {f : Nat → Addr} {n : Nat} {H : Hp} {xs : List PV} {vs : List V} (r : RVs c f n H xs vs) {i : Int} {x : PV} (e : atI xs i = some x) : ∃ v, atI vs i = some v ∧ RV c f n H x v := by
  unfold atI at e ⊢
  rw [r.length] at e
  cases z : ixN vs.length i with
  | none => rw [z] at e; cases e
  | some j =>
    rw [z] at e
    exact r.get j x e
theorem ix_at (hK : X.K = c.K) (hW : X.w = c.w) (hu : X.A.units + 65 < cLine) : IxR X (rIxP c) := by
  intro value slice pins s σ H x y v u Q I rx ry ⟨f, h, pv, pw, pu, r, r1, r2, p, q⟩ hs
  have dict : dGetP pv pw h = some pu → wpAny (model X.prog X.w) X.A (subscriptTail value slice v u) (EP X pins σ Q) X.xe s := fun p => by
    obtain ⟨a, w, e, g, r3⟩ := dGetP_at r r1 r2 p
    rw [← hW] at g
    exact ix_dict (by omega) value slice pins s σ H x y v u Q I rx ry ⟨a, w, e, g, q w r3⟩ hs
  unfold ixP at p
  split at p
  · rename_i i
    split at p
    · rename_i xs e
      cases r2
      refine ix_seq value slice pins s σ H x _ v u Q I rx ry ?_ hs
      obtain ⟨a, vs, rfl, hs, rv⟩ := seqOf_at r r1 e
      obtain ⟨w, e1, r3⟩ := atI_at rv p
      rw [← hK] at hs
      rcases hs with hs | hs
      · exact .inl ⟨a, vs, i, w, rfl, rfl, hs, e1, q w r3⟩
      · exact .inr (.inl ⟨a, vs, i, w, rfl, rfl, hs, e1, q w r3⟩)
    · exact dict p
  · exact dict p
theorem sl_at (hK : X.K = c.K) : SlR X (rSlP c) := by
  intro pins s σ H x v vl vu lo hi sl Q I rx hs pl pu ⟨f, h, pv, r, r1, p⟩
  unfold slP at p
  split at p
  · cases r1 with
    | tup h1 h2 =>
      obtain ⟨z, k1, k2⟩ := okT_at r (h2.cut lo hi) p
      refine sl_tupA pins s σ H _ v vl vu lo hi sl Q I rx hs pl pu ⟨_, _, rfl, SqT.of h1, fun e => ?_, fun _ => k1⟩
      refine k2 _ ?_
      rw [h1]
      unfold cutV
      rw [e.1, e.2, List.drop_zero, Nat.sub_zero, List.take_length]
  · split at p
    · rename_i i xs e
      obtain ⟨a, vs, rfl, hq, rv⟩ := seqL_at r r1 e
      rw [← hK] at hq
      obtain ⟨z, k⟩ := okL_at r (rv.cut lo hi) p
      exact sl_list pins s σ H _ v vl vu lo hi sl Q I rx hs pl pu ⟨a, vs, rfl, hq, k⟩
    · exact p.elim
  · exact p.elim
theorem set_at (hW : X.w = c.w) (hu : X.A.units + 65 < cLine) : PSet X (rSetP c) := by
  intro pins s σ H o i v ov iv u Q I ro ri rv ⟨f, h, po, pi, pv, h', r, r1, r2, r3, p, q⟩
  unfold setP at p
  split at p
  · rename_i k a xs e
    split at p
    · rename_i j ej
      cases p
      obtain ⟨vs, rfl, hg, h1, rs⟩ := lstAt_at r r1 e
      cases r2
      obtain ⟨r4, e4⟩ := r.write hg (rs.set j r3)
      exact set_list pins s σ H _ _ v ov iv u Q I ro ri rv ⟨f a, vs, k, j, rfl, rfl, h1, by rw [← rs.length]; exact ej, q _ r4 e4⟩
    · cases p
  · obtain ⟨a, H', rfl, g, r4, e4⟩ := dPutP_at r r1 r2 r3 p
    cases (show ov = Value.ref a from ro)
    rw [← hW] at g
    exact x_setItem hu I g ri rv fun s' I' => ⟨H', I', q _ r4 e4⟩
end
end Pyx

namespace Pyx
open PySem PySem.Spec PyProof.Rows L2
def IsTI (h : Heap) (v : Value) (ns : List Int) : Prop := ∃ a o items n, v = .ref a ∧ h.get? a = some o ∧ o.cls = .type "tuple" ∧ o.data = .seq items n ∧ IntsAre items.toList ns ∧ ns ≠ []
theorem IsTI.keeps {h h' : Heap} {v : Value} {ns : List Int} (p : IsTI h v ns) (k : ∀ b o, h.get? b = some o → o.cls = .type "tuple" → h'.get? b = some o) : IsTI h' v ns := by
  obtain ⟨a, o, its, n, e, ho, hc, hd, r⟩ := p
  exact ⟨a, o, its, n, e, k _ _ ho hc, hc, hd, r⟩
theorem firstsTI {h : Heap} {k : Value → List Int} : ∀ {vs : List Value}, (∀ v ∈ vs, IsTI h v (k v)) → ∃ fs : List Value, PySem.W.KatTups h vs fs ∧ fs.length = vs.length ∧ ∀ f ∈ fs, ∃ x t, f = Value.int x t
  | [], _ => ⟨[], PySem.W.KatTups.nil, rfl, fun f hf => absurd hf (by simp)⟩
  | v :: vs, hp => by
    obtain ⟨fs, h1, h2, h3⟩ := firstsTI (vs := vs) fun u hu => hp u (List.mem_cons_of_mem _ hu)
    obtain ⟨a, o, its, n, rfl, ho, hc, hd, hi, hn⟩ := hp v List.mem_cons_self
    obtain ⟨y, ys, e⟩ : ∃ y ys, its.toList = y :: ys := by
      cases q : its.toList with
      | nil =>
        rw [q] at hi
        have l := hi.length
        exact absurd (List.eq_nil_of_length_eq_zero l.symm) hn
      | cons y ys => exact ⟨y, ys, rfl⟩
    obtain ⟨m, t, hy⟩ := hi.all y (by rw [e]; exact List.mem_cons_self)
    refine ⟨y :: fs, PySem.W.KatTups.cons ho hc hd ?_ h1, by rw [List.length_cons, List.length_cons, h2], ?_⟩
    · rw [← Array.getElem?_toList, e, List.getElem?_cons_zero]
    · intro f hf
      rcases List.mem_cons.mp hf with e2 | hf
      · exact ⟨m, t, e2.trans hy⟩
      · exact h3 f hf
section
variable {prog : Program} {w : World} {A : Around} {E : Value → Shared → Prop} {s : Shared} {Q : Bool → Shared → Prop}
theorem lexTI : ∀ {xs ys : List Value} {ns ms : List Int} (i : Nat) {b fin : Bool}, IntsAre xs ns → IntsAre ys ms → fin = decide (xs.length < ys.length) → Q (HT.lexLt ns ms) s → PySem.W.KatLex prog w A b fin Q (xs.zip ys) i s
  | _, _, _, _, i, b, fin, .nil, .nil, hf, h => by
    rw [HT.lexLt_nil_nil] at h
    subst hf
    exact PySem.W.kat_nil h
  | _, _, _, _, i, b, fin, .nil, .cons m u r, hf, h => by
    rw [HT.lexLt_nil_cons] at h
    have e : fin = true := by rw [hf]; exact decide_eq_true (Nat.succ_pos _)
    subst e
    exact PySem.W.kat_nil h
  | _, _, _, _, i, b, fin, .cons n t r, .nil, hf, h => by
    rw [HT.lexLt_cons_nil] at h
    have e : fin = false := by rw [hf]; exact decide_eq_false (Nat.not_lt_zero _)
    subst e
    exact PySem.W.kat_nil h
  | _, _, _, _, i, b, fin, .cons (vs := xs) (ns := ns) n t r, .cons (vs := ys) (ns := ms) m u r', hf, h => by
    have hf' : fin = decide (xs.length < ys.length) := by
      rw [hf]
      simp only [List.length_cons, Nat.add_lt_add_iff_right]
    rw [HT.lexLt_cons] at h
    show PySem.W.KatLex prog w A b fin Q ((Value.int n t, Value.int m u) :: xs.zip ys) i s
    refine PySem.W.kat_cons (wpAny_eqBool_int ?_)
    by_cases e : n = m
    · rw [if_pos e] at h
      subst e
      rw [beq_self_eq_true]
      exact PySem.W.kat_yes (lexTI (i + 1) r r' hf' h)
    · rw [if_neg e] at h
      rw [show (n == m) = false from beq_eq_false_iff_ne.mpr e]
      exact PySem.W.kat_no (TS.oneLt_ints _ h)
theorem cmpTI {vs : List Value} {k : Value → List Int} (hp : ∀ v ∈ vs, IsTI s.heap v (k v)) : SrtO.Cmp prog w A s (tuples' true) (fun p => p.1 ∈ vs) (SrtO.lt2 fun v u => HT.lexLt (k v) (k u)) := by
  intro p q hm hm'
  have h1 := hp _ hm
  have h2 := hp _ hm'
  show wpAny (model prog w) A (keyLt' (tuples' true) p.1 q.1) (fun r s' => s' = s ∧ r = HT.lexLt (k p.1) (k q.1)) (fun _ _ => False) s
  generalize k p.1 = ns at h1 ⊢
  generalize k q.1 = ms at h2 ⊢
  obtain ⟨a, o, its, n, e, ho, hc, hd, hi, _⟩ := h1
  obtain ⟨a', o', its', n', e', ho', hc', hd', hi', _⟩ := h2
  rw [e, e']
  refine PySem.W.kat_lt ho hd ho' hd' ?_
  exact lexTI (Q := fun r s' => s' = s ∧ r = HT.lexLt ns ms) 0 hi hi' (by rw [Array.length_toList, Array.length_toList]) ⟨rfl, rfl⟩
theorem sortableTI {a : Addr} {vs : List Value} {k : Value → List Int} (h0 : 0 < vs.length) (hp : ∀ v ∈ vs, IsTI s.heap v (k v)) (ha : ∀ o, s.heap.get? a = some o → o.cls ≠ .type "tuple") : SrtO.SortableO prog w A s a vs fun v u => HT.lexLt (k v) (k u) := by
  intro h' keep
  have hp' : ∀ v ∈ vs, IsTI h' v (k v) := fun v hm => (hp v hm).keeps fun b o e c => keep b o (fun z => by subst z; exact ha o e c) e
  obtain ⟨fs, h1, h2, h3⟩ := firstsTI hp'
  refine ⟨tuples' true, fun Q E hq => ?_, cmpTI hp'⟩
  refine PySem.W.kat_kind (T := .type "int") h1 (by omega) (fun f hm => ?_) (by rfl) ?_
  · obtain ⟨x, t, rfl⟩ := h3 f hm
    exact PySem.W.Looks.now
  · have e : (Value.type "int" != Value.type "tuple") = true := by first | decide +kernel | rfl | decide
    rw [e]
    exact hq
theorem sortedTI {l : Addr} {vs : List Value} {k : Value → List Int} {Q : Value → Shared → Prop} (hl : s.heap.IsList l vs.toArray) (hz : vs.length ≤ sizeLine) (hp : ∀ v ∈ vs, IsTI s.heap v (k v))
    (h : ∀ (h' : Heap) (d : Addr) (out : List Value), SrtO.Srtd (fun v u => HT.lexLt (k v) (k u)) out → out.Perm vs → (∀ b o, s.heap.get? b = some o → h'.get? b = some o) → s.heap.objs.size ≤ d → (∃ n, h'.get? d = some (seqObj "list" out.toArray n)) → Q (.ref d) { s with heap := h' }) :
    wpAny (model prog w) A (call (.builtin "sorted") [.ref l]) Q E s := by
  refine SrtO.sorted_ord (NtL.swo_lexL k) hl hz (fun h2 h₁ a ha kk => ?_) fun out hs hb => ?_
  · refine sortableTI (s := { s with heap := h₁ }) (by omega) (fun v hm => (hp v hm).keeps fun b o e _ => (kk b o e).2) fun o e => ?_
    have e' : some o = some (seqObj "list" vs.toArray 0) := e.symm.trans ha
    cases e'
    intro c
    exact absurd (Value.type.inj c) (by decide)
  · exact h _ _ out hs hb.perm (fun b o e => sortedAll_old e) (Nat.le_succ _) (sortedAll_at s.heap vs out.toArray)
end
def rSortedTI (K : PySem.W.Frag) : List V → Hp → VK → Prop := fun vs H Q => ∃ (a : Addr) (xs : List V) (k : V → List Int), vs = [V.ref a] ∧ SqL K H a xs ∧ (∀ x ∈ xs, ∃ t, x = V.ref t ∧ H t = some (.tup ((k x).map V.int)) ∧ k x ≠ []) ∧
  ∀ ys p, ys.Pairwise (fun x y => HT.lexLt (k y) (k x) = false) → ys.Perm xs → H p = none → Q (.ref p) (upd H p (.lst ys))
section
variable {X : Cx}
theorem cr_sortedTI : CallR X (.builtin "sorted") (rSortedTI X.K) := by
  intro pins s σ H vs us Q I r h
  obtain ⟨a, xs, k, rfl, hs, hx, q⟩ := h
  obtain ⟨its, rv, hl, hz⟩ := I.list hs
  obtain ⟨u, rfl, ru⟩ := vals1 r
  obtain rfl : u = Value.ref a := ru
  obtain ⟨e1, e2⟩ := refs_back rv fun x m => by
    obtain ⟨t, e, _⟩ := hx x m
    exact ⟨t, e⟩
  refine sortedTI (k := fun u => k (backV u)) hl.isList (by rw [← rv.length]; exact hz) (fun v hv => ?_) fun h' d out h1 h2 kp hd hn => ?_
  · obtain ⟨t, rfl⟩ := e2 v hv
    have hm : V.ref t ∈ xs := by rw [e1]; exact List.mem_map.mpr ⟨_, hv, rfl⟩
    obtain ⟨t', e, ht, hne⟩ := hx _ hm
    cases e
    obtain ⟨_, its2, r2, o, ho, hc, n, hd⟩ := I.hok _ _ ht
    exact ⟨t, o, _, n, rfl, ho, hc, hd, r2.ints, hne⟩
  · have h3 : ∀ u ∈ out, ∃ a, u = Value.ref a := fun u hu => e2 u (h2.mem_iff.mp hu)
    obtain ⟨n, hn⟩ := hn
    have hb : (out.map backV).Perm xs := by
      rw [e1]
      exact h2.map backV
    refine ⟨.ref d, upd H d (.lst (out.map backV)), I.laid (t' := s.toks) kp hd ⟨?_, out, n, vals_back h3, hn⟩, rfl, q _ d (List.pairwise_map.mpr h1) hb (I.hok.fresh hd)⟩
    rw [hb.length_eq]
    exact hz
end
end Pyx

namespace Pyx
open PySem PySem.Spec PySem.W PyProof.Rows L2
def IsTU (h : Heap) (v : Value) (ns : List Int) : Prop := ∃ a o items n, v = .ref a ∧ h.get? a = some o ∧ o.cls = .type "tuple" ∧ o.data = .seq items n ∧ IntsAre items.toList ns
theorem IsTU.keeps {h h' : Heap} {v : Value} {ns : List Int} (p : IsTU h v ns) (k : ∀ b o, h.get? b = some o → o.cls = .type "tuple" → h'.get? b = some o) : IsTU h' v ns := by
  obtain ⟨a, o, its, n, e, ho, hc, hd, r⟩ := p
  exact ⟨a, o, its, n, e, k _ _ ho hc, hc, hd, r⟩
section
variable {prog : Program} {w : World} {A : Around} {E : Value → Shared → Prop} {s : Shared}
theorem IsTU.type {v : Value} {ns : List Int} (x : IsTU s.heap v ns) : Looks (model prog w) s.heap (typeOf v) (.type "tuple") := by
  obtain ⟨a, o, its, n, rfl, ho, hc, hd, r⟩ := x
  rw [← hc]
  exact (Looks.ld ho).andThen .now
theorem firstsU {k : Value → List Int} : ∀ {vs : List Value}, (∀ v ∈ vs, IsTU s.heap v (k v)) → ∃ fs : List (Option Value), fs.map Option.isSome = vs.map (fun v => !(k v).isEmpty) ∧
    ∀ {Q : List (Option Value) → Shared → Prop}, Q fs s → wpAny (model prog w) A (vs.mapM firstOfTuple') Q E s
  | [], _ => ⟨[], rfl, fun h => by rw [List.mapM_nil]; exact wpAny_pure h⟩
  | v :: vs, hp => by
    obtain ⟨fs, e, f⟩ := firstsU (vs := vs) fun u hu => hp u (List.mem_cons_of_mem _ hu)
    obtain ⟨a, o, its, n, rfl, ho, hc, hd, hi⟩ := hp v List.mem_cons_self
    refine ⟨its[0]? :: fs, ?_, fun {Q} h => ?_⟩
    · rw [List.map_cons, List.map_cons, e]
      congr 1
      rw [← Array.getElem?_toList]
      generalize its.toList = us at hi
      generalize k (.ref a) = ns at hi
      cases hi <;> rfl
    · rw [List.mapM_cons]
      refine wpAny_bind ?_
      rw [kas_first_eq]
      refine wpAny_bind (Looks.here (show Looks (model prog w) s.heap (typeOf (.ref a)) o.cls from (Looks.ld ho).andThen .now) ?_)
      rw [hc, if_neg (by first | decide | simp)]
      refine wpAny_bind (listItems_at ho hd (wpAny_pure ?_))
      exact wpAny_bind (f (Q := fun bs s' => wpAny (model prog w) A (pure (its[0]? :: bs)) Q E s') (wpAny_pure h))
theorem ltU_gen {v u : Value} {ns ms : List Int} {Q : Bool → Shared → Prop} (hu : A.units < cLine) (hv : IsTU s.heap v ns) (hw : IsTU s.heap u ms) (h : Q (HT.lexLt ns ms) s) : wpAny (model prog w) A (keyLt' general' v u) Q E s := by
  obtain ⟨a, o, its, n, rfl, ho, hc, hd, hi⟩ := hv
  obtain ⟨b, o2, its2, n2, rfl, ho2, hc2, hd2, hi2⟩ := hw
  rw [show keyLt' general' (.ref a) (.ref b) = oneLt' false (.ref a) (.ref b) from rfl, oneLt'_eq, if_neg (by decide)]
  exact wpAny_bind (HT.lt_tupInts ⟨o, ho, hc, n, hd⟩ ⟨o2, ho2, hc2, n2, hd2⟩ hi hi2 hu (wpAny_truthy_bool h))
theorem ltU_one {v u : Value} {ns ms : List Int} {Q : Bool → Shared → Prop} (hu : A.units < cLine) (hv : IsTU s.heap v ns) (hw : IsTU s.heap u ms) (h : Q (HT.lexLt ns ms) s) : wpAny (model prog w) A (keyLt' oneType' v u) Q E s := by
  obtain ⟨a, ⟨cls, dd, dat, sl⟩, its, n, rfl, ho, hc, hd, hi⟩ := hv
  obtain ⟨b, ⟨cls2, dd2, dat2, sl2⟩, its2, n2, rfl, ho2, hc2, hd2, hi2⟩ := hw
  simp only at hc hd hc2 hd2
  subst hc hd hc2 hd2
  rw [keyLt'_oneType, oneLt'_eq]
  simp only [if_true]
  refine wpAny_bind (wpAny_cRoomFor hu ?_)
  refine wpAny_bind (wpAny_callSpecialIfBound?_slot (T := "tuple") ⟨_, ho, rfl⟩ PySem.F.slot_tuple_lt (call_meets PySem.F.slot_tuple_lt ⟨_, ho, rfl⟩ PySem.F.entry_tuple_lt (PySem.F.args_tuple_lt_2 _ _) (HT.tuple_lt_ints a b its its2 n n2 dd dd2 sl sl2 ns ms hi hi2) ⟨ho, ho2, ?_⟩))
  exact wpAny_truthy_bool h
theorem sortableTU {a : Addr} {vs : List Value} {k : Value → List Int} (h2 : 2 ≤ vs.length) (hu : A.units < cLine) (hp : ∀ v ∈ vs, IsTU s.heap v (k v)) (he : ∃ v ∈ vs, k v = []) (ha : ∀ o, s.heap.get? a = some o → o.cls ≠ .type "tuple") : SrtO.SortableO prog w A s a vs fun v u => HT.lexLt (k v) (k u) := by
  intro h' keep
  have hp' : ∀ v ∈ vs, IsTU h' v (k v) := fun v hm => (hp v hm).keeps fun b o e c => keep b o (fun z => by subst z; exact ha o e c) e
  have some1 : ∀ fs : List (Option Value), fs.map Option.isSome = vs.map (fun v => !(k v).isEmpty) → (fs.toArray.all fun x => x.isSome) = false := fun fs e => by
    obtain ⟨v, hv, z⟩ := he
    rw [List.all_toArray]
    cases y : fs.all fun x => x.isSome with
    | false => rfl
    | true =>
      have m : (!(k v).isEmpty) ∈ fs.map Option.isSome := by rw [e]; exact List.mem_map.mpr ⟨v, hv, rfl⟩
      obtain ⟨x, hx, ex⟩ := List.mem_map.mp m
      have := List.all_eq_true.mp y x hx
      rw [ex, z] at this
      cases this
  obtain ⟨v0, vr, rfl⟩ : ∃ v0 vr, vs = v0 :: vr := by
    cases vs with
    | nil => exact absurd h2 (by decide)
    | cons v0 vr => exact ⟨v0, vr, rfl⟩
  have head : ∀ fs : List (Option Value), fs.map Option.isSome = (v0 :: vr).map (fun v => !(k v).isEmpty) → ((fs.toArray[0]?).bind id).isSome = !(k v0).isEmpty := fun fs e => by
    cases fs with
    | nil => cases e
    | cons f0 fr =>
      rw [List.map_cons, List.map_cons] at e
      rw [← (List.cons.inj e).1]
      show ((some f0).bind id).isSome = _
      rfl
  cases hz : (k v0).isEmpty with
  | false =>
    refine ⟨general', fun Q E hq => ?_, fun p q hm hm' => ltU_gen (s := { s with heap := h' }) hu (hp' _ hm) (hp' _ hm') ⟨rfl, rfl⟩⟩
    obtain ⟨fs, e, f⟩ := firstsU (prog := prog) (w := w) (A := A) (E := E) (s := { s with heap := h' }) hp'
    rw [keyKind'_eq, List.mapM_toArray, map_eq_pure_bind]
    refine wpAny_bind (wpAny_bind (f (wpAny_pure ?_)))
    rw [if_neg (by rw [some1 fs e]; decide), if_pos (by rw [head fs e, hz]; rfl)]
    exact wpAny_pure hq
  | true =>
    refine ⟨oneType', fun Q E hq => ?_, fun p q hm hm' => ltU_one (s := { s with heap := h' }) hu (hp' _ hm) (hp' _ hm') ⟨rfl, rfl⟩⟩
    obtain ⟨fs, e, f⟩ := firstsU (prog := prog) (w := w) (A := A) (E := E) (s := { s with heap := h' }) hp'
    rw [keyKind'_eq, List.mapM_toArray, map_eq_pure_bind]
    refine wpAny_bind (wpAny_bind (f (wpAny_pure ?_)))
    rw [if_neg (by rw [some1 fs e]; decide), if_neg (by rw [head fs e, hz]; decide)]
    rw [oneTypeOnly'_eq, List.mapM_toArray, map_eq_pure_bind]
    refine wpAny_bind (wpAny_bind (wpAny_bind (kas_mapM (r := Value.type "tuple") _ (fun v hv Q' hq => (IsTU.type (prog := prog) (w := w) (s := { s with heap := h' }) (hp' v hv)).here hq) (wpAny_pure ?_))))
    have one : ((List.map (fun _ => Value.type "tuple") (v0 :: vr)).toArray.all fun x => x == Value.type "tuple") = true := by
      rw [List.all_toArray, List.all_map, List.all_eq_true]
      intro _ _
      rfl
    have at0 : (List.map (fun _ => Value.type "tuple") (v0 :: vr)).toArray[0]? = some (Value.type "tuple") := by simp
    rw [at0]
    simp only [one, if_true]
    exact wpAny_pure (wpAny_pure hq)
end
end Pyx

namespace Pyx
open PySem PySem.Spec PyProof.Rows L2
section
variable {P P' : Program} {w : World} {A : Around} {E : Value → Shared → Prop} {s : Shared} {a : Addr} {L : List (Addr × List Int)} {es : Array (Int × Value)} {ep : Nat} {t : SetTable}
theorem IsTU.of {h : Heap} {k : List Int} {b : Addr} (x : IsT P w h k b) : IsTU h (.ref b) k := by
  obtain ⟨o, its, n, x1, x2, x3, x4⟩ := x
  exact ⟨b, o, its, n, rfl, x1, x2, x3, ints_of_items x4⟩
theorem IsTI.of {h : Heap} {k : List Int} {b : Addr} (x : IsT P w h k b) (ne : k ≠ []) : IsTI h (.ref b) k := by
  obtain ⟨o, its, n, x1, x2, x3, x4⟩ := x
  exact ⟨b, o, its, n, rfl, x1, x2, x3, ints_of_items x4, ne⟩
theorem rows_of {L : List (Addr × List Int)} : ∀ {us : List Value}, (∀ u ∈ us, ∃ p ∈ L, u = Value.ref p.1) → ∃ M : List (Addr × List Int), us = M.map (fun p => Value.ref p.1) ∧ ∀ p ∈ M, p ∈ L
  | [], _ => ⟨[], rfl, fun p z => nomatch z⟩
  | u :: us, hu => by
    obtain ⟨p, hp, rfl⟩ := hu u List.mem_cons_self
    obtain ⟨M, e, m⟩ := rows_of (us := us) fun x hx => hu x (List.mem_cons_of_mem _ hx)
    refine ⟨p :: M, by rw [List.map_cons, e], fun x hx => ?_⟩
    rcases List.mem_cons.mp hx with rfl | hx
    · exact hp
    · exact m x hx
theorem rows_one {h : Heap} (tup : ∀ p ∈ L, IsT P w h p.2 p.1) {p q : Addr × List Int} (hp : p ∈ L) (hq : q ∈ L) (e : p.1 = q.1) : p = q := by
  have x := tup p hp
  rw [e] at x
  exact Prod.ext e (x.inj (tup q hq))
theorem nd_map {α β : Type} {g : α → β} {l : List α} (h : (l.map g).Nodup) : l.Nodup := (List.pairwise_map.mp h).imp fun n e => n (by rw [e])
theorem rows_perm {h : Heap} (tup : ∀ p ∈ L, IsT P w h p.2 p.1) (nd : (L.map (·.2)).Nodup) {M : List (Addr × List Int)} (m : ∀ p ∈ M, p ∈ L) (pm : (M.map fun p => Value.ref p.1).Perm (L.map fun p => Value.ref p.1)) : M.Perm L := by
  have nL : L.Nodup := nd_map nd
  have nr : (L.map fun p => Value.ref p.1).Nodup := List.pairwise_map.mpr (nL.imp_of_mem fun {p q} hp hq n e => n (rows_one tup hp hq (Value.ref.inj e)))
  have nM : M.Nodup := nd_map (pm.nodup_iff.mpr nr)
  refine (List.perm_ext_iff_of_nodup nM nL).mpr fun q => ⟨m q, fun hq => ?_⟩
  obtain ⟨x, hx, e⟩ := List.mem_map.mp (pm.mem_iff.mpr (List.mem_map.mpr ⟨q, hq, rfl⟩))
  rw [← rows_one tup (m x hx) hq (Value.ref.inj e)]
  exact hx
theorem sorted_setTI {Q : Value → Shared → Prop} (R : SetTR P' w s.heap a L es ep t) (hh : A.handled = none) (hu : A.units + 2 < cLine)
    (hQ : ∀ s' b (out : Array Value) (c : Nat) (M : List (Addr × List Int)), (∀ x o, s.heap.get? x = some o → s'.heap.get? x = some o) → s'.gens = s.gens → s'.os = s.os → s.heap.objs.size ≤ b →
      s'.heap.get? b = some (seqObj "list" out c) → out.toList = M.map (fun p => Value.ref p.1) → M.Perm L → M.Pairwise (fun p q => HT.lexLt q.2 p.2 = false) → Q (.ref b) s') :
    wpAny (model P w) A (call (.builtin "sorted") [.ref a]) Q E s := by
  obtain ⟨ob, hob, hx, hdt⟩ := R.ob
  have few := R.few
  refine Calls.call_function_entry kind_sorted plain_sorted entry_sorted (args_sorted1 _) ?_
  unfold Builtin.«sorted»
  refine wpAny_bind (m := checkCount "sorted" 1 1 _) (wpAny_pure ?_)
  refine wpAny_bind (collect_set (A := A.in1) hh ⟨ob, hob, hx.1, hdt⟩ R.fits (by rw [R.size]; unfold scanBound; omega) R.tab.ris R.led fun s1 us k1 z1 g1 o1 pm => ?_)
  have er : es.toList.map (·.2) = L.map fun p => Value.ref p.1 := by
    rw [R.rows]
    unfold rowsOf
    rw [List.map_map] <;> rfl
  rw [er] at pm
  have ul : us.length = L.length := by rw [pm.length_eq, List.length_map]
  have uz : us.length ≤ sizeLine := by rw [sizeLine_eq]; omega
  refine wpAny_bind (wpAny_newList ?_ uz)
  obtain ⟨H1, eH⟩ : ∃ H1, H1 = s1.heap.push (seqObj "list" us.toArray 0) := ⟨_, rfl⟩
  rw [← eH]
  have hL : H1.get? s1.heap.objs.size = some (seqObj "list" us.toArray 0) := by rw [eH]; exact Heap.get?_push_size _ rfl
  have up : ∀ x o, s.heap.get? x = some o → H1.get? x = some o := fun x o e => by rw [eH]; exact Heap.get?_push_of_some _ (k1 x o e)
  have tup : ∀ p ∈ L, IsT P' w H1 p.2 p.1 := fun p hp => isT_keep (R.tup p hp) up
  have key : ∀ p ∈ L, TS.intsOf H1 (.ref p.1) = p.2 := fun p hp => (tupInts_of (tup p hp)).ints
  have ti : ∀ u ∈ us, IsTU H1 u (TS.intsOf H1 u) := fun u hu => by
    obtain ⟨p, hp, rfl⟩ := List.mem_map.mp (pm.mem_iff.mp hu)
    rw [key p hp]
    exact IsTU.of (tup p hp)
  have no : ∀ o, H1.get? s1.heap.objs.size = some o → o.cls ≠ .type "tuple" := fun o e c => by
    have z : some o = some (seqObj "list" us.toArray 0) := e.symm.trans hL
    cases z
    exact absurd (Value.type.inj c) (by decide)
  refine wpAny_bind (wpAny_holding (wpAny_call_entry (s := { s1 with heap := H1 }) slot_list_sort ⟨_, hL, rfl⟩ entry_list_sort (SrtO.list_sort_ord (NtL.swo_lexL fun u => TS.intsOf H1 u) hL uz (fun h2 => ?_) fun out hs hb => ⟨_, rfl, ?_⟩) (args_list_sort _)))
  · by_cases he : ∃ u ∈ us, TS.intsOf H1 u = []
    · exact sortableTU (s := { s1 with heap := H1 }) h2 hu ti he no
    · refine sortableTI (s := { s1 with heap := H1 }) (by omega) (fun u hu => ?_) no
      obtain ⟨a, o, its, n, x0, x1, x2, x3, x4⟩ := ti u hu
      exact ⟨a, o, its, n, x0, x1, x2, x3, x4, fun z => he ⟨u, hu, z⟩⟩
  obtain ⟨c, hc⟩ := sortedHeap_at (vs := us) (out := out.toArray) hL
  obtain ⟨M, eM, mM⟩ := rows_of (L := L) (us := out) fun u hu => by
    obtain ⟨p, hp, e⟩ := List.mem_map.mp (pm.mem_iff.mp (hb.perm.mem_iff.mp hu))
    exact ⟨p, hp, e.symm⟩
  have pM : M.Perm L := rows_perm tup R.nd mM (by rw [← eM]; exact hb.perm.trans pm)
  refine wpAny_pure ⟨_, rfl, hQ _ s1.heap.objs.size out.toArray c M (fun x o e => ?_) g1 o1 z1 hc (by rw [List.toList_toArray, eM]) pM ?_⟩
  · have lt := Heap.lt_size (k1 x o e)
    show (sortedHeap H1 s1.heap.objs.size us out.toArray).get? x = some o
    rw [sortedHeap_old (Nat.ne_of_lt lt) (by rw [eH, size_push']; exact Nat.lt_succ_of_lt lt)]
    exact up x o e
  · have hs : out.Pairwise fun u v => HT.lexLt (TS.intsOf H1 v) (TS.intsOf H1 u) = false := hs
    rw [eM] at hs
    refine (List.pairwise_map.mp hs).imp_of_mem fun {p q} hp hq h => ?_
    rw [key p (mM p hp), key q (mM q hq)] at h
    exact h
end
def rSortedSTI (w : World) : List V → Hp → VK → Prop := fun vs H Q => ∃ (P : Program) (a : Addr) (L : List (Addr × List Int)), vs = [V.ref a] ∧ H a = some (SetTO P w a L) ∧ (∀ p ∈ L, H p.1 = some (.tup (p.2.map V.int))) ∧
  ∀ (M : List (Addr × List Int)) (b : Addr), M.Perm L → (M.map (·.2)).Nodup → M.length < 64 → M.Pairwise (fun p q => HT.lexLt q.2 p.2 = false) → H b = none → Q (.ref b) (upd H b (.lst (M.map fun p => V.ref p.1)))
theorem cr_sortedSTI {X : Cx} (hc : X.calm = true) (hu : X.A.units + 2 < cLine) : CallR X (.builtin "sorted") (rSortedSTI X.w) := by
  intro pins s σ H vs us Q I r h
  obtain ⟨P, a, L, rfl, ha, hk, q⟩ := h
  have R0 : SetT0 P X.w s.heap a L := (I.hok a _ ha).1
  obtain ⟨es, ep, t, R⟩ := R0.full fun p hp => by
    obtain ⟨_, its, r2, o, ho, hc, n, hd⟩ := I.hok _ _ (hk p hp)
    exact ⟨o, _, n, ho, hc, hd, by simpa using items_of_vals r2⟩
  rw [Vals.ref1 r]
  refine sorted_setTI R (I.ok.hd hc) hu fun s' b out c M k g o hb hg hout pm pw => ?_
  have few : M.length < 64 := by rw [pm.length_eq]; exact R.few
  have hz : (M.map fun p => V.ref p.1).length ≤ sizeLine := by rw [List.length_map, sizeLine_eq]; omega
  have fresh : H b = none := I.hok.fresh hb
  have hv : Vals (M.map fun p => V.ref p.1) out.toList := by rw [hout]; exact vals_of_refs M
  obtain ⟨sh, sg, sd, st, so⟩ := s'
  obtain rfl : sg = s.gens := g
  obtain rfl : so = s.os := o
  exact ⟨.ref b, upd H b (.lst (M.map fun p => V.ref p.1)), I.call (ch := []) (Un.laid k hb fresh) (I.hok.laid k hb ⟨hz, out.toList, c, hv, hg⟩) I.bare (fun _ z => nomatch z), rfl, q M b pm ((pm.map (·.2)).nodup_iff.mpr R.nd) few pw fresh⟩
end Pyx

namespace Pyx
open PySem PySem.Spec PyProof.Rows L2
section
variable {prog : Program} {w : World} {A : Around} {E : Value → Shared → Prop} {s : Shared}
theorem samePairs0 {nm : String} {a b : Addr} {ea eb : Array DictEntry} {epa epb : Nat} {Q : Bool → Shared → Prop} (ha : (a == sysModules) = false) (hb : (b == sysModules) = false)
    (da : s.heap.DictRaw a ea epa) (db : s.heap.DictRaw b eb epb) (h0 : eb.size = 0) (h : Q (decide (ea.size = 0)) s) :
    wpAny (model prog w) A (Builtin.Dict.samePairs nm a b) Q E s := by
  obtain ⟨oa, hoa, _, hda⟩ := da
  obtain ⟨ob, hob, _, hdb⟩ := db
  unfold Builtin.Dict.samePairs Builtin.Dict.showsAll
  rw [if_neg (show ¬ (a == sysModules) = true by rw [ha]; exact Bool.false_ne_true), if_neg (show ¬ (b == sysModules) = true by rw [hb]; exact Bool.false_ne_true)]
  refine wpAny_bind (wpAny_pure (wpAny_bind (wpAny_pure ?_)))
  refine wpAny_bind (wpAny_dictEntries hoa hda ?_)
  dsimp only
  refine wpAny_bind (wpAny_dictEntries hob hdb ?_)
  by_cases hsz : ea.size = eb.size
  case neg =>
    rw [if_pos (by simpa using hsz)]
    rw [decide_eq_false (by omega)] at h
    exact wpAny_bind (wpAny_rule (wpAny_pure h))
  case pos =>
    have e0 : ea.size = 0 := by omega
    rw [decide_eq_true e0] at h
    rw [if_neg (by rw [hsz]; simp)]
    refine wpAny_bind (wpAny_dictEpoch hoa hda ?_)
    refine wpAny_bind ?_
    rw [Std.Legacy.Range.forIn_eq_forIn_range']
    simp only [Std.Legacy.Range.size, Nat.sub_zero, Nat.add_sub_cancel, Nat.div_one]
    refine wpAny_forIn_list _ (fun rest q s' => s' = s ∧ q = (none, ()) ∧ rest = []) _ ?_ ?_ _ _ ⟨rfl, rfl, by rw [e0]; rfl⟩
    · rintro x rest q s' ⟨rfl, rfl, hr⟩
      exact nomatch hr
    · rintro q s' ⟨rfl, rfl, _⟩
      exact wpAny_pure h
theorem eq_empD {a b : Addr} {ea eb : Array DictEntry} {epa epb : Nat} {Q : Value → Shared → Prop} (ha : (a == sysModules) = false) (hb : (b == sysModules) = false)
    (da : s.heap.DictRaw a ea epa) (db : s.heap.DictRaw b eb epb) (h0 : eb.size = 0) (hu : A.units < cLine) (h : Q (.bool (decide (ea.size = 0))) s) :
    wpAny (model prog w) A (compareOp .Eq (.ref a) (.ref b)) Q E s := by
  refine wpAny_richCompare_same_room (op := .Eq) da.typeIs db.typeIs PySem.F.slot_dict_eq (wpAny_call_entry PySem.F.slot_dict_eq da.typeIs PySem.F.entry_dict_eq ?_ (PySem.F.args_dict_eq_2 _ _)) hu
  show wpAny _ _ (Builtin.Dict.dictSlotArgs "__eq__" ⟨[.ref a, .ref b], []⟩ >>= _) _ _ s
  refine wpAny_bind ?_
  unfold Builtin.Dict.dictSlotArgs
  refine wpAny_bind (wpAny_notOrdered_dict da.typeIs ?_)
  show wpAny _ _ (pure (Value.ref a, Value.ref b)) _ _ s
  refine wpAny_pure ?_
  refine wpAny_bind (wpAny_isInstance (T := "dict") db.typeIs PySem.F.sub_dict_dict ?_)
  simp only [Bool.not_true, Bool.false_eq_true, if_false]
  refine wpAny_bind (wpAny_pure (wpAny_bind (wpAny_pure ?_)))
  refine wpAny_bind (samePairs0 ha hb da db h0 ?_)
  refine wpAny_pure ⟨_, rfl, ?_, ?_⟩
  · exact fun x => nomatch x
  · simpa using h
theorem disp1H {K : Type} [DecidableEq K] {knd : HeapKind prog w K} {env : Env} {k v : Expr} {pos : Pos} {Q : Value → Shared → Prop} (hu : knd.room A)
    (h : wpAny (model prog w) A (eval k env) (fun kv s₁ => wpAny (model prog w) A (eval v env) (fun vv s₂ => ∃ (q : K) (a : Addr), kv = .ref a ∧ knd.is s₂.heap q a ∧ s₂.heap.DictOfH knd s.heap.objs.size [] ∧
      ∀ h', h'.DictOfH knd s.heap.objs.size [(q, a, vv)] → Heap.SameBut s.heap.objs.size s₂.heap h' → ∀ tk, Q (.ref s.heap.objs.size) { s₂ with heap := h', toks := tk }) E s₁) E
      { s with heap := s.heap.push { cls := .type "dict", data := .dict #[] } }) :
    wpAny (model prog w) A (eval (.Dict [some k] [v] pos) env) Q E s := by
  have hsh : (evalEachOpt [some k] env).zip ((evalEach [v] env).map fun v => do let x ← v; standAt pos; pure x) = [(eval k env, (do let x ← eval v env; standAt pos; pure x))].map fun p => (some p.1, p.2) := rfl
  rw [arm_eval_Dict, hsh, dictDisplay_pairs _ (by simp) (by simp)]
  refine wpAny_bind (wpAny_standAt (wpAny_bind ?_))
  unfold subDict
  refine wpAny_bind (wpAny_alloc ?_)
  refine wpAny_bind (wpAny_holding ?_)
  rw [if_pos (by simp)]
  refine wpAny_bind (evalPairs_cons (wpAny_mono h (fun kv s₁ h₁ => wpAny_bind (wpAny_mono h₁ (fun vv s₂ h₂ => wpAny_bind (wpAny_standAt (wpAny_pure (evalPairs_nil ?_)))) fun _ _ e => e)) fun _ _ e => e))
  obtain ⟨q, a, rfl, hk, hm, hq⟩ := h₂
  refine wpAny_holding ?_
  refine wpAny_bind ?_
  rw [List.forIn_cons]
  refine wpAny_bind (wpAny_bind (wpAny_dictSet_heap (hsz := by rw [sizeLine_eq]; exact Nat.zero_le _) hu hk hm fun h₁ hm₁ hs₁ => wpAny_pure ?_))
  show wpAny _ _ (forIn [] _ _) _ _ _
  rw [List.forIn_nil]
  exact wpAny_pure (wpAny_pure (wpAny_pure (wpAny_pure (hq h₁ hm₁ hs₁ _))))
end
section
variable {X : Cx} {tg e k v : Expr} {td tk tv : TE} {apos cpos pos : Pos}
def iKeysMT (td : TE) : TI := fun σ H R => td σ H fun x H1 => ∃ d o kvs, x = .ref d ∧ H1 d = some (.frz o (.dT kvs)) ∧ R (Itkt d o kvs) H1
theorem pi_keysMT (he : PE X e td) (hbase : attributeBase e "keys" X.env (eval e X.env) = eval e X.env := by rfl) (hline : (apos.endLine == cpos.line) = true := by rfl) : PI X tg (.Call (.Attribute e "keys" apos) [] [] cpos) (iKeysMT td) := by
  refine ⟨fun pins s σ H R I h => ?_⟩
  refine wpAny_Call_method (T := "dict") (id := "dict.keys") hbase rfl hline F.plainAttrs_dict F.slot_dict_keys F.type_dict_keys (thn (he.run pins s σ H _ I h) fun u s1 ⟨x, H1, I1, rx, d, o, kvs, ex, hd, q⟩ => ?_)
  subst ex
  obtain rfl : u = Value.ref d := rx
  obtain ⟨hs, hgd, hx, es, ep, hdt, hsz, ent⟩ := I1.frzT hd
  have hm : s1.heap.DictRaw d es ep := ⟨o, hgd, hx, hdt⟩
  refine ⟨hm.typeIs, fun b eb => by cases eb; exact ⟨o, hgd, hx.2.1⟩, ?_⟩
  have I2 : Inv X pins σ H1 { s1 with heap := s1.heap.push { cls := .type "dict_keys", data := .fields #[.ref d] } } := I1.kept (t' := s1.toks) fun b ob q => Heap.get?_push_of_some _ q
  have fin : wpAny (model X.prog X.w) X.A (pyIter (.ref s1.heap.objs.size)) (PIE X pins σ tg R) X.xe { s1 with heap := s1.heap.push { cls := .type "dict_keys", data := .fields #[.ref d] } } := by
    refine wpAny_pyIter_keys_raw (d := d) ⟨_, Heap.get?_push_size _ rfl, rfl, rfl⟩ (hm.push _) (pi_one (tk := s1.toks) I2 _ (turn_keysT _ hdt) ⟨_, Heap.get?_push_size _ rfl, rfl, ?_⟩ q)
    rw [hsz] <;> rfl
  show wpAny _ _ (callWith cpos (.builtin "dict.keys") [.ref d] [] []) _ X.xe s1
  exact method_meetsIn F.slot_dict_keys F.entry_dict_keys rfl (PySem.evalArgs_none ⟨rfl, hm.typeIs, F.args_dict_keys_1 _, _, meets_dict_keys_raw d hs, ⟨_, _, hm⟩, fin⟩)
theorem pi_keysD (he : PE X e td) : PI X tg e (iKeysMT td) := by
  refine ⟨fun pins s σ H R I h => ?_⟩
  refine thn (he.run pins s σ H _ I h) fun u s1 ⟨x, H1, I1, rx, d, o, kvs, ex, hd, q⟩ => ?_
  subst ex
  obtain rfl : u = Value.ref d := rx
  obtain ⟨hs, hgd, hx, es, ep, hdt, hsz, ent⟩ := I1.frzT hd
  refine iter_keys hs hgd hx hdt (pi_one (tk := s1.toks) I1 _ (turn_keysT _ hdt) ⟨_, Heap.get?_push_size _ rfl, rfl, ?_⟩ q)
  rw [hsz] <;> rfl
theorem pi_keysDK (he : PE X e td) : PI X tg e (iKeysM td) := by
  refine ⟨fun pins s σ H R I h => ?_⟩
  refine thn (he.run pins s σ H _ I h) fun u s1 ⟨x, H1, I1, rx, d, o, kvs, ex, hd, q⟩ => ?_
  subst ex
  obtain rfl : u = Value.ref d := rx
  obtain ⟨hs, hgd, hx, es, ep, vs, hdt, hsz, kv, hm⟩ := I1.frzK hd
  refine iter_keys hs hgd hx hdt (pi_one (tk := s1.toks) I1 _ (turn_keys _ hdt) ⟨_, Heap.get?_push_size _ rfl, rfl, ?_⟩ q)
  rw [hsz] <;> rfl
def tDispT (tk tv : TE) : TE := fun σ H Q => ∀ p, H p = none → tk σ (upd H p (.dT [])) fun x H1 => tv σ H1 fun y H2 => H2 p = some (.dT []) ∧ ∃ (ks : List L2.Key) (b : Addr), x = .ref b ∧ H2 b = some (.tup (ks.map kV)) ∧ Q (.ref p) (upd H2 p (.dT [(ks, y)]))
theorem pe_dispT (hu : X.A.units + 1 < cLine) (hk : PE X k tk) (hv : PE X v tv) : PE X (.Dict [some k] [v] pos) (tDispT tk tv) := by
  refine ⟨fun pins s σ H Q I h => ?_⟩
  have hn := I.hok.fresh (Nat.le_refl s.heap.objs.size)
  have I1 := I.laid (a := s.heap.objs.size) (o := .dT []) (h' := s.heap.push { cls := .type "dict", data := .dict #[] }) (t' := s.toks) (fun _ _ q => Heap.get?_push_of_some _ q) (Nat.le_refl _) (dt_empty s.heap I.big)
  refine disp1H (knd := tupleKind (mixKind X.prog X.w)) (show X.A.units < cLine by omega) (thn (hk.run pins _ σ _ _ I1 (h _ hn)) fun kv s1 ⟨x, H1, I2, rx, q1⟩ => thn (hv.run pins s1 σ H1 _ I2 q1) fun vv s2 ⟨y, H2, I3, ry, e, ks, b, ex, eb, q2⟩ => ?_)
  subst ex
  cases rx
  obtain ⟨z, hd, xs, rel, dd⟩ := dt_of I3.hok e
  cases rel
  refine ⟨ks, b, rfl, key_of I3.hok eb, dd, fun h' dd' hs tk => ⟨.ref s.heap.objs.size, _, ?_, rfl, q2⟩⟩
  obtain ⟨q, es, ep, hq, h2, h3, h4, _, h5⟩ := dd'
  refine d_write I3 (by rw [e]; exact True.intro) hs ⟨q, hq⟩ ⟨by rw [sizeLine_eq]; exact Nat.le_of_ble_eq_true rfl, hd, _, Paired.cons ⟨rfl, ?_, ry⟩ .nil, q, es, ep, hq, h2, h3, h4, h5⟩
  rw [upd_ne (ne_of eb e (fun z => nomatch z))]
  exact eb
def rEqEmp : R2 := fun x y H Q => ∃ a b kvs, x = .ref a ∧ y = .ref b ∧ Rd H a (.dT kvs) ∧ H b = some (.dT []) ∧ Q (.bl kvs.isEmpty) H
theorem op_eq_emp (hu : X.A.units < cLine) : OpR X (compareOp .Eq) rEqEmp := by
  intro pins s σ H x y v u Q I rx ry h
  obtain ⟨a, b, kvs, rfl, rfl, ea, eb, q⟩ := h
  obtain rfl : v = Value.ref a := rx
  obtain rfl : u = Value.ref b := ry
  obtain ⟨_, ya, xa, ra, oa, esa, epa, ha1, ha2, ha3, ha4, _⟩ := dt_rd I.hok ea
  obtain ⟨_, yb, xb, rb, ob, esb, epb, hb1, hb2, hb3, hb4, _⟩ := dt_of I.hok eb
  have la : esa.size = kvs.length := by
    have l1 : esa.size = xa.length := size_of_entries ha4
    have l2 : kvs.length = xa.length := Paired.length ra
    omega
  cases rb
  have lb : esb.size = 0 := size_of_entries hb4
  refine eq_empD ya yb ⟨oa, ha1, ha2, ha3⟩ ⟨ob, hb1, hb2, hb3⟩ lb hu (fin_bl I q ?_)
  rw [la]
  cases kvs <;> rfl
def keysO (p d : Addr) : HO := .ext fun h => PySem.W.KdlKeysView h p d
theorem keysO_ok {P : Program} {w : World} {H : Hp} {h : Heap} {p d : Addr} (e : h.get? p = some { cls := .type "dict_keys", data := .fields #[.ref d] }) : ObjOk P w H h p (keysO p d) :=
  ⟨⟨_, e, rfl, rfl⟩, ⟨_, e⟩, fun h1 h2 x k => let ⟨o, ho, r⟩ := x; ⟨o, k o ho, r⟩⟩
def rSortKT : List V → Hp → VK → Prop := fun vs H Q => ∃ (p a : Addr) (kvs : List (List L2.Key × V)) (k : V → List Int), vs = [V.ref p] ∧ H p = some (keysO p a) ∧ Rd H a (.dT kvs) ∧ (∀ (q : Addr) x, x ∈ kvs → H q = some (.tup (x.1.map kV)) → x.1.map kV = (k (.ref q)).map V.int ∧ k (.ref q) ≠ []) ∧
  ∀ bs ys p, IsKeys H kvs bs → ys.Pairwise (fun x y => HT.lexLt (k y) (k x) = false) → ys.Perm (bs.map V.ref) → H p = none → Q (.ref p) (upd H p (.lst ys))
theorem isKeys_mem {H : Hp} {kvs : List (List L2.Key × V)} {bs : List Addr} (r : IsKeys H kvs bs) : ∀ b ∈ bs, ∃ x ∈ kvs, H b = some (.tup (x.1.map kV)) := by
  unfold IsKeys at r
  induction r with
  | nil => intro b hb; cases hb
  | cons h t ih =>
    intro b hb
    rcases List.mem_cons.mp hb with e | hb
    · subst e
      exact ⟨_, List.mem_cons_self, h⟩
    · obtain ⟨x, hx, e⟩ := ih b hb
      exact ⟨x, List.mem_cons_of_mem _ hx, e⟩
theorem cr_sortKT (hcalm : X.calm = true) : CallR X (.builtin "sorted") rSortKT := by
  intro pins s σ H vs us Q I r h
  obtain ⟨p, a, kvs, k, rfl, hp, hd, hk, q⟩ := h
  obtain ⟨u, rfl, ru⟩ := vals1 r
  obtain rfl : u = Value.ref p := ru
  obtain ⟨z, lo, ks, pr, o, es, ep, ho, hx, hdt, he, hn⟩ := (show ObjOk X.prog X.w H s.heap a (.dT kvs) from hd.ok I.hok)
  have hv : PySem.W.KdlKeysView s.heap p a := (I.hok p _ hp).1
  have l1 : es.size = ks.length := size_of_entries he
  have l2 : kvs.length = ks.length := Paired.length pr
  have hr : s.heap.DictRaw a es ep := ⟨o, ho, hx, hdt⟩
  refine Calls.call_function_entry kind_sorted plain_sorted entry_sorted (args_sorted1 _) ?_
  unfold Builtin.«sorted»
  refine wpAny_bind (m := checkCount "sorted" 1 1 _) (wpAny_pure ?_)
  refine wpAny_bind (PySem.W.kdu_collect (A := X.A.in1) (KdlSrc.rawKeys (r := p) (d := a) (es := es) (ep := ep)) (I.ok.hd hcalm) ⟨hv, hr⟩ (by omega) fun h' tk acc kp hacc => ?_)
  have hl : acc.toList.length = ks.length := by rw [Array.length_toList, hacc.1]; exact l1
  have ea : acc.toList = (ks.map fun x => x.2.1).map Value.ref := by
    apply List.ext_getElem?
    intro j
    rw [List.getElem?_map, List.getElem?_map]
    cases hj : acc.toList[j]? with
    | none =>
      have h1 := List.getElem?_eq_none_iff.mp hj
      rw [List.getElem?_eq_none (by omega)]
      rfl
    | some v =>
      obtain ⟨hi, hv⟩ := hacc.2 j v (by rw [← Array.getElem?_toList]; exact hj)
      have qe := entry_at he j
      rw [Array.getElem?_eq_getElem hi] at qe
      cases hb : ks[j]? with
      | none =>
        rw [hb] at qe
        exact nomatch (show some es[j] = none from qe)
      | some b =>
        rw [hb] at qe
        have e2 : es[j] = entryOfKey (tupleKind (mixKind X.prog X.w)) b := Option.some.inj qe
        rw [hv, e2]
        rfl
  have I1 : Inv X pins σ H { s with heap := h', toks := tk } := I.kept kp
  refine wpAny_bind (wpAny_newList ?_ (by omega))
  have hoL : (h'.push (seqObj "list" acc.toList.toArray 0)).get? h'.objs.size = some (seqObj "list" acc.toList.toArray 0) := Heap.get?_push_size _ rfl
  have ik : IsKeys H kvs (ks.map fun x => x.2.1) := isKeys_of pr
  have I2 : Inv X pins σ H { s with heap := h'.push (seqObj "list" acc.toList.toArray 0), toks := tk } := I1.kept fun b ob e => Heap.get?_push_of_some _ e
  have e2 : ∀ v ∈ acc.toList, ∃ t, v = Value.ref t := fun v hv => by
    rw [ea] at hv
    obtain ⟨t, _, rfl⟩ := List.mem_map.mp hv
    exact ⟨t, rfl⟩
  have hti : ∀ v ∈ acc.toList, IsTI (h'.push (seqObj "list" acc.toList.toArray 0)) v (k (backV v)) := fun v hv => by
    rw [ea] at hv
    obtain ⟨t, ht, rfl⟩ := List.mem_map.mp hv
    obtain ⟨x, hx, e⟩ := isKeys_mem ik t ht
    obtain ⟨g1, g2⟩ := hk t x hx e
    rw [g1] at e
    obtain ⟨_, its2, r2, o2, ho2, hc2, n2, hd2⟩ := I2.hok _ _ e
    exact ⟨t, o2, _, n2, rfl, ho2, hc2, hd2, r2.ints, g2⟩
  show wpAny _ _ _ _ _ { s with heap := h'.push (seqObj "list" acc.toList.toArray 0), toks := tk }
  refine wpAny_bind (wpAny_holding (wpAny_call_entry slot_list_sort ⟨_, hoL, rfl⟩ entry_list_sort
    (SrtO.list_sort_ord (NtL.swo_lexL fun u => k (backV u)) (s := { s with heap := h'.push (seqObj "list" acc.toList.toArray 0), toks := tk }) hoL (by omega) (fun h2 => sortableTI (s := { s with heap := h'.push (seqObj "list" acc.toList.toArray 0), toks := tk }) (by omega) hti fun o e => ?_) fun out hs hb => ⟨_, rfl, ?_⟩)
    (args_list_sort _)))
  · have e' : some o = some (seqObj "list" acc.toList.toArray 0) := e.symm.trans hoL
    cases e'
    intro c
    exact absurd (Value.type.inj c) (by decide)
  · obtain ⟨e', he'⟩ := PyProof.Rows.sortedHeap_at (vs := acc.toList) (out := out.toArray) hoL
    have hperm : out.Perm acc.toList := hb.perm
    have h3 : ∀ u ∈ out, ∃ a, u = Value.ref a := fun u hu => e2 u (hperm.mem_iff.mp hu)
    have hbk : (out.map backV).Perm ((ks.map fun x => x.2.1).map V.ref) := by
      have z := hperm.map backV
      rw [ea, List.map_map] at z
      exact z
    refine wpAny_pure ⟨_, rfl, .ref h'.objs.size, upd H h'.objs.size (.lst (out.map backV)), I1.laid (t' := tk) (fun b u e => ?_) (Nat.le_refl _) ⟨?_, out, e', vals_back h3, he'⟩, rfl, q _ _ _ ik (List.pairwise_map.mpr hs) hbk (I1.hok.fresh (Nat.le_refl _))⟩
    · have hb : b < h'.objs.size := Heap.lt_size e
      rw [PyProof.Rows.sortedHeap_old (Nat.ne_of_lt hb) (by rw [size_push']; exact Nat.lt_succ_of_lt hb)]
      exact Heap.get?_push_of_some _ e
    · rw [hbk.length_eq, List.length_map, List.length_map]
      omega
end
end Pyx

namespace Pyx
open PySem PySem.Spec PyProof.Rows L2
abbrev setN (w : World) : Obj := { cls := .type "set", dict := none, data := .set #[] 0 (.fresh 0 0 (!w.params.followText "set-order")) }
section
variable {P : Program} {w : World} {A : Around} {E : Value → Shared → Prop} {s : Shared}
theorem call_set_lstI {l : Addr} {items : Array Value} (ns : List Int) {Q : Value → Shared → Prop} (hh : A.handled = none) (hl : s.heap.IsList l items) (hit : IntsAre items.toList ns) (hb : ns.length + 1 < scanBound)
    (h : ∀ (h' : Heap) (tk n : Nat), SetR w h' s.heap.objs.size (fun j => decide (j ∈ ns)) n → n ≤ ns.length → (∀ b o, s.heap.get? b = some o → h'.get? b = some o) → Q (.ref s.heap.objs.size) { s with heap := h', toks := tk }) : wpAny (model P w) A (call (.type "set") [.ref l]) Q E s := by
  have z0 : items.size = ns.length := by
    have q := IntsAre.length hit
    rw [← q, Array.length_toList]
  have m0 := F.called_set.mro
  obtain ⟨c0, r0, m1⟩ := m0
  have m2 := F.called_set.made
  have m3 := F.called_set.sub
  have m4 := F.called_set.notType
  have m5 := F.called_set.canCreate
  have m6 := F.typeCall_set_1 (.ref l)
  have nS : (s.heap.push (setN w)).get? s.heap.objs.size = some (setN w) := Heap.get?_push_size _ rfl
  have nT : Shared.TypeIs { s with heap := s.heap.push (setN w) } (.ref s.heap.objs.size) "set" := ⟨_, nS, rfl⟩
  have zI : (s.heap.push (setN w)).objs.size = s.heap.objs.size + 1 := Heap.size_push ..
  -- what stands behind __init__
  let R2 : Value → Shared → Prop := fun r t => r = .none ∧ ∃ (h' : Heap) (tk n : Nat), t = { s with heap := h', toks := tk } ∧ SetR w h' s.heap.objs.size (fun j => decide (j ∈ ns)) n ∧ n ≤ ns.length ∧ ∀ b o, s.heap.get? b = some o → h'.get? b = some o
  have body : ∀ A2 : Around, A2.handled = none → codeAny (model P w) A2 (.call (.builtin "set.__init__") ⟨[.ref s.heap.objs.size, .ref l], []⟩) (wants R2 E) { s with heap := s.heap.push (setN w) } := fun A2 hh2 => by
    refine codeAny_call_builtin F.called_set.init.plain F.entry_set_init (check_set_init_1 nT ?_)
    obtain ⟨⟨xc, xd, xa, xs⟩, g1, g2, gn, g3⟩ := hl
    simp only at g2 g3; subst g2; subst g3
    have f1 := F.sub_list_set
    have f2 := F.sub_list_frozenset
    have f3 : (Value.type "list" == Value.type "dict") = false := by decide
    have g4 : (s.heap.push (setN w)).get? l = some { cls := .type "list", dict := xd, data := .seq items gn, slots := xs } := Heap.get?_push_of_some _ g1
    have g5 : (s.heap.push (setN w)).IsList l items := ⟨_, g4, rfl, gn, rfl⟩
    unfold Builtin.«set.__init__» noKeywords Builtin.Frozenset.updateFrom; generalize hp : pyIter = PI; wp_walk; subst hp
    refine wpAny_pyIter_list g5 (wpAny_bind (wpAny_runValue ?_))
    have k1 : l < s.heap.objs.size := Heap.lt_size g1
    have k2 : l ≠ (s.heap.push (setN w)).objs.size := by rw [zI]; exact Nat.ne_of_lt (Nat.lt_succ_of_lt k1)
    have k3 : s.heap.objs.size ∉ [(s.heap.push (setN w)).objs.size, l] := by
      rw [zI]; intro q
      rcases List.mem_cons.mp q with q | q
      · exact absurd q (Nat.ne_of_lt (Nat.lt_succ_self _))
      · exact absurd (List.mem_singleton.mp q) (Nat.ne_of_gt k1)
    have k4 : ∀ (i : Nat) (v : Value), items[i]? = some v → ∃ k t, ns[i]? = some k ∧ v = .int k t := fun i v hv => by
      have hi : i < ns.length := z0 ▸ (Array.getElem?_eq_some_iff.mp hv).1
      obtain ⟨t, e⟩ := PyProof.Rows.IntsAre.int_at hit i v (Array.getElem?_toList ▸ hv)
      rw [List.getD_eq_getElem?_getD, List.getElem?_eq_getElem hi] at e
      exact ⟨ns[i], t, List.getElem?_eq_getElem hi, e⟩
    have k5 : A2.in1.handled = none := by simp [hh2]
    refine set_update_ints ((Walks.list (by first | exact k5 | simp [hh2]) _ l k2 items).toS) s.heap.objs.size k3 ns z0 hb k4 (items.size - 0) 0 _ (by omega) (Nat.zero_le _) ⟨⟨_, Heap.get?_push_size _ rfl, rfl, rfl⟩, g5.push _⟩ ⟨0, Nat.le_refl 0, setR_new_at (Heap.get?_push_of_some _ nS)⟩ ?_
    rintro ⟨h', gg, dd, tk, oo⟩ n1 mv le1 st
    have e1 : gg = s.gens := mv.gens
    have e2 : dd = s.drawn := mv.drawn
    have e3 : oo = s.os := mv.os
    subst e1 e2 e3
    show wpAny _ _ _ _ _ _
    refine wpAny_pure (show wpAny _ _ (ret Value.none) _ _ _ from wpAny_pure ⟨rfl, h', tk, n1, rfl, st, z0 ▸ le1, fun b o q => ?_⟩)
    have b1 : b < s.heap.objs.size := Heap.lt_size q
    refine mv.heap b o (fun hm => ?_) (Heap.get?_push_of_some _ (Heap.get?_push_of_some _ q))
    rcases List.mem_cons.mp hm with z | z
    · exact absurd z (Nat.ne_of_lt b1)
    · have z := List.mem_singleton.mp z
      rw [zI] at z
      exact absurd z (Nat.ne_of_lt (Nat.lt_succ_of_lt b1))
  have i1 := F.called_set.init.lookup
  have i2 := F.called_set.init.bind (.ref s.heap.objs.size)
  refine wpAny_call (codeAny_of_tree (show wpAny _ _ (callAny (.type "set") _) _ _ _ from ?_))
  refine wpAny_pure ⟨Code.quiet_builtin _ (by decide +kernel), codeAny_builtin F.entry_type_call ?_⟩; rw [Around.under_plain (weight_type_call_type "set" [.ref l] []) rfl]
  repeat (any_goals (first | assumption | wp_step))
  refine codeAny_mono (code_set_led1 (.ref l) (E := E) (Q₁ := fun u t => u = .ref s.heap.objs.size ∧ t = { s with heap := s.heap.push (setN w) }) ⟨rfl, rfl⟩) fun r t hr => ?_
  rcases r with e | fl
  · exact hr
  · cases fl with
    | ret u =>
      obtain ⟨rfl, rfl⟩ := hr
      repeat (any_goals (first | assumption | wp_step))
      refine codeAny_mono (body _ (by simp [hh])) fun r' t' hr' => ?_
      rcases r' with e | fl'
      · exact hr'
      · cases fl' with
        | ret u' =>
          obtain ⟨rfl, h', tk, n1, rfl, q1, q2, q3⟩ := hr'
          repeat (any_goals (first | assumption | wp_step))
          exact h _ _ _ q1 q2 q3
        | _ => exact hr'.elim
    | _ => exact hr.elim
end
end Pyx

namespace PySem
open PyProof.Rows
section
variable {prog : Program} {w : World} {A : Around} {E : Value → Shared → Prop} {s : Shared} {l : Addr} {its : List Value} {ns : List Int} {xs : Array (Int × Tok)}
theorem iter_intTup {Q : Value → Shared → Prop} (hl : s.heap.IsTuple l (intItems xs))
    (h : ∀ s₂ : Shared, s₂ = { s with heap := s.heap.push { cls := .type "tuple_iterator", data := .fields #[.ref l, .int 0 0] } } →
      (s₂.heap.IsTupleIter s.heap.objs.size l 0 ∧ s₂.heap.IsTuple l (intItems xs)) → (∀ b ∈ [s.heap.objs.size, l], b < s₂.heap.objs.size) → l ≠ s.heap.objs.size → Q (.ref s.heap.objs.size) s₂) :
    wpAny (model prog w) A (pyIter (.ref l)) Q E s := by
  have hlt : l < s.heap.objs.size := by obtain ⟨_, e, _⟩ := hl; exact Heap.lt_size e
  refine wpAny_pyIter_tuple hl (h _ rfl ⟨⟨_, Heap.get?_push_size _ rfl, rfl, rfl⟩, hl.push _⟩ (fun b hb => ?_) (Nat.ne_of_lt hlt))
  show b < (s.heap.push _).objs.size
  rw [Heap.size_push]
  rcases List.mem_cons.mp hb with rfl | hb
  · exact Nat.lt_succ_self _
  · rcases List.mem_cons.mp hb with rfl | hb
    · exact Nat.lt_succ_of_lt hlt
    · cases hb
theorem old_keptT {h' : Heap} (hk : ∀ b o, b ∉ [s.heap.objs.size] → (s.heap.push { cls := .type "tuple_iterator", data := .fields #[.ref l, .int 0 0] }).get? b = some o → h'.get? b = some o) :
    ∀ b o, s.heap.get? b = some o → h'.get? b = some o := fun b o e => by
  refine hk b o (fun hm => ?_) (Heap.get?_push_of_some _ e)
  rcases List.mem_cons.mp hm with e1 | hm
  · exact absurd (Heap.lt_size e) (by rw [e1]; exact Nat.lt_irrefl _)
  · cases hm
theorem sum_tup {Q : Value → Shared → Prop} (hh : A.handled = none) (hl : s.heap.IsTuple l its.toArray) (hi : IntsAre its ns)
    (h : ∀ h' tk t', (∀ b o, s.heap.get? b = some o → h'.get? b = some o) → Q (.int ns.sum t') { s with heap := h', toks := tk }) : wpAny (model prog w) A (call (.builtin "sum") [.ref l]) Q E s := by
  obtain ⟨xs, e⟩ := hi.allInts.items
  have hn : numsOf (intItems xs).toList = ns := by rw [← e]; exact hi.numsOf
  rw [nums_intItems] at hn
  rw [e] at hl
  refine call_sum_walkG (iter_intTup hl fun s₂ e st hfp hlI => ?_)
  subst e
  refine ⟨_, _, _, _, _, _, numAt xs, rfl, Walks.tuple (A := A.in1) hh _ l hlI (intItems xs), st, hfp, (fun _ _ => intItems_at), fun h' tk t' hk => ?_⟩
  have := h h' tk t' (old_keptT hk)
  rw [show (intItems xs).size = xs.size by simp [intItems], preSum_eq, List.take_of_length_le (by simp), hn]
  exact this
theorem collect_tup {vs : List Value} {Q : List Value → Shared → Prop} (hl : s.heap.IsTuple l vs.toArray)
    (h : Q vs { s with heap := (s.heap.push (seqObj "list" #[] 0)).update s.heap.objs.size (Obj.mapSeq (· ++ vs.toArray)) }) (hsz : vs.length ≤ sizeLine) :
    wpAny (model prog w) A (collect (.ref l)) Q E s := by
  obtain ⟨o, ho, hc, n, hd⟩ := id hl
  unfold collect
  refine wpAny_bind (wpAny_runValue (codeAny_builtin entry_proto_collect' ?_))
  show wpAny _ _ (do again (.builtin "list.__iadd__" ⟨[← newList [], .ref l], []⟩)) _ _ s
  refine wpAny_bind (wpAny_newList (wpAny_pure ⟨Code.quiet_builtin _ (by decide +kernel), codeAny_builtin entry_list_iadd' ?_⟩))
  show wpAny _ _ (Builtin.List.listExtendWith (.ref s.heap.objs.size) (.ref l) (.ref s.heap.objs.size)) _ _ { s with heap := s.heap.push (seqObj "list" #[] 0) }
  unfold Builtin.List.listExtendWith
  have ho' : (s.heap.push (seqObj "list" #[] 0)).get? l = some o := Heap.get?_push_of_some _ ho
  refine wpAny_bind (wpAny_typeOf (T := "tuple") ⟨o, ho', hc⟩ ?_)
  have ht : (Value.type "tuple" == Value.type "tuple") = true := by rfl
  rw [if_pos (by rw [ht, Bool.or_true])]
  refine wpAny_bind (listItems_at ho' hd ?_)
  refine wpAny_bind (listItems_at (xs := #[]) (n := 0) (Heap.get?_push_size _ rfl) rfl ?_)
  rw [if_neg (by simp)]
  refine wpAny_bind (listUpdate_at (xs := #[]) (n := 0) (Heap.get?_push_size _ rfl) rfl ?_ (Nat.zero_le _) (by show (#[] ++ vs.toArray).size ≤ sizeLine + 1; simp only [Array.size_append, List.size_toArray, List.length_nil]; omega))
  refine wpAny_pure ?_
  show wpAny (model prog w) A (do
      let o ← load s.heap.objs.size
      match o.data with
      | .seq xs _ => pure xs.toList
      | _ => unsupported "internal:collect") Q E { s with heap := (s.heap.push (seqObj "list" #[] 0)).update s.heap.objs.size (Obj.mapSeq (· ++ vs.toArray)) }
  refine wpAny_bind (wpAny_load (get?_update_seq (Heap.get?_push_size _ rfl) _) ?_)
  show wpAny _ _ (pure ((#[] : Array Value) ++ vs.toArray).toList) Q E _
  rw [show ((#[] : Array Value) ++ vs.toArray).toList = vs by simp]
  exact wpAny_pure h
end
end PySem
namespace SrtO
open PySem PySem.Spec PyProof.Rows
section
variable {prog : Program} {w : World} {A : Around} {E : Value → Shared → Prop} {s : Shared}
theorem sorted_ordT {l : Addr} {vs : List Value} {ltv : Value → Value → Bool} {Q : Value → Shared → Prop} (O : Swo ltv) (hl : s.heap.IsTuple l vs.toArray) (hz : vs.length ≤ sizeLine)
    (hS : 2 ≤ vs.length → ∀ (h₁ : Heap) (a : Addr), h₁.get? a = some (seqObj "list" vs.toArray 0) → (∀ b o, s.heap.get? b = some o → b ≠ a ∧ h₁.get? b = some o) → SortableO prog w A.in1.in1 { s with heap := h₁ } a vs ltv)
    (h : ∀ out : List Value, Srtd ltv out → Stb ltv out vs → Q (.ref (s.heap.objs.size + 1)) { s with heap := sortedAll s.heap vs out.toArray }) :
    wpAny (model prog w) A (call (.builtin "sorted") [.ref l]) Q E s := by
  refine Calls.call_function_entry kind_sorted plain_sorted entry_sorted (args_sorted1 _) ?_
  unfold Builtin.«sorted»
  refine wpAny_bind (m := checkCount "sorted" 1 1 _) (wpAny_pure ?_)
  refine wpAny_bind (collect_tup hl ?_ hz)
  refine wpAny_bind (wpAny_newList ?_ hz)
  have hsz : ((s.heap.push (seqObj "list" #[] 0)).update s.heap.objs.size (Obj.mapSeq (· ++ vs.toArray))).objs.size = s.heap.objs.size + 1 := by
    rw [Heap.size_update, size_push']
  have hoL : (((s.heap.push (seqObj "list" #[] 0)).update s.heap.objs.size (Obj.mapSeq (· ++ vs.toArray))).push (seqObj "list" vs.toArray 0)).get? (s.heap.objs.size + 1) = some (seqObj "list" vs.toArray 0) := by
    rw [← hsz]; exact Heap.get?_push_size _ rfl
  have keep : ∀ b o, s.heap.get? b = some o → b ≠ s.heap.objs.size + 1 ∧ (((s.heap.push (seqObj "list" #[] 0)).update s.heap.objs.size (Obj.mapSeq (· ++ vs.toArray))).push (seqObj "list" vs.toArray 0)).get? b = some o := fun b o q => by
    have hlt : b < s.heap.objs.size := Heap.lt_size q
    refine ⟨Nat.ne_of_lt (Nat.lt_succ_of_lt hlt), Heap.get?_push_of_some _ ?_⟩
    rw [Heap.get?_update_ne _ _ _ _ (Nat.ne_of_lt hlt)]
    exact Heap.get?_push_of_some _ q
  show wpAny _ _ _ _ _ { s with heap := ((s.heap.push (seqObj "list" #[] 0)).update s.heap.objs.size (Obj.mapSeq (· ++ vs.toArray))).push (seqObj "list" vs.toArray 0) }
  rw [hsz]
  refine wpAny_bind (wpAny_holding (wpAny_call_entry slot_list_sort ⟨_, hoL, rfl⟩ entry_list_sort (list_sort_ord O hoL hz (fun h2 => hS h2 _ _ hoL keep) fun out hs hb => ⟨_, rfl, ?_⟩) (args_list_sort _)))
  exact wpAny_pure ⟨_, rfl, h out hs hb⟩
end
end SrtO
namespace Pyx
open PySem PySem.Spec PyProof.Rows L2
def rSumT (K : PySem.W.Frag) : List V → Hp → VK → Prop := fun vs H Q => ∃ (a : Addr) (ns : List Int), vs = [V.ref a] ∧ SqT K H a (ns.map V.int) ∧ Q (.int ns.sum) H
def rSortedIT (K : PySem.W.Frag) : List V → Hp → VK → Prop := fun vs H Q => ∃ (a : Addr) (ns : List Int), vs = [V.ref a] ∧ SqT K H a (ns.map V.int) ∧
  ∀ (ns' : List Int) (p : Addr), ns'.Perm ns → ns'.Pairwise (· ≤ ·) → H p = none → Q (.ref p) (upd H p (.lst (ns'.map V.int)))
section
variable {X : Cx}
theorem cr_sumT (hc : X.calm = true) : CallR X (.builtin "sum") (rSumT X.K) := by
  intro pins s σ H vs us Q I r h
  obtain ⟨a, ns, rfl, hs, q⟩ := h
  obtain ⟨its, rv, hl, _⟩ := I.tuple hs
  rw [Vals.ref1 r]
  exact sum_tup (I.ok.hd hc) hl rv.ints fun h' tk t' hk => ⟨.int _, H, I.kept hk, ⟨_, rfl⟩, q⟩
theorem cr_sortedIT : CallR X (.builtin "sorted") (rSortedIT X.K) := by
  intro pins s σ H vs us Q I r h
  obtain ⟨a, ns, rfl, hs, q⟩ := h
  obtain ⟨its, rv, hl, hz⟩ := I.tuple hs
  rw [Vals.ref1 r]
  have hi := rv.ints
  refine SrtO.sorted_ordT SrtO.swo_int hl (by rw [← rv.length]; exact hz) (fun h2 h₁ a' _ _ => SrtO.ints_sortable hi h2) fun out h1 h2 => ?_
  obtain ⟨k1, k2, k3⟩ := SrtO.ints_out hi h1 h2
  obtain ⟨ep, he'⟩ := PyProof.Rows.sortedAll_at s.heap its out.toArray
  have hlen : ((out.map SrtO.iv).map V.int).length ≤ sizeLine := by
    rw [List.length_map, k2.length_eq]
    rw [List.length_map] at hz
    exact hz
  exact ⟨.ref _, upd H (s.heap.objs.size + 1) (.lst ((out.map SrtO.iv).map V.int)), I.laid (t' := s.toks) (fun _ _ => PyProof.Rows.sortedAll_old) (Nat.le_succ _) ⟨hlen, out, ep, vals_of_ints k1, he'⟩, rfl, q _ _ k2 k3 (I.hok.fresh (Nat.le_succ _))⟩
end
end Pyx

namespace Pyx
open PySem PySem.Spec PyProof.Rows L2
section
variable {prog : Program} {w : World} {A : Around} {E : Value → Shared → Prop} {s : Shared}
theorem min_args {a b : Value} {Q : Value → Shared → Prop}
    (h : wpAny (model prog w) A.in1 (pyIter (.ref s.heap.objs.size)) (fun it t => ∃ I fp wr G n P St H bt, it = .ref I ∧ WalksS prog w A.in1 I fp wr G n P St ∧ St 0 t ∧ (∀ x ∈ fp, x < t.heap.objs.size) ∧ 0 < n ∧
      (∀ x o, H.get? x = some o → x ∉ wr) ∧ (∀ x o, H.get? x = some o → t.heap.get? x = some o) ∧ CmpIn prog w A.in1 .Lt H P bt ∧ ∀ v t', P (argBest bt (n - 1)) v → Moved wr G t t' → Q v t') E
      { s with heap := s.heap.push { cls := .type "tuple", data := .seq #[a, b] } }) :
    wpAny (model prog w) A (call (.builtin "min") [a, b]) Q E s := by
  have hn : (toString "min" ++ toString ".loop" : String) = "min.loop" := by decide
  refine call_function_tree F.kind_min F.plain_min F.entry_min (F.args_min2 a b) ?_
  show wpAny _ A.in1 (Builtin.Builtins.bindParams "min" ["key", "default"] 0 ⟨[], []⟩ >>= _) _ _ s
  refine wpAny_bind (wpAny_of_eq (show Builtin.Builtins.bindParams "min" ["key", "default"] 0 ⟨[], []⟩ = pure [none, none] from rfl) ?_)
  show wpAny _ A.in1 (newTuple [a, b] >>= _) _ _ s
  refine wpAny_bind (wpAny_newObj_type ?_)
  refine wpAny_bind (wpAny_mono h (fun it t ht => ?_) fun _ _ e => e)
  obtain ⟨I, fp, wr, G, n, P, St, H, bt, rfl, W, st, hfp, hp, hw, hk, hcmp, hQ⟩ := ht
  refine wpAny_bind (wpAny_newObj_type ?_)
  have hS : t.heap.objs.size ∉ fp := fun m => Nat.lt_irrefl _ (hfp _ m)
  rw [hn]
  refine wpAny_pure ⟨plainId_quiet F.plain_min_loop _, codeAny_min_loop_firstH W H hw bt hcmp t.heap.objs.size hS (fresh_in hk) _ hp (fun x o e => Heap.get?_push_of_some _ (hk x o e)) (W.frame 0 t _ t.toks st (Nat.le_refl _) fun x _ o e => Heap.get?_push_of_some _ e) (Heap.get?_push_size _ rfl) fun v t' hP hm => ?_⟩
  exact hQ v t' hP (Moved.drop_new (tk := t.toks) hm (Nat.le_refl _))
theorem min_two {a b : Value} {x y : PyData} {as : List Addr} {Q : Value → Shared → Prop} (hh : A.handled = none) (hr : ReadsAll s.heap [a, b] [x, y] as) (ha : PySem.W.AlikeAll [x, y]) (hu : A.units + 1 + PyData.depthAll [x, y] < cLine)
    (h : ∀ h' tk, (∀ c o, s.heap.get? c = some o → h'.get? c = some o) → Q (if PySem.W.dataLt y x then b else a) { s with heap := h', toks := tk }) :
    wpAny (model prog w) A (call (.builtin "min") [a, b]) Q E s := by
  have hT : (s.heap.push { cls := .type "tuple", data := .seq #[a, b] }).IsTuple s.heap.objs.size #[a, b] := ⟨_, Heap.get?_push_size _ rfl, rfl, 0, rfl⟩
  refine min_args (PySem.W.iter_tupleW (A := A.in1) hh hT fun t e W st hfp hw hk => ?_)
  refine ⟨_, _, _, _, _, _, _, s.heap, _, rfl, W, st, hfp, Nat.succ_pos 1, fun c o e => hw c o (Heap.get?_push_of_some _ e), fun c o e => hk c o (Heap.get?_push_of_some _ e), PySem.W.cmpIn_lt (A := A.in1) (vs := #[a, b]) hr ha (by show A.units + 1 + _ < _; exact hu), fun v t' hP m => ?_⟩
  obtain ⟨h', tk, rfl, hk'⟩ := PySem.W.moved_old e rfl m
  have hv : v = if PySem.W.dataLt y x then b else a := by
    have hP : (#[a, b] : Array Value)[if PySem.W.dataLt y x = true then 1 else 0]? = some v := hP
    cases e : PySem.W.dataLt y x with
    | true =>
      rw [e] at hP
      exact (Option.some.inj hP).symm
    | false =>
      rw [e] at hP
      exact (Option.some.inj hP).symm
  rw [hv]
  exact h h' tk fun c o e => hk' c o (Heap.get?_push_of_some _ e)
end
section
variable {X : Cx}
theorem call_min_tups (hc : X.calm = true) (hu : X.A.units + 65 < cLine) : CallR X (.builtin "min") (fun vs H Q => ∃ v w d e, vs = [v, w] ∧ Dp X.K H v d ∧ Dp X.K H w e ∧ SeqAt.shaped d = true ∧ SeqAt.shaped e = true ∧ d ≠ .none ∧ e ≠ .none ∧
    ((PySem.W.alike d d && PySem.W.alike d e) && (PySem.W.alike e d && PySem.W.alike e e)) = true ∧ Q (if PySem.W.dataLt e d then w else v) H) := by
  intro pins s σ H vs us Q I rvs ⟨v, w, d, e, ev, hd, he, sd, se, nd, ne, ha, q⟩
  subst ev
  obtain ⟨u1, u2, rfl, r1, r2⟩ := vals2 rvs
  obtain ⟨as, ra⟩ := Dp.readsAll I [d, e] [v, w] [u1, u2] (.cons hd (.cons he .nil)) (.cons r1 (.cons r2 .nil))
  simp only [Bool.and_eq_true] at ha
  have al : PySem.W.AlikeAll [d, e] := ⟨fun x hx y hy => by
    simp only [List.mem_cons, List.mem_nil_iff, or_false] at hx hy
    rcases hx with rfl | rfl <;> rcases hy with rfl | rfl
    · exact ha.1.1
    · exact ha.1.2
    · exact ha.2.1
    · exact ha.2.2, fun x hx => by
    simp only [List.mem_cons, List.mem_nil_iff, or_false] at hx
    rcases hx with rfl | rfl
    · exact nd
    · exact ne⟩
  have dp : PyData.depthAll [d, e] ≤ 64 := by
    have h1 := SeqAt.depth_of_shaped sd
    have h2 := SeqAt.depth_of_shaped se
    show max d.depth (max e.depth 0) ≤ 64
    omega
  refine min_two (I.ok.hd hc) ra al (by omega) fun h' tk k => ?_
  refine ⟨_, H, I.kept k, ?_, q⟩
  cases PySem.W.dataLt e d with
  | true => exact r2
  | false => exact r1
end
section
variable {prog : Program} {w : World} {A : Around} {E : Value → Shared → Prop} {s : Shared}
open PySem.W in
theorem min_list_at {l : Addr} {vs : Array Value} {x : PyData} {xs : List PyData} {as : List Addr} {Q : Value → Shared → Prop} (hh : A.handled = none) (hl : s.heap.IsList l vs) (hr : ReadsAll s.heap vs.toList (x :: xs) as) (ha : PySem.W.AlikeAll (x :: xs)) (hu : A.units + 1 + PyData.depthAll (x :: xs) < cLine)
    (h : ∀ v h' tk, vs[argBest (fun i j => PySem.W.dataLt ((x :: xs).getD i .none) ((x :: xs).getD j .none)) xs.length]? = some v → (∀ b o, s.heap.get? b = some o → h'.get? b = some o) → Q v { s with heap := h', toks := tk }) :
    wpAny (model prog w) A (call (.builtin "min") [.ref l]) Q E s := by
  have hn : vs.size = xs.length + 1 := PySem.W.readsAll_len hr
  refine call_min_walkH (PySem.W.iter_listW (A := A.in1) hh hl fun s₂ e W st hfp hw hk => ?_)
  refine ⟨_, _, _, _, _, _, _, s.heap, _, rfl, W, st, hfp, by omega, hw, hk, PySem.W.cmpIn_lt (A := A.in1) hr ha (by show A.units + 1 + _ < _; exact hu), fun v s' hP m => ?_⟩
  obtain ⟨h', tk, rfl, hk'⟩ := PySem.W.moved_old e rfl m
  have e1 : vs.size - 1 = xs.length := by omega
  rw [e1] at hP
  exact h v h' tk hP hk'
end
section
variable {X : Cx}
def bestN (ds : List PyData) : Nat := argBest (fun i j => PySem.W.dataLt (ds.getD i .none) (ds.getD j .none)) (ds.length - 1)
theorem call_min_list (hc : X.calm = true) (hu : X.A.units + 65 < cLine) : CallR X (.builtin "min") (fun vs H Q => ∃ (a : Addr) (us : List V) (d : PyData) (ds : List PyData) (v : V), vs = [V.ref a] ∧ SqL X.K H a us ∧ DpAll X.K H us (d :: ds) ∧ PyData.depthAll (d :: ds) ≤ 64 ∧ PySem.W.AlikeAll (d :: ds) ∧
    us[bestN (d :: ds)]? = some v ∧ Q v H) := by
  intro pins s σ H vs us Q I rvs ⟨a, ws, d, ds, v, ev, hs, hd, dp, al, hv, q⟩
  subst ev
  obtain ⟨its, rv, hl, _⟩ := I.list hs
  rw [Vals.ref1 rvs]
  obtain ⟨as, ra⟩ := Dp.readsAll I (d :: ds) ws its hd rv
  refine min_list_at (A := X.A) (vs := its.toArray) (x := d) (xs := ds) (as := as) (I.ok.hd hc) hl.isList ra al (by omega) fun u h' tk hu' k => ?_
  have hb : its[bestN (d :: ds)]? = some u := by
    rw [List.getElem?_toArray] at hu'
    exact hu'
  refine ⟨v, H, I.kept k, ?_, q⟩
  obtain ⟨u', e', r'⟩ := Vals.get rv hv
  rw [hb] at e'
  cases e'
  exact r'
end
end Pyx

namespace Pyx
open PySem PySem.Spec PyProof.Rows L2
theorem ints_reads {h : Heap} : ∀ {us : List Value} {ns : List Int}, IntsAre us ns → ∃ as, ReadsAll h us (ns.map PyData.int) as
  | _, _, .nil => ⟨[], .nil⟩
  | _, _, .cons n t r => by
    obtain ⟨as, q⟩ := ints_reads (h := h) r
    exact ⟨[] ++ as, .cons (.int n t) q⟩
theorem foldl_max : ∀ (is : List Int) (i : Int), is.foldl max i = maxI i is
  | [], _ => rfl
  | x :: is, i => by
    rw [List.foldl_cons, foldl_max is]
    show maxI (max i x) is = maxI (match decide (i ≤ x) with | true => x | false => i) is
    congr 1
    by_cases h : i ≤ x
    · rw [decide_eq_true h]
      show max i x = x
      omega
    · rw [decide_eq_false h]
      show max i x = i
      omega
section
variable {X : Cx}
def rMaxT (K : PySem.W.Frag) : List V → Hp → VK → Prop := fun vs H Q => ∃ (a : Addr) (i : Int) (is : List Int), vs = [V.ref a] ∧ SqT K H a ((i :: is).map V.int) ∧ Q (.int (maxI i is)) H
theorem cr_maxT (hc : X.calm = true) (hu : X.A.units + 65 < cLine) : CallR X (.builtin "max") (rMaxT X.K) := by
  intro pins s σ H vs us Q I r h
  obtain ⟨a, i, is, rfl, hs, q⟩ := h
  obtain ⟨its, rv, hl, _⟩ := I.tuple hs
  rw [Vals.ref1 r]
  obtain ⟨as, ra⟩ := ints_reads (h := s.heap) rv.ints
  have dp : ∀ l : List Int, PyData.depthAll (l.map PyData.int) = 0 := PySem.W.depth_ints
  refine PySem.W.max_tuple_data (A := X.A) (vs := its.toArray) (x := .int i) (xs := is.map PyData.int) (as := as) (I.ok.hd hc) hl ra ⟨fun x hx y hy => ?_, fun x hx => ?_⟩ ?_ fun j v h' tk bs hv hr k => ?_
  · have hx : x ∈ (i :: is).map PyData.int := hx
    have hy : y ∈ (i :: is).map PyData.int := hy
    obtain ⟨n, _, rfl⟩ := List.mem_map.mp hx
    obtain ⟨m, _, rfl⟩ := List.mem_map.mp hy
    rfl
  · have hx : x ∈ (i :: is).map PyData.int := hx
    obtain ⟨n, _, rfl⟩ := List.mem_map.mp hx
    intro z
    cases z
  · have e : PyData.depthAll (PyData.int i :: is.map PyData.int) = 0 := dp (i :: is)
    rw [e]
    omega
  · rw [PySem.W.maxD_ints, foldl_max] at hr
    cases hr with
    | int n t => exact ⟨.int _, H, I.kept k, ⟨_, rfl⟩, q⟩
end
end Pyx

namespace Pyx
open PySem PySem.Spec PyProof.Rows L2
theorem sumI_eq : ∀ is : List Int, sumI is = is.sum
  | [] => rfl
  | i :: is => by
    rw [List.sum_cons, ← sumI_eq is]
    rfl
theorem maxI_is : ∀ (is : List Int) (m : Int), maxI m is ∈ m :: is ∧ ∀ y ∈ m :: is, y ≤ maxI m is
  | [], m => ⟨List.mem_cons_self, fun y hy => by
      rcases List.mem_cons.mp hy with e | e
      · rw [e]; exact Int.le_refl _
      · cases e⟩
  | x :: is, m => by
    unfold maxI
    split
    · rename_i e
      have e := of_decide_eq_true e
      obtain ⟨h1, h2⟩ := maxI_is is x
      refine ⟨List.mem_cons_of_mem _ h1, fun y hy => ?_⟩
      rcases List.mem_cons.mp hy with e2 | e2
      · rw [e2]; exact Int.le_trans e (h2 x List.mem_cons_self)
      · exact h2 y e2
    · rename_i e
      have e := of_decide_eq_false e
      obtain ⟨h1, h2⟩ := maxI_is is m
      refine ⟨?_, fun y hy => ?_⟩
      · rcases List.mem_cons.mp h1 with e2 | e2
        · rw [e2]; exact List.mem_cons_self
        · exact List.mem_cons_of_mem _ (List.mem_cons_of_mem _ e2)
      · rcases List.mem_cons.mp hy with e2 | e2
        · rw [e2]; exact h2 m List.mem_cons_self
        · rcases List.mem_cons.mp e2 with e3 | e3
          · rw [e3]; exact Int.le_trans (by omega) (h2 m List.mem_cons_self)
          · exact h2 y (List.mem_cons_of_mem _ e3)
theorem minI_is : ∀ (is : List Int) (m : Int), minI m is ∈ m :: is ∧ ∀ y ∈ m :: is, minI m is ≤ y
  | [], m => ⟨List.mem_cons_self, fun y hy => by
      rcases List.mem_cons.mp hy with e | e
      · rw [e]; exact Int.le_refl _
      · cases e⟩
  | x :: is, m => by
    unfold minI
    split
    · rename_i e
      have e := of_decide_eq_true e
      obtain ⟨h1, h2⟩ := minI_is is x
      refine ⟨List.mem_cons_of_mem _ h1, fun y hy => ?_⟩
      rcases List.mem_cons.mp hy with e2 | e2
      · rw [e2]; exact Int.le_trans (h2 x List.mem_cons_self) e
      · exact h2 y e2
    · rename_i e
      have e := of_decide_eq_false e
      obtain ⟨h1, h2⟩ := minI_is is m
      refine ⟨?_, fun y hy => ?_⟩
      · rcases List.mem_cons.mp h1 with e2 | e2
        · rw [e2]; exact List.mem_cons_self
        · exact List.mem_cons_of_mem _ (List.mem_cons_of_mem _ e2)
      · rcases List.mem_cons.mp hy with e2 | e2
        · rw [e2]; exact h2 m List.mem_cons_self
        · rcases List.mem_cons.mp e2 with e3 | e3
          · rw [e3]; exact Int.le_trans (h2 m List.mem_cons_self) (by omega)
          · exact h2 y (List.mem_cons_of_mem _ e3)
theorem insI_perm (x : Int) : ∀ l : List Int, (insI x l).Perm (x :: l)
  | [] => .refl _
  | y :: r => by
    unfold insI
    split
    · exact .refl _
    · exact ((insI_perm x r).cons y).trans (.swap x y r)
theorem insI_mem {x z : Int} {l : List Int} (h : z ∈ insI x l) : z = x ∨ z ∈ l := by
  have q := (insI_perm x l).mem_iff.mp h
  exact List.mem_cons.mp q
theorem insI_srt (x : Int) : ∀ l : List Int, l.Pairwise (· ≤ ·) → (insI x l).Pairwise (· ≤ ·)
  | [], _ => List.pairwise_cons.mpr ⟨fun _ h => (nomatch h), .nil⟩
  | y :: r, h => by
    obtain ⟨h1, h2⟩ := List.pairwise_cons.mp h
    unfold insI
    split
    · rename_i e
      have e := of_decide_eq_true e
      refine List.pairwise_cons.mpr ⟨fun z hz => ?_, h⟩
      rcases List.mem_cons.mp hz with e2 | e2
      · rw [e2]; exact e
      · exact Int.le_trans e (h1 z e2)
    · rename_i e
      have e := of_decide_eq_false e
      refine List.pairwise_cons.mpr ⟨fun z hz => ?_, insI_srt x r h2⟩
      rcases insI_mem hz with e2 | e2
      · rw [e2]; omega
      · exact h1 z e2
theorem sortI_perm : ∀ l : List Int, (sortI l).Perm l
  | [] => .refl _
  | x :: r => (insI_perm x (sortI r)).trans ((sortI_perm r).cons x)
theorem sortI_srt : ∀ l : List Int, (sortI l).Pairwise (· ≤ ·)
  | [] => .nil
  | x :: r => insI_srt x (sortI r) (sortI_srt r)
theorem insT_perm (x : List Int) : ∀ l : List (List Int), (insT x l).Perm (x :: l)
  | [] => .refl _
  | y :: r => by
    unfold insT
    split
    · exact ((insT_perm x r).cons y).trans (.swap x y r)
    · exact .refl _
theorem insT_srt (x : List Int) : ∀ l : List (List Int), l.Pairwise (fun a b => HT.lexLt b a = false) → (insT x l).Pairwise (fun a b => HT.lexLt b a = false)
  | [], _ => List.pairwise_cons.mpr ⟨fun _ h => (nomatch h), .nil⟩
  | y :: r, h => by
    obtain ⟨h1, h2⟩ := List.pairwise_cons.mp h
    unfold insT
    split
    · rename_i e
      refine List.pairwise_cons.mpr ⟨fun z hz => ?_, insT_srt x r h2⟩
      rcases List.mem_cons.mp ((insT_perm x r).mem_iff.mp hz) with e2 | e2
      · rw [e2]; exact NtL.lex_asym _ _ e
      · exact h1 z e2
    · rename_i e
      refine List.pairwise_cons.mpr ⟨fun z hz => ?_, h⟩
      rcases List.mem_cons.mp hz with e2 | e2
      · rw [e2]; exact e
      · exact NtL.lex_tr _ _ _ e (h1 z e2)
theorem sortT_perm : ∀ l : List (List Int), (sortT l).Perm l
  | [] => .refl _
  | x :: r => (insT_perm x (sortT r)).trans ((sortT_perm r).cons x)
theorem sortT_srt : ∀ l : List (List Int), (sortT l).Pairwise (fun a b => HT.lexLt b a = false)
  | [] => .nil
  | x :: r => insT_srt x (sortT r) (sortT_srt r)
theorem lex_eq : ∀ xs ys : List Int, HT.lexLt xs ys = false → HT.lexLt ys xs = false → xs = ys
  | [], [], _, _ => rfl
  | [], y :: ys, h, _ => by rw [HT.lexLt_nil_cons] at h; cases h
  | x :: xs, [], _, h => by rw [HT.lexLt_nil_cons] at h; cases h
  | x :: xs, y :: ys, h, h' => by
    rw [HT.lexLt_cons] at h h'
    by_cases e : x = y
    · subst e
      rw [if_pos rfl] at h h'
      rw [lex_eq xs ys h h']
    · rw [if_neg e] at h
      rw [if_neg (fun z => e z.symm)] at h'
      have h := of_decide_eq_false h
      have h' := of_decide_eq_false h'
      omega
theorem srtT_same : ∀ {l m : List (List Int)}, l.Perm m → l.Pairwise (fun a b => HT.lexLt b a = false) → m.Pairwise (fun a b => HT.lexLt b a = false) → l = m
  | [], m, h, _, _ => (List.Perm.eq_nil h.symm).symm
  | x :: l, [], h, _, _ => absurd h.length_eq (by simp)
  | x :: l, y :: m, h, hl, hm => by
    obtain ⟨a1, a2⟩ := List.pairwise_cons.mp hl
    obtain ⟨b1, b2⟩ := List.pairwise_cons.mp hm
    have e : x = y := by
      rcases List.mem_cons.mp (h.mem_iff.mp (List.mem_cons_self (a := x) (l := l))) with e | hx
      · exact e
      · rcases List.mem_cons.mp (h.mem_iff.mpr (List.mem_cons_self (a := y) (l := m))) with e | hy
        · exact e.symm
        · exact lex_eq x y (b1 x hx) (a1 y hy)
    subst e
    rw [srtT_same h.cons_inv a2 b2]
def intsV : List V → List Int
  | [] => []
  | .int i :: r => i :: intsV r
  | _ :: r => intsV r
theorem intsV_map : ∀ is : List Int, intsV (is.map V.int) = is
  | [] => rfl
  | i :: is => congrArg (i :: ·) (intsV_map is)
def kOf (H : Hp) : V → List Int
  | .ref t => match H t with
    | some (.tup us) => intsV us
    | _ => []
  | _ => []
theorem tupsP_vals {c : Rc} {f : Nat → Addr} {h : PH} {H : Hp} : ∀ {xs : List PV} {vs : List V} {ts : List (List Int)}, RVs c f h.n H xs vs → tupsP xs = some ts →
    (∀ v ∈ vs, ∃ t, v = V.ref t ∧ H t = some (.tup ((kOf H v).map V.int)) ∧ kOf H v ≠ []) ∧ vs.map (kOf H) = ts
  | [], [], ts, .nil, e => by
    cases e
    exact ⟨fun v hv => (nomatch hv), rfl⟩
  | .tup us :: xs, v :: vs, ts, .cons r t, e => by
    unfold tupsP at e
    split at e
    · rename_i i is q
      split at e
      · rename_i ts' q'
        cases e
        obtain ⟨h1, h2⟩ := tupsP_vals t q'
        cases r with
        | tup g1 g2 =>
          rename_i a ws
          obtain ⟨e1, _⟩ := intsP_vals g2 q
          rw [e1] at g1
          have ek : kOf H (.ref a) = i :: is := by
            unfold kOf
            simp only [g1]
            exact intsV_map (i :: is)
          refine ⟨fun v hv => ?_, by rw [List.map_cons, ek, h2]⟩
          rcases List.mem_cons.mp hv with e2 | hv
          · rw [e2, ek]
            exact ⟨a, rfl, g1, by intro z; cases z⟩
          · exact h1 v hv
      · cases e
    · cases e
  | .non :: _, _, _, _, e => by cases e
  | .bl _ :: _, _, _, _, e => by cases e
  | .int _ :: _, _, _, _, e => by cases e
  | .str _ :: _, _, _, _, e => by cases e
  | .ref _ :: _, _, _, _, e => by cases e
  | .fn _ :: _, _, _, _, e => by cases e
theorem rvs_intV {c : Rc} {f : Nat → Addr} {n : Nat} {H : Hp} : ∀ is : List Int, RVs c f n H (is.map PV.int) (is.map V.int)
  | [] => .nil
  | i :: is => .cons (.int i) (rvs_intV is)
theorem rvs_tups {c : Rc} {f : Nat → Addr} {n : Nat} {H : Hp} : ∀ {ys : List V}, (∀ v ∈ ys, ∃ t, v = V.ref t ∧ H t = some (.tup ((kOf H v).map V.int)) ∧ kOf H v ≠ []) → RVs c f n H ((ys.map (kOf H)).map tupI) ys
  | [], _ => .nil
  | v :: ys, h => by
    obtain ⟨t, e, h1, _⟩ := h v List.mem_cons_self
    refine .cons ?_ (rvs_tups fun u hu => h u (List.mem_cons_of_mem _ hu))
    unfold tupI
    generalize kOf H v = is at h1 ⊢
    subst e
    exact .tup h1 (rvs_intV is)
section
variable {c : Rc} {f : Nat → Addr} {h : PH} {H : Hp}
theorem dats_at (r : Rel c f h H) : ∀ {xs : List PV} {vs : List V} {ds : List PyData}, RVs c f h.n H xs vs → datsP h xs = some ds → DpAll c.K H vs ds ∧ PyData.depthAll ds ≤ 64 ∧ xs.length = ds.length
  | [], _, _, .nil, e => by
    cases e
    exact ⟨.nil, by rw [PyData.depthAll]; decide, rfl⟩
  | x :: xs, _, _, .cons r1 rn, e => by
    unfold datsP at e
    split at e
    · rename_i d e1
      split at e
      · rename_i ds e2
        cases e
        obtain ⟨a1, a2⟩ := toDat_at r r1 e1
        obtain ⟨b1, b2, b3⟩ := dats_at r rn e2
        refine ⟨.cons a1 b1, ?_, by rw [List.length_cons, List.length_cons, b3]⟩
        have := SeqAt.depth_of_shaped a2
        rw [PyData.depthAll]
        omega
      · cases e
    · cases e
theorem best_is {x : PV} {xs : List PV} {d : PyData} {ds : List PyData} (hl : (x :: xs).length = (d :: ds).length) : (x :: xs)[bestN (d :: ds)]? = some (minPD (x, d) (xs.zip ds)).1 ∧ True := by
  have hl' : xs.length = ds.length := by simpa using hl
  have zl : (xs.zip ds).length = ds.length := by rw [List.length_zip, hl', Nat.min_self]
  have e2 : ∀ i, (d :: ds).getD i .none = (((x, d) :: xs.zip ds).getD i (x, .none)).2 := fun i => by
    have m : (d :: ds) = ((x, d) :: xs.zip ds).map Prod.snd := by
      rw [List.map_cons, List.map_snd_zip (by omega)]
    rw [m, List.getD_eq_getElem?_getD, List.getD_eq_getElem?_getD, List.getElem?_map]
    cases ((x, d) :: xs.zip ds)[i]? <;> rfl
  have eb : bestN (d :: ds) = argBest (fun i j => (fun a b : PV × PyData => PySem.W.dataLt a.2 b.2) (((x, d) :: xs.zip ds).getD i (x, .none)) (((x, d) :: xs.zip ds).getD j (x, .none))) (xs.zip ds).length := by
    unfold bestN
    rw [zl, List.length_cons, Nat.add_sub_cancel]
    congr 1
    funext i j
    rw [e2 i, e2 j]
  obtain ⟨a1, a2⟩ := PySem.W.argBest_fold (fun a b : PV × PyData => PySem.W.dataLt a.2 b.2) (x, .none) (x, d) (xs.zip ds) (xs.zip ds).length (Nat.le_refl _)
  rw [List.take_length] at a2
  rw [← eb] at a1 a2
  refine ⟨?_, trivial⟩
  have m : (x :: xs) = ((x, d) :: xs.zip ds).map Prod.fst := by
    rw [List.map_cons, List.map_fst_zip (by omega)]
  have lt : bestN (d :: ds) < ((x, d) :: xs.zip ds).length := by rw [List.length_cons]; omega
  rw [m, List.getElem?_map, List.getElem?_eq_getElem lt]
  rw [List.getD_eq_getElem?_getD, List.getElem?_eq_getElem lt] at a2
  show some (((x, d) :: xs.zip ds)[bestN (d :: ds)]).1 = _
  have a3 : ((x, d) :: xs.zip ds)[bestN (d :: ds)] = minPD (x, d) (xs.zip ds) := a2
  rw [a3]
theorem RVs_at {f : Nat → Addr} {n : Nat} {H : Hp} : ∀ {xs : List PV} {vs : List V} {i : Nat} {x : PV}, RVs c f n H xs vs → xs[i]? = some x → ∃ v, vs[i]? = some v ∧ RV c f n H x v
  | [], _, i, x, _, e => by cases e
  | y :: xs, _, 0, x, .cons r1 rn, e => by cases e; exact ⟨_, rfl, r1⟩
  | y :: xs, _, i + 1, x, .cons r1 rn, e => by
    obtain ⟨v, a, b⟩ := RVs_at rn e
    exact ⟨v, a, b⟩
theorem tupsOfL_at {x : PV} {v : V} {ts : List (List Int)} (r : Rel c f h H) (rv : RV c f h.n H x v) (e : tupsOfL x h = some ts) : ∃ a vs, v = .ref a ∧ SqL c.K H a vs ∧
    (∀ v ∈ vs, ∃ t, v = V.ref t ∧ H t = some (.tup ((kOf H v).map V.int)) ∧ kOf H v ≠ []) ∧ vs.map (kOf H) = ts := by
  unfold tupsOfL at e
  split at e
  · rename_i xs q
    obtain ⟨a, vs, rfl, h1, h2⟩ := seqL_at r rv q
    obtain ⟨g1, g2⟩ := tupsP_vals h2 e
    exact ⟨a, vs, rfl, h1, g1, g2⟩
  · cases e
theorem intsOfL_at {x : PV} {v : V} {is : List Int} (r : Rel c f h H) (rv : RV c f h.n H x v) (e : intsOfL x h = some is) : ∃ a, v = .ref a ∧ SqL c.K H a (is.map V.int) := by
  unfold intsOfL at e
  split at e
  · rename_i xs q
    obtain ⟨a, vs, rfl, h1, h2⟩ := seqL_at r rv q
    obtain ⟨e1, _⟩ := intsP_vals h2 e
    rw [e1] at h1
    exact ⟨a, rfl, h1⟩
  · cases e
theorem intsOf_at {x : PV} {v : V} {is : List Int} (r : Rel c f h H) (rv : RV c f h.n H x v) (e : intsOf x h = some is) : ∃ a, v = .ref a ∧ (SqL c.K H a (is.map V.int) ∨ SqT c.K H a (is.map V.int)) := by
  unfold intsOf at e
  split at e
  · rename_i xs q
    obtain ⟨a, vs, rfl, h1, h2⟩ := seqOf_at r rv q
    obtain ⟨e1, _⟩ := intsP_vals h2 e
    rw [e1] at h1
    exact ⟨a, rfl, h1⟩
  · cases e
theorem setOf_at {x : PV} {v : V} {is : List Int} (r : Rel c f h H) (rv : RV c f h.n H x v) (e : setOf x h = some is) : ∃ a S m, v = .ref a ∧ H a = some (SetO c.w a S m) ∧ (∀ j, S j = true ↔ j ∈ is) ∧ m = is.length ∧ is.Nodup := by
  unfold setOf at e
  split at e
  · cases rv with
    | ref hi =>
      split at e
      · rename_i xs q
        cases e
        cases r.obj _ _ q with
        | set h1 h2 h3 h4 => exact ⟨_, _, _, rfl, h1, h2, h3, h4⟩
      · cases e
  · cases e
theorem setTOf_at {x : PV} {v : V} {ts : List (List Int)} (r : Rel c f h H) (rv : RV c f h.n H x v) (e : setTOf x h = some ts) : ∃ P a L, v = .ref a ∧ H a = some (SetTO P c.w a L) ∧ (∀ p ∈ L, H p.1 = some (.tup (p.2.map V.int))) ∧ (∀ k, k ∈ L.map (·.2) ↔ k ∈ ts) ∧ ts.Nodup := by
  unfold setTOf at e
  split at e
  · cases rv with
    | ref hi =>
      split at e
      · rename_i xs q
        cases e
        cases r.obj _ _ q with
        | setT h1 h2 h3 h4 => exact ⟨_, _, _, rfl, h1, h2, h3, h4⟩
      · cases e
  · cases e
theorem tup0P_vals : ∀ {xs : List PV} {vs : List V} {ts : List (List Int)}, RVs c f h.n H xs vs → tup0P xs = some ts →
    ∃ ks : List (Addr × List Int), vs = ks.map (fun p => V.ref p.1) ∧ (∀ p ∈ ks, H p.1 = some (.tup (p.2.map V.int))) ∧ ks.map (·.2) = ts
  | [], _, _, .nil, e => by
    cases e
    exact ⟨[], rfl, (fun p z => nomatch z), rfl⟩
  | .tup ys :: xs, _, ts, .cons (.tup h1 h2) rs, e => by
    unfold tup0P at e
    split at e
    · rename_i is e1
      split at e
      · rename_i us e2
        cases e
        obtain ⟨ks, k1, k2, k3⟩ := tup0P_vals rs e2
        obtain ⟨g1, _⟩ := intsP_vals h2 e1
        rw [g1] at h1
        refine ⟨(_, is) :: ks, by rw [k1]; rfl, fun p hp => ?_, by rw [← k3]; rfl⟩
        rcases List.mem_cons.mp hp with rfl | hp
        · exact h1
        · exact k2 p hp
      · cases e
    · cases e
theorem tup0L_at {x : PV} {v : V} {ts : List (List Int)} (r : Rel c f h H) (rv : RV c f h.n H x v) (e : tup0L x h = some ts) : ∃ (a : Addr) (ks : List (Addr × List Int)), v = .ref a ∧ SqL c.K H a (ks.map fun p => V.ref p.1) ∧
    (∀ p ∈ ks, H p.1 = some (.tup (p.2.map V.int))) ∧ ks.map (·.2) = ts := by
  unfold tup0L at e
  split at e
  · rename_i xs q
    obtain ⟨a, vs, rfl, h1, h2⟩ := seqL_at r rv q
    obtain ⟨ks, rfl, g1, g2⟩ := tup0P_vals h2 e
    exact ⟨a, ks, rfl, h1, g1, g2⟩
  · cases e
theorem dedT_mem {j : List Int} : ∀ {l : List (List Int)}, j ∈ dedT l ↔ j ∈ l
  | [] => Iff.rfl
  | x :: r => by
    unfold dedT
    split
    · rename_i q
      rw [dedT_mem, List.mem_cons]
      exact ⟨.inr, fun z => by
        rcases z with rfl | z
        · exact List.contains_iff_mem.mp q
        · exact z⟩
    · rw [List.mem_cons, List.mem_cons, dedT_mem]
theorem dedT_nodup : ∀ l : List (List Int), (dedT l).Nodup
  | [] => List.nodup_nil
  | x :: r => by
    unfold dedT
    split
    · exact dedT_nodup r
    · rename_i q
      refine List.nodup_cons.mpr ⟨fun z => ?_, dedT_nodup r⟩
      rw [List.contains_iff_mem.mpr (dedT_mem.mp z)] at q
      cases q
theorem rvs_rows {n : Nat} : ∀ {M : List (Addr × List Int)}, (∀ p ∈ M, H p.1 = some (.tup (p.2.map V.int))) → RVs c f n H ((M.map (·.2)).map tupI) (M.map fun p => V.ref p.1)
  | [], _ => .nil
  | p :: M, h => .cons (.tup (h p List.mem_cons_self) (rvs_ints _)) (rvs_rows fun q hq => h q (List.mem_cons_of_mem _ hq))
theorem dedI_mem {j : Int} : ∀ {l : List Int}, j ∈ dedI l ↔ j ∈ l
  | [] => Iff.rfl
  | x :: r => by
    unfold dedI
    split
    · rename_i e
      have e : x ∈ r := List.mem_of_elem_eq_true e
      rw [dedI_mem]
      refine ⟨fun q => List.mem_cons_of_mem _ q, fun q => ?_⟩
      rcases List.mem_cons.mp q with z | z
      · rw [z]; exact e
      · exact z
    · rw [List.mem_cons, List.mem_cons, dedI_mem]
theorem dedI_nodup : ∀ l : List Int, (dedI l).Nodup
  | [] => List.nodup_nil
  | x :: r => by
    unfold dedI
    split
    · exact dedI_nodup r
    · rename_i e
      refine List.nodup_cons.mpr ⟨fun q => ?_, dedI_nodup r⟩
      have q := List.elem_eq_true_of_mem (dedI_mem.mp q)
      have e : r.elem x = false := e
      rw [q] at e
      cases e
theorem setR_count {w : World} {hh : Heap} {a : Addr} {S : Int → Bool} {m : Nat} {xs : List Int} (R0 : SetR w hh a S m) (nd : xs.Nodup) (hm : ∀ j, S j = true ↔ j ∈ xs) : m = xs.length := by
  obtain ⟨o, es, ep, t, _, _, _, _, h1, h2, _, _, h3, _⟩ := R0
  have q := (List.perm_ext_iff_of_nodup h1 nd).mpr fun j => by rw [← h2, hm]
  have q2 := q.length_eq
  rw [List.length_map, Array.length_toList] at q2
  omega
def tyS : Ty → String
  | .int => "int"
  | .bool => "bool"
  | .str => "str"
  | .tuple => "tuple"
  | .list => "list"
def tyP (x : PV) (h : PH) : String := match x with
  | .non => "NoneType"
  | .bl _ => "bool"
  | .int _ => "int"
  | .str _ => "str"
  | .tup _ => "tuple"
  | .ref i => match h.get i with
    | some (.dK _) => "dict"
    | some (.dT _) => "dict"
    | _ => "list"
  | .fn _ => "list"
theorem isTy_at {x : PV} {v : V} {t : Ty} {k : Bool} (r : Rel c f h H) (rv : RV c f h.n H x v) (e : isTy x h t = some k) : TyX c.K H v (.type (tyP x h)) ∧ kitB (tyP x h) (tyS t) = some k := by
  unfold isTy at e
  split at e
  · cases rv; exact ⟨.base .non, by show kitB "NoneType" _ = _; cases e; cases t <;> decide +kernel⟩
  · cases rv; exact ⟨.base (.bl _), by show kitB "bool" _ = _; cases t <;> cases e <;> decide +kernel⟩
  · cases rv; exact ⟨.base (.int _), by show kitB "int" _ = _; cases t <;> cases e <;> decide +kernel⟩
  · cases rv; exact ⟨.base (.str _), by show kitB "str" _ = _; cases t <;> cases e <;> decide +kernel⟩
  · cases rv with
    | tup h1 h2 => exact ⟨.base (.tup h1), by show kitB "tuple" _ = _; cases t <;> cases e <;> decide +kernel⟩
  · rename_i i
    cases rv with
    | ref hi =>
      unfold tyP
      dsimp only
      split at e
      · rename_i xs q
        rw [q]
        cases r.obj _ _ q with
        | lst h1 h2 => exact ⟨.base (.lst h1), by show kitB "list" _ = _; cases t <;> cases e <;> decide +kernel⟩
      · rename_i xs q
        rw [q]
        cases r.obj _ _ q with
        | fz h1 h2 =>
          rcases h1 with ⟨o, h1⟩ | ⟨o, its, n, h1, h3, _⟩ | ⟨_, h1⟩
          · exact ⟨.base (.frz h1), by show kitB "list" _ = _; cases t <;> cases e <;> decide +kernel⟩
          · exact ⟨.kList h1 h3, by show kitB "list" _ = _; cases t <;> cases e <;> decide +kernel⟩
          · exact ⟨.base (.lst h1), by show kitB "list" _ = _; cases t <;> cases e <;> decide +kernel⟩
      · rename_i kvs q
        rw [q]
        cases r.obj _ _ q with
        | dK h1 _ _ => exact ⟨.base (.dK h1), by show kitB "dict" _ = _; cases e; cases t <;> decide +kernel⟩
      · rename_i kvs q
        rw [q]
        cases r.obj _ _ q with
        | dT h1 _ _ => exact ⟨.base (.dT h1), by show kitB "dict" _ = _; cases e; cases t <;> decide +kernel⟩
      · cases e
  · cases e
end
def biV : Bi → Value
  | .len => .builtin "len"
  | .min => .builtin "min"
  | .max => .builtin "max"
  | .sum => .builtin "sum"
  | .sorted => .builtin "sorted"
  | .abs => .builtin "abs"
  | .list => .type "list"
  | .tuple => .type "tuple"
  | .int => .type "int"
  | .set => .type "set"
  | .dict => .type "dict"
section
variable {X : Cx} {c : Rc}
theorem call_lenS : CallR X (.builtin "len") (fun xs H Q => ∃ a S m, xs = [V.ref a] ∧ H a = some (SetO X.w a S m) ∧ Q (.int (m : Nat)) H) := by
  intro pins t τ G ys us R J rr hh
  obtain ⟨a, S, m, rfl, ha, q⟩ := hh
  obtain ⟨u, rfl, ru⟩ := vals1 rr
  cases ru
  obtain ⟨⟨o, es, ep, tb, hO, hX, hdt, _, _, _, hsc, hft, hn, _⟩, _⟩ := J.hok a _ ha
  have hb : es.size < 2 ^ 62 := by
    have z := hsc
    unfold scanBound at z
    omega
  refine PySem.call_len_set hO hX hdt hft (by omega) ⟨.int (m : Nat), G, J.tok _, ⟨_, by rw [hn]⟩, q⟩
theorem noTw_nil : NoTw ([] : List (L2.Key × V)) := trivial
theorem prs_at {f : Nat → Addr} {n : Nat} {H : Hp} : ∀ {xs : List PV} {ps : List (Int × PV)} {vs : List V}, prsP xs = some ps → RVs c f n H xs vs → ∃ (pa : List Addr) (kws : List (L2.Key × V)), vs = pa.map V.ref ∧ Paired (fun p kv => SqT c.K H p [kV kv.1, kv.2]) pa kws ∧ RD kI c f n H ps kws
  | [], ps, vs, e, r => by
    cases e
    cases r
    exact ⟨[], [], rfl, .nil, .nil⟩
  | x :: xs, ps, vs, e, r => by
    unfold prsP at e
    split at e
    · rename_i hx
      cases hx
    · rename_i i v xs' hx
      cases hx
      split at e
      · rename_i ps' eq
        cases e
        cases r with
        | cons r1 r2 =>
          obtain ⟨pa, kws, rfl, pr, rd⟩ := prs_at eq r2
          cases r1 with
          | @tup a _ _ h1 h2 =>
            cases h2 with
            | cons a1 h2 =>
              cases h2 with
              | @cons _ w _ _ a2 h2 =>
                cases h2
                cases a1
                exact ⟨a :: pa, (kI i, w) :: kws, rfl, .cons (SqT.of h1) pr, .cons a2 rd⟩
      · cases e
    · cases e
theorem mrg_at {f : Nat → Addr} {n : Nat} {H : Hp} : ∀ {ps : List (Int × PV)} {kws : List (L2.Key × V)} {d : List (Int × PV)} {ws : List (L2.Key × V)}, RD kI c f n H ps kws → RD kI c f n H d ws → NoTw ws → RD kI c f n H (mrgP d ps) (mergeK ws kws) ∧ NoTw (mergeK ws kws)
  | _, _, d, ws, .nil, h, nt => ⟨h, nt⟩
  | _, _, d, ws, .cons (k := k) (x := x) (v := v) (r := r) (s := s) hv t, h, nt => by
    show RD kI c f n H (mrgP (putG k x d) r) (mergeK (putK ws (kI k) v) s) ∧ NoTw (mergeK (putK ws (kI k) v) s)
    exact mrg_at t (h.put kI_inj k hv nt) nt.put

theorem call_bi (hK : X.K = c.K) (hW : X.w = c.w) (hc : X.calm = true) (hu : X.A.units + 65 < cLine) (b : Bi) : CallR X (biV b) (rBi c b) := by
  intro pins s σ H vs us Q I rvs ⟨f, h, ps, r, rs, p⟩
  unfold biP at p
  split at p
  · -- len
    cases rs with
    | cons r1 rn =>
      cases rn
      split at p
      · rename_i xs e
        obtain ⟨a, ws, rfl, hs, rv⟩ := seqOf_at r r1 e
        rw [← hK] at hs
        refine call_len pins s σ H _ us Q I rvs ⟨_, ws.length, rfl, ?_, ?_⟩
        · rcases hs with hs | hs
          · exact .inl ⟨ws, hs, rfl⟩
          · exact .inr ⟨ws, hs, rfl⟩
        · rw [← rv.length]
          exact p _ _ .refl r _ (.int _)
      · split at p
        · rename_i n e
          unfold dLen at e
          split at e
          · cases r1 with
            | ref hi =>
              split at e
              · rename_i kvs g
                split at e
                · cases e
                  cases r.obj _ _ g with
                  | dK h1 h2 hn =>
                    refine call_lenD pins s σ H _ us Q I rvs ⟨_, _, rfl, h1, ?_⟩
                    rw [← h2.length]
                    exact p _ _ .refl r _ (.int _)
                · cases e
              · rename_i kvs g
                split at e
                · cases e
                  cases r.obj _ _ g with
                  | dT h1 h2 hn =>
                    refine call_len_dT pins s σ H _ us Q I rvs ⟨_, _, rfl, h1, ?_⟩
                    rw [← h2.length]
                    exact p _ _ .refl r _ (.int _)
                · cases e
              · cases e
          · cases e
        · split at p
          · rename_i is e
            obtain ⟨a, S, m, rfl, hs, _, em, _⟩ := setOf_at r r1 e
            rw [← hW] at hs
            refine call_lenS pins s σ H _ us Q I rvs ⟨_, _, _, rfl, hs, ?_⟩
            rw [em]
            exact p _ _ .refl r _ (.int _)
          · exact p.elim
  · -- abs
    cases rs with
    | cons r1 rn =>
      cases rn
      cases r1
      exact call_abs pins s σ H _ us Q I rvs ⟨_, rfl, p _ _ .refl r _ (.int _)⟩
  · cases rs with
    | cons r1 rn =>
      cases rn with
      | cons r2 rn =>
        cases rn
        cases r1; cases r2
        exact call_min2 hc pins s σ H _ us Q I rvs ⟨_, _, rfl, p _ _ .refl r _ (.int _)⟩
  · rename_i xs ys
    cases rs with
    | cons r1 rn =>
      cases rn with
      | cons r2 rn =>
        cases rn
        unfold minTP at p
        split at p
        · rename_i d e1
          split at p
          · rename_i e e2
            split at p
            · rename_i ha
              obtain ⟨a1, a2⟩ := toDat_at r r1 e1
              obtain ⟨b1, b2⟩ := toDat_at r r2 e2
              rw [← hK] at a1 b1
              have nd : d ≠ .none := fun z => by
                rw [z] at a1
                cases a1
                cases r1
              have ne : e ≠ .none := fun z => by
                rw [z] at b1
                cases b1
                cases r2
              refine call_min_tups hc hu pins s σ H _ us Q I rvs ⟨_, _, d, e, rfl, a1, b1, a2, b2, nd, ne, ha, ?_⟩
              split at p
              · rename_i hd
                rw [hd]
                exact p _ _ .refl r _ r2
              · rename_i hd
                rw [hd]
                exact p _ _ .refl r _ r1
            · exact p.elim
          · exact p.elim
        · exact p.elim
  · cases rs with
    | cons r1 rn =>
      cases rn with
      | cons r2 rn =>
        cases rn
        cases r1; cases r2
        exact call_max2 hc pins s σ H _ us Q I rvs ⟨_, _, rfl, p _ _ .refl r _ (.int _)⟩
  · -- min of a list
    cases rs with
    | cons r1 rn =>
      cases rn
      split at p
      · rename_i i is e
        obtain ⟨a, rfl, hs⟩ := intsOfL_at r r1 e
        rw [← hK] at hs
        refine cr_min hc pins s σ H _ us Q I rvs ⟨a, i :: is, rfl, hs, Nat.succ_pos _, fun m h1 h2 => ?_⟩
        obtain ⟨z1, z2⟩ := minI_is is i
        have e1 : m = minI i is := Int.le_antisymm (h2 _ z1) (z2 _ h1)
        rw [e1]
        exact p _ _ .refl r _ (.int _)
      · exact p.elim
      · unfold minLP at p
        split at p
        · rename_i x xs q
          split at p
          · rename_i d ds e2
            split at p
            · rename_i ha
              obtain ⟨a, vs, rfl, h1, h2⟩ := seqL_at r r1 q
              rw [← hK] at h1
              obtain ⟨D1, D2, D3⟩ := dats_at r h2 e2
              rw [← hK] at D1
              rw [Bool.and_eq_true] at ha
              have al : PySem.W.AlikeAll (d :: ds) := ⟨fun y hy z hz => List.all_eq_true.mp (List.all_eq_true.mp ha.1 y hy) z hz, fun y hy z => by
                have := List.all_eq_true.mp ha.2 y hy
                rw [z] at this
                cases this⟩
              obtain ⟨b1, b2⟩ := best_is (x := x) (xs := xs) (d := d) (ds := ds) D3
              obtain ⟨v, v1, v2⟩ := RVs_at h2 b1
              exact call_min_list hc (by omega) pins s σ H _ us Q I rvs ⟨a, vs, d, ds, v, rfl, h1, D1, D2, al, v1, p _ _ .refl r _ v2⟩
            · exact p.elim
          · exact p.elim
        · exact p.elim
  · cases rs with
    | cons r1 rn =>
      cases rn
      split at p
      · rename_i i is e
        obtain ⟨a, rfl, hs⟩ := intsOf_at r r1 e
        rw [← hK] at hs
        rcases hs with hs | hs
        · refine cr_max hc pins s σ H _ us Q I rvs ⟨a, i :: is, rfl, hs, Nat.succ_pos _, fun m h1 h2 => ?_⟩
          obtain ⟨z1, z2⟩ := maxI_is is i
          have e1 : m = maxI i is := Int.le_antisymm (z2 _ h1) (h2 _ z1)
          rw [e1]
          exact p _ _ .refl r _ (.int _)
        · exact cr_maxT hc hu pins s σ H _ us Q I rvs ⟨a, i, is, rfl, hs, p _ _ .refl r _ (.int _)⟩
      · exact p.elim
  · -- sum
    cases rs with
    | cons r1 rn =>
      cases rn
      split at p
      · rename_i is e
        obtain ⟨a, rfl, hs⟩ := intsOf_at r r1 e
        rw [← hK] at hs
        have q := p _ _ .refl r _ (.int _)
        rw [sumI_eq] at q
        rcases hs with hs | hs
        · exact cr_sum hc pins s σ H _ us Q I rvs ⟨a, is, rfl, hs, q⟩
        · exact cr_sumT hc pins s σ H _ us Q I rvs ⟨a, is, rfl, hs, q⟩
      · exact p.elim
  · -- sorted
    cases rs with
    | cons r1 rn =>
      cases rn
      split at p
      · rename_i is e
        split at p
        · rename_i e64
          obtain ⟨z, k⟩ := okL_at r (rvs_ints _) p
          obtain ⟨a, S, m, rfl, h1, h2, h3, h4⟩ := setOf_at r r1 e
          rw [← hW] at h1
          refine cr_sortedSet hc pins s σ H _ us Q I rvs ⟨a, S, m, rfl, h1, by rw [h3]; exact Nat.le_of_ble_eq_true e64, fun ns q g1 g2 g3 g4 => ?_⟩
          have e1 : ns = sortI is := by
            refine PySem.W.ksm_same ?_ (g1.imp fun h => Int.le_of_lt h) (sortI_srt is)
            refine List.Perm.trans ?_ (sortI_perm is).symm
            refine (List.perm_ext_iff_of_nodup (g1.imp fun h => Int.ne_of_lt h) h4).mpr fun j => ?_
            rw [g2, h2]
          rw [e1]
          exact k q g4
        · exact p.elim
      · split at p
        · rename_i is e
          obtain ⟨a, rfl, hs⟩ := intsOf_at r r1 e
          rw [← hK] at hs
          obtain ⟨z, k⟩ := okL_at r (rvs_ints _) p
          have fin : ∀ (ns : List Int) (q : Addr), ns.Perm is → ns.Pairwise (· ≤ ·) → H q = none → Q (.ref q) (upd H q (.lst (ns.map V.int))) := fun ns q h1 h2 h3 => by
            have e1 : ns = sortI is := PySem.W.ksm_same (h1.trans (sortI_perm is).symm) h2 (sortI_srt is)
            rw [e1]
            exact k q h3
          rcases hs with hs | hs
          · exact cr_sortedI pins s σ H _ us Q I rvs ⟨a, is, rfl, hs, fin⟩
          · exact cr_sortedIT pins s σ H _ us Q I rvs ⟨a, is, rfl, hs, fin⟩
        · split at p
          · rename_i ts e
            obtain ⟨a, vs, rfl, hs, hk, ht⟩ := tupsOfL_at r r1 e
            rw [← hK] at hs
            refine cr_sortedTI pins s σ H _ us Q I rvs ⟨a, vs, kOf H, rfl, hs, hk, fun ys q h1 h2 h3 => ?_⟩
            have e1 : ys.map (kOf H) = sortT ts := by
              refine srtT_same ?_ (List.pairwise_map.mpr h1) (sortT_srt ts)
              rw [← ht]
              exact (h2.map _).trans (sortT_perm _).symm
            have rvs := rvs_tups (c := c) (f := f) (n := h.n) fun v hv => hk v (h2.mem_iff.mp hv)
            rw [e1] at rvs
            obtain ⟨z, k⟩ := okL_at r rvs p
            exact k q h3
          · split at p
            · rename_i ts e
              obtain ⟨P0, a, L, rfl, h1, h2, h3, h4⟩ := setTOf_at r r1 e
              rw [← hW] at h1
              refine cr_sortedSTI hc (by omega) pins s σ H _ us Q I rvs ⟨P0, a, L, rfl, h1, h2, fun M q g1 g2 g3 g4 g5 => ?_⟩
              have e1 : M.map (·.2) = sortT ts := by
                refine srtT_same ?_ (List.pairwise_map.mpr g4) (sortT_srt ts)
                refine List.Perm.trans ?_ (sortT_perm ts).symm
                refine (List.perm_ext_iff_of_nodup g2 h4).mpr fun k => ?_
                rw [(g1.map (·.2)).mem_iff, h3]
              have rv := rvs_rows (c := c) (f := f) (n := h.n) (H := H) fun p hp => h2 p (g1.mem_iff.mp hp)
              rw [e1] at rv
              obtain ⟨z, k⟩ := okL_at r rv p
              exact k q g5
            · exact p.elim
  · -- set
    cases rs with
    | cons r1 rn =>
      cases rn
      split at p
      · rename_i is e
        split at p
        · rename_i e60
          have h60 : is.length ≤ 900 := Nat.le_of_ble_eq_true e60
          obtain ⟨a, rfl, hs⟩ := intsOf_at r r1 e
          rw [← hK] at hs
          cases rvs with
          | cons rv rn =>
            cases rn
            cases rv
            have fin : ∀ (h' : Heap) (tk m : Nat), SetR X.w h' s.heap.objs.size (fun j => decide (j ∈ is)) m → (∀ b o, s.heap.get? b = some o → h'.get? b = some o) → EP X pins σ Q (.ref s.heap.objs.size) { s with heap := h', toks := tk } := fun h' tk m R0 k0 => by
              have fr := I.hok.fresh (Nat.le_refl s.heap.objs.size)
              have hm : m = (dedI is).length := setR_count R0 (dedI_nodup is) fun j => by rw [decide_eq_true_eq, dedI_mem]
              obtain ⟨r2, x2⟩ := r.lays (o := .set (dedI is)) (u := SetO c.w s.heap.objs.size (fun j => decide (j ∈ is)) m) fr (.set upd_same (fun j => by rw [decide_eq_true_eq, dedI_mem]) hm (dedI_nodup is))
              refine ⟨.ref s.heap.objs.size, _, I.laid (t' := tk) k0 (Nat.le_refl _) (setO_new R0), rfl, ?_⟩
              rw [hW]
              refine p _ _ x2 r2 _ ?_
              have z := RV.ref (c := c) (f := ext1 f h.n s.heap.objs.size) (n := h.n + 1) (H := upd H s.heap.objs.size (SetO c.w s.heap.objs.size (fun j => decide (j ∈ is)) m)) (Nat.lt_succ_self h.n)
              rw [ext1_at] at z
              exact z
            rcases hs with hs | hs
            · obtain ⟨its, rv, pl, hz⟩ := I.list hs
              exact call_set_lstI is (I.ok.hd hc) pl.isList rv.ints (by unfold scanBound; omega) fun h' tk m R0 _ k0 => fin h' tk m R0 k0
            · obtain ⟨its, rv, pl, hz⟩ := I.tuple hs
              exact call_set_tupI is (I.ok.hd hc) pl rv.ints (by unfold scanBound; omega) fun h' tk m R0 _ k0 => fin h' tk m R0 k0
        · exact p.elim
      · split at p
        · rename_i ts e
          split at p
          · rename_i e63
            have h63 : ts.length ≤ 63 := Nat.le_of_ble_eq_true e63
            obtain ⟨a, ks, rfl, hs, hk, ht⟩ := tup0L_at r r1 e
            rw [← hK] at hs
            refine cr_setOfT hc (by omega) pins s σ H _ us Q I rvs ⟨a, ks, rfl, hs, fun p hp => .inl (.inl (hk p hp)), by rw [← ht, List.length_map] at h63; omega, fun q L g1 g2 g3 => ?_⟩
            have sm : Same H (upd H q (SetTO X.prog X.w q L)) := same_upd g1
            obtain ⟨r2, x2⟩ := r.lays (o := .setT (dedT ts)) (u := SetTO X.prog X.w q L) g1 (.setT (P := X.prog) (L := L) (by rw [← hW]; exact upd_same) (fun p hp => sm _ _ (hk p (g2 p hp))) (fun k => by
              rw [dedT_mem, ← ht]
              refine ⟨fun z => ?_, fun z => ?_⟩
              · obtain ⟨p, hp, rfl⟩ := List.mem_map.mp z
                exact List.mem_map.mpr ⟨p, g2 p hp, rfl⟩
              · obtain ⟨p, hp, rfl⟩ := List.mem_map.mp z
                exact g3 p hp) (dedT_nodup ts))
            have zz := RV.ref (c := c) (f := ext1 f h.n q) (n := h.n + 1) (H := upd H q (SetTO X.prog X.w q L)) (Nat.lt_succ_self h.n)
            rw [ext1_at] at zz
            exact p _ _ x2 r2 _ zz
          · exact p.elim
        · exact p.elim
  · -- list
    cases rs with
    | cons r1 rn =>
      cases rn
      split at p
      · rename_i xs e
        obtain ⟨a, ws, rfl, hs, rv⟩ := seqOf_at r r1 e
        rw [← hK] at hs
        obtain ⟨z, k⟩ := okL_at r rv p
        exact call_list_of pins s σ H _ us Q I rvs ⟨a, ws, rfl, hs, k⟩
      · exact p.elim
  · -- tuple
    cases rs with
    | cons r1 rn =>
      cases rn
      split at p
      · rename_i xs e
        obtain ⟨a, ws, rfl, hs, rv⟩ := seqOf_at2 r r1 e
        obtain ⟨z, k1, k2⟩ := okT_at r rv p
        rw [← hK] at hs
        refine call_tuple_of pins s σ H _ us Q I rvs ⟨a, ws, rfl, ?_⟩
        rcases hs with hs | ⟨_, hs⟩
        · exact .inl ⟨hs, k1⟩
        · exact .inr ⟨SqT.of hs, k2 _ hs⟩
      · exact p.elim
  · -- dict
    cases rs with
    | cons r1 rn =>
      cases rn
      split at p
      · rename_i i
        cases r1 with
        | ref hi =>
          split at p
          · rename_i kvs g
            cases r.obj _ _ g with
            | dK h1 h2 hn =>
              rename_i ws
              refine call_dictD pins s σ H _ us Q I rvs ⟨_, _, rfl, .inl h1, fun q hq => ?_⟩
              have sm : Same H (upd H q (.dK ws)) := same_upd hq
              have e : Ext f h.n H (ext1 f h.n q) (h.n + 1) (upd H q (.dK ws)) := ⟨Nat.le_succ _, fun i hi => ext1_lt hi, fun a ws q => sm a _ q, fun a qq q => sm a _ q, fun a o qq _ q => sm a _ q⟩
              obtain ⟨r2, x2⟩ := r.lays (o := .dK kvs) hq (.dK upd_same (h2.mono e) hn)
              have zz := RV.ref (c := c) (f := ext1 f h.n q) (n := h.n + 1) (H := upd H q (.dK ws)) (Nat.lt_succ_self h.n)
              rw [ext1_at] at zz
              exact p _ _ x2 r2 _ zz
          · rename_i xs g
            split at p
            · rename_i ps eps
              split at p
              · rename_i hz
                cases r.obj _ _ g with
                | lst h1 h2 =>
                  rename_i vs
                  obtain ⟨pa, kws, rfl, pr, rd⟩ := prs_at eps h2
                  rw [← hK] at pr
                  refine call_dictP hc pins s σ H _ us Q I rvs ⟨_, pa, kws, rfl, SqL.of h1, pr, fun q hq => ?_⟩
                  have sm : Same H (upd H q (.dK (mergeK [] kws))) := same_upd hq
                  have e : Ext f h.n H (ext1 f h.n q) (h.n + 1) (upd H q (.dK (mergeK [] kws))) := ⟨Nat.le_succ _, fun i hi => ext1_lt hi, fun a ws q => sm a _ q, fun a qq q => sm a _ q, fun a o qq _ q => sm a _ q⟩
                  obtain ⟨m1, m2⟩ := mrg_at rd (.nil : RD kI c f h.n H [] []) noTw_nil
                  obtain ⟨r2, x2⟩ := r.lays (o := .dK (mrgP [] ps)) hq (.dK upd_same (m1.mono e) m2)
                  have zz := RV.ref (c := c) (f := ext1 f h.n q) (n := h.n + 1) (H := upd H q (.dK (mergeK [] kws))) (Nat.lt_succ_self h.n)
                  rw [ext1_at] at zz
                  exact p _ _ x2 r2 _ zz
              · exact p.elim
            · exact p.elim
          · exact p.elim
      · exact p.elim
  · cases rs with
    | cons r1 rn =>
      cases rn
      cases r1
      exact call_int1 pins s σ H _ us Q I rvs (.inl ⟨_, rfl, p _ _ .refl r _ (.int _)⟩)
  · cases rs with
    | cons r1 rn =>
      cases rn
      cases r1
      exact call_int1 pins s σ H _ us Q I rvs (.inr ⟨_, rfl, p _ _ .refl r _ (.int _)⟩)
  · exact p.elim
theorem mt_app : MtM X "list.append" (rMt c .append) := by
  intro pins s σ H x xs v us Q I rx rxs ⟨f, h, pv, ps, r, r1, rs, p⟩
  have p : Post c f h.n H (appP pv ps h) (VQ c Q) := p
  unfold appP at p
  split at p
  · cases rs with
    | cons r2 rn =>
      cases rn
      split at p
      · rename_i i ys e
        split at p
        · rename_i sm
          obtain ⟨vs, rfl, hg, h1, h2⟩ := lstAt_at r r1 e
          obtain ⟨r4, e4⟩ := r.write hg (h2.app (.cons r2 .nil))
          exact mt_append pins s σ H _ _ v us Q I rx rxs ⟨f i, vs, _, rfl, rfl, h1, by rw [← h2.length]; exact small_size sm, p _ _ e4 r4 _ .non⟩
        · exact p.elim
      · exact p.elim
  · exact p.elim
theorem mt_popP : MtM X "list.pop" (rMt c .pop) := by
  intro pins s σ H x xs v us Q I rx rxs ⟨f, h, pv, ps, r, r1, rs, p⟩
  have p : Post c f h.n H (popP pv ps h) (VQ c Q) := p
  unfold popP at p
  split at p
  · cases rs
    split at p
    · rename_i i ys e
      split at p
      · rename_i w ew
        obtain ⟨vs, rfl, hg, h1, h2⟩ := lstAt_at r r1 e
        obtain ⟨r4, e4⟩ := r.write hg h2.dropLast
        obtain ⟨y, ey, ry⟩ := h2.get _ _ ew
        exact mt_pop pins s σ H _ _ v us Q I rx rxs ⟨f i, vs, y, rfl, rfl, h1, by rw [← h2.length]; exact ey, p _ _ e4 r4 _ (ry.mono e4)⟩
      · exact p.elim
    · exact p.elim
  · exact p.elim
theorem mt_cnt (hK : X.K = c.K) : MtM X "list.count" (rMt c .count) := by
  intro pins s σ H x xs v us Q I rx rxs ⟨f, h, pv, ps, r, r1, rs, p⟩
  have p : Post c f h.n H (cntP pv ps h) (VQ c Q) := p
  unfold cntP at p
  split at p
  · cases rs with
    | cons r2 rn =>
      cases rn
      cases r2
      split at p
      · rename_i is e
        obtain ⟨a, rfl, hs⟩ := intsOfL_at r r1 e
        rw [← hK] at hs
        exact mt_lcount pins s σ H _ _ v us Q I rx rxs ⟨a, is, _, rfl, rfl, hs, p _ _ .refl r _ (.int _)⟩
      · exact p.elim
  · exact p.elim
theorem fdI_is {k : Int} : ∀ {is : List Int} {i j : Nat}, fdI k is i = some j → i ≤ j ∧ is[j - i]? = some k ∧ ∀ m, m < j - i → ∀ x, is[m]? = some x → (x == k) = false
  | [], _, _, h => by cases h
  | x :: r, i, j, h => by
    unfold fdI at h
    split at h
    · rename_i e
      cases h
      have e := of_decide_eq_true e
      subst e
      refine ⟨Nat.le_refl _, by rw [Nat.sub_self]; rfl, fun m hm => absurd hm (by omega)⟩
    · rename_i e
      obtain ⟨h1, h2, h3⟩ := fdI_is h
      refine ⟨Nat.le_of_succ_le h1, ?_, fun m hm y hy => ?_⟩
      · rw [show j - i = (j - (i + 1)) + 1 by omega, List.getElem?_cons_succ]
        exact h2
      · cases m with
        | zero =>
          rw [List.getElem?_cons_zero] at hy
          cases hy
          have z := of_decide_eq_false e
          exact beq_false_of_ne z
        | succ m =>
          rw [List.getElem?_cons_succ] at hy
          exact h3 m (by omega) y hy
theorem fdD_is {d : PyData} : ∀ {ds : List PyData} {i j : Nat}, fdD d ds i = some j → i ≤ j ∧ (∃ z, ds[j - i]? = some z ∧ PyData.eqv z d = true) ∧ ∀ (m : Nat) (z : PyData), m < j - i → ds[m]? = some z → PyData.eqv z d = false
  | [], _, _, h => by cases h
  | y :: r, i, j, h => by
    unfold fdD at h
    split at h
    · rename_i e
      cases h
      rw [Nat.sub_self]
      exact ⟨Nat.le_refl _, ⟨y, rfl, e⟩, fun m z hm => absurd hm (Nat.not_lt_zero _)⟩
    · rename_i e
      obtain ⟨h1, ⟨z, h2, h3⟩, h4⟩ := fdD_is h
      have ej : j - i = (j - (i + 1)) + 1 := by omega
      refine ⟨by omega, ⟨z, by rw [ej, List.getElem?_cons_succ]; exact h2, h3⟩, fun m z' hm hz => ?_⟩
      cases m with
      | zero =>
        rw [List.getElem?_cons_zero] at hz
        cases hz
        exact e
      | succ m =>
        rw [List.getElem?_cons_succ] at hz
        exact h4 m z' (by omega) hz
theorem mt_idx (hK : X.K = c.K) (hu : X.A.units + 65 < cLine) : MtM X "list.index" (rMt c .index) := by
  intro pins s σ H x xs v us Q I rx rxs ⟨f, h, pv, ps, r, r1, rs, p⟩
  have p : Post c f h.n H (idxP pv ps h) (VQ c Q) := p
  unfold idxP at p
  split at p
  · cases rs with
    | cons r2 rn =>
      cases rn
      cases r2
      split at p
      · rename_i is e
        obtain ⟨a, rfl, hs⟩ := intsOfL_at r r1 e
        rw [← hK] at hs
        split at p
        · rename_i j e2
          obtain ⟨_, h2, h3⟩ := fdI_is e2
          rw [Nat.sub_zero] at h2 h3
          have hz := congrArg (Option.map V.int) h2
          rw [← List.getElem?_map, Option.map_some] at hz
          refine mt_index pins s σ H _ _ v us Q I rx rxs ⟨a, _, _, j, _, rfl, rfl, hs, rfl, ?_, hz, beq_self_eq_true _, fun m z hm hz => ?_, p _ _ .refl r _ (.int _)⟩
          · rw [List.all_eq_true]
            intro z hz
            obtain ⟨i, _, rfl⟩ := List.mem_map.mp hz
            rfl
          · rw [List.getElem?_map] at hz
            cases e4 : is[m]? with
            | none => rw [e4] at hz; cases hz
            | some y =>
              rw [e4] at hz
              cases hz
              exact h3 m hm y e4
        · exact p.elim
      · exact p.elim
  · cases rs with
    | cons r2 rn =>
      cases rn
      split at p
      · rename_i d q1
        split at p
        · rename_i ds q2
          split at p
          · rename_i j e2
            obtain ⟨_, ⟨z, h2, h2'⟩, h3⟩ := fdD_is e2
            rw [Nat.sub_zero] at h2 h3
            obtain ⟨a1, a2⟩ := toDat_at r r2 q1
            obtain ⟨b1, b2⟩ := toDat_at r r1 q2
            rw [← hK] at a1 b1
            have ev : ∃ a, x = .ref a := by
              cases b1 with
              | lst _ _ => exact ⟨_, rfl⟩
            obtain ⟨a, rfl⟩ := ev
            exact mt_indexD hu pins s σ H _ _ v us Q I rx rxs ⟨a, _, d, ds, j, z, rfl, rfl, b1, a1, b2, a2, h2, h2', h3, p _ _ .refl r _ (.int _)⟩
          · exact p.elim
        · exact p.elim
      · exact p.elim
  · exact p.elim
end
end Pyx

namespace Pyx
open PySem PySem.Spec PyProof.Rows L2
def noStar : Expr → Bool
  | .Starred _ _ => false
  | _ => true
def noSlice : Expr → Bool
  | .Slice _ _ _ _ => false
  | _ => true
def noSet : Expr → Bool
  | .Set _ _ _ => false
  | _ => true
def noComp : Expr → Bool
  | .ListComp _ _ _ _ => false
  | .SetComp _ _ _ _ => false
  | .DictComp _ _ _ _ _ => false
  | _ => true
def noBase : Expr → Bool
  | .Call _ [] _ _ => false
  | _ => true
def plainT : Expr → Bool
  | .UnaryOp _ _ _ => false
  | .BoolOp _ _ _ => false
  | .IfExp _ _ _ _ => false
  | .Compare _ _ _ _ => false
  | _ => true
theorem star_of {e : Expr} (h : noStar e = true) (rest : List Expr) (env : Env) : starEach (e :: rest) env = (false, eval e env) :: starEach rest env := by
  cases e <;> first | rfl | (cases h; done)
theorem slice_of {e : Expr} (h : noSlice e = true) : PlainIx e := by
  intro o i
  cases e <;> first | rfl | (cases h; done)
theorem set_of {e : Expr} (h : noSet e = true) (env : Env) (x : Value) : foldedSetIterable e env x = pure x := by
  cases e <;> first | rfl | (cases h; done)
theorem mark_of {e : Expr} (h : noSet e = true) (op : CmpOp) : behindInMarks op e = false := by
  cases e <;> first | rfl | (cases h; done)
theorem comp_of {e : Expr} (h : noComp e = true) (t : Option Expr) (l : Nat) (env : Env) : swapsWith e t l env = pure false := by
  cases e <;> first | rfl | (cases h; done)
theorem base_of {e : Expr} (h : noBase e = true) (x : Str) (env : Env) (w : Sem Value) : attributeBase e x env w = w := by
  cases e with
  | Call f as ks p =>
    cases as with
    | nil => cases h
    | cons a as => cases f <;> rfl
  | _ => first | rfl | (cases h; done)
theorem plain_of {e : Expr} (h : plainT e = true) (env : Env) (whole : Sem Value) : isTrue e env whole = (do let v ← whole; standAt e.pos; holding [v] (truthy v)) := by
  cases e <;> first | rfl | (cases h; done)
section
variable {X : Cx} {c : Rc} {call : Nat → List PV → PH → R PV} {n : Nat} {rec : CE → PSt → PH → R PV} {a b d e : Expr} {ca cb cd ce : CE} {pos : Pos}
theorem pe_w {t t' : TE} (h : PE X e t) (k : ∀ σ H Q, t' σ H Q → t σ H Q) : PE X e t' := ⟨fun pins s σ H Q I q => h.run pins s σ H Q I (k σ H Q q)⟩
theorem pt_w {t t' : TT} (h : PT X e t) (k : ∀ σ H Q, t' σ H Q → t σ H Q) : PT X e t' := ⟨fun pins s σ H Q I q => h.run pins s σ H Q I (k σ H Q q)⟩
theorem pa_w {es : List Expr} {t t' : TA} (h : PA X es t) (k : ∀ σ H Q, t' σ H Q → t σ H Q) : PA X es t' := ⟨fun pos pins s σ H Q I q => h.run pos pins s σ H Q I (k σ H Q q)⟩
theorem s_stuck {ev : PSt → PH → R PV} (hs : ∀ st h, ev st h = .stuck) : PE X e (tE c ev) := ⟨fun pins s σ H Q I ⟨f, h, st, r, r', p⟩ => by rw [hs] at p; exact p.elim⟩
theorem s_var {i : Nat} {x : Str} (hN : X.N[i]? = some x) (hv : Vis X.env.scope x) (hd : (x == ("__debug__" : Str)) = false) (hcd : (x == ("__classdict__" : Str)) = false) : PE X (.Name x pos) (tE c (eVar rec i)) := by
  refine pe_w (pe_var hN hv hd hcd) fun σ H Q ⟨f, h, st, r, rs, p⟩ => ?_
  have p : Post c f h.n H (match st[i]? with | some (some v) => R.ok v h | _ => .stuck) (VQ c Q) := p
  split at p
  · rename_i v e
    obtain ⟨w, e1, r1⟩ := rs.2 _ _ e
    exact ⟨w, e1, p _ _ .refl r _ r1⟩
  · exact p.elim
theorem s_const {v : PV} {w : V} (hp : PE X e (tC w)) (hv : ∀ f n H, RV c f n H v w) : PE X e (tE c (eVal rec v)) := by
  refine pe_w hp fun σ H Q ⟨f, h, st, r, rs, p⟩ => ?_
  exact p _ _ .refl r _ (hv _ _ _)
theorem s_bin (hK : X.K = c.K) (op : Bop) (ha : PE X a (tE c (rec ca))) (hb : PE X b (tE c (rec cb))) : PE X (.BinOp a (opB op) b pos) (tE c (eBin rec op ca cb)) := by
  refine pe_w (pe_op (op_bin hK op) ha hb) fun σ H Q ⟨f, h, st, r, rs, p⟩ => ?_
  unfold eBin at p
  split at p
  · exact p.elim
  · rename_i v h1 e1
    refine tE_of e1 r rs fun f1 H1 x x1 r1 rs1 rv1 => ?_
    split at p
    · exact p.elim
    · rename_i w h2 e2
      exact tE_of e2 r1 rs1 fun f2 H2 y x2 r2 rs2 rv2 => ⟨f2, h2, v, w, r2, rv1.mono x2, rv2, (p.mono x1).mono x2⟩
theorem s_neg (ha : PE X a (tE c (rec ca))) : PE X (.UnaryOp .USub a pos) (tE c (eNeg rec ca)) := by
  refine pe_w (pe_un un_neg ha) fun σ H Q ⟨f, h, st, r, rs, p⟩ => ?_
  unfold eNeg at p
  split at p
  · rename_i i h1 e1
    refine tE_of e1 r rs fun f1 H1 x x1 r1 rs1 rv1 => ?_
    cases rv1
    exact ⟨_, rfl, p _ _ x1 r1 _ (.int _)⟩
  · exact p.elim
theorem s_cmp (hK : X.K = c.K) (hu : X.A.units + 65 < cLine) (op : Cop) (hm : behindInMarks (opC op) b = false) (ha : PE X a (tE c (rec ca))) (hb : PE X b (tE c (rec cb))) : PE X (.Compare a [opC op] [b] pos) (tE c (eCmp rec op ca cb)) := by
  refine pe_w (pe_cmpR (op_cmp hK hu op) ha hb hm) fun σ H Q ⟨f, h, st, r, rs, p⟩ => ?_
  unfold eCmp at p
  split at p
  · exact p.elim
  · rename_i v h1 e1
    refine tE_of e1 r rs fun f1 H1 x x1 r1 rs1 rv1 => ?_
    split at p
    · exact p.elim
    · rename_i w h2 e2
      refine tE_of e2 r1 rs1 fun f2 H2 y x2 r2 rs2 rv2 => ?_
      split at p
      · rename_i k e3
        exact ⟨f2, h2, v, w, k, r2, rv1.mono x2, rv2, e3, p _ _ (x1.trans x2) r2 _ (.bl _)⟩
      · exact p.elim
theorem s_chain (hK : X.K = c.K) (hu : X.A.units + 65 < cLine) (o1 o2 : Cop) (hm : lastMarks [opC o1, opC o2] [b, d] = false) (ha : PE X a (tE c (rec ca))) (hb : PE X b (tE c (rec cb))) (hd : PE X d (tE c (rec cd))) :
    PE X (.Compare a [opC o1, opC o2] [b, d] pos) (tE c (eChain rec o1 o2 ca cb cd)) := by
  refine pe_w (pe_chain (op_cmp hK hu o1) (op_cmp hK hu o2) ha hb hd hm) fun σ H Q ⟨f, h, st, r, rs, p⟩ => ?_
  unfold eChain at p
  split at p
  · exact p.elim
  · rename_i v h1 e1
    refine tE_of e1 r rs fun f1 H1 x x1 r1 rs1 rv1 => ?_
    split at p
    · exact p.elim
    · rename_i w h2 e2
      refine tE_of e2 r1 rs1 fun f2 H2 y x2 r2 rs2 rv2 => ?_
      split at p
      · rename_i e3
        refine ⟨f2, h2, v, w, true, r2, rv1.mono x2, rv2, e3, true, rfl, ?_⟩
        rw [if_pos rfl]
        split at p
        · exact p.elim
        · rename_i u h3 e4
          refine tE_of e4 r2 rs2 fun f3 H3 z x3 r3 rs3 rv3 => ?_
          split at p
          · rename_i k e5
            exact ⟨f3, h3, w, u, k, r3, rv2.mono x3, rv3, e5, p _ _ ((x1.trans x2).trans x3) r3 _ (.bl _)⟩
          · exact p.elim
      · rename_i e3
        refine ⟨f2, h2, v, w, false, r2, rv1.mono x2, rv2, e3, false, rfl, ?_⟩
        rw [if_neg Bool.false_ne_true]
        exact p _ _ (x1.trans x2) r2 _ (.bl _)
      · exact p.elim
theorem s_in (hK : X.K = c.K) (hW : X.w = c.w) (hu : X.A.units + 65 < cLine) (ng : Bool) (hm : behindInMarks (if ng then .NotIn else .In) b = false) (ha : PE X a (tE c (rec ca))) (hb : PE X b (tE c (rec cb))) : PE X (.Compare a [if ng then .NotIn else .In] [b] pos) (tE c (eIsin rec ng ca cb)) := by
  refine pe_w (pe_cmpR (op_inP hK hW hu ng) ha hb hm) fun σ H Q ⟨f, h, st, r, rs, p⟩ => ?_
  unfold eIsin at p
  split at p
  · exact p.elim
  · rename_i v h1 e1
    refine tE_of e1 r rs fun f1 H1 x x1 r1 rs1 rv1 => ?_
    split at p
    · exact p.elim
    · rename_i w h2 e2
      refine tE_of e2 r1 rs1 fun f2 H2 y x2 r2 rs2 rv2 => ?_
      split at p
      · rename_i k e3
        exact ⟨f2, h2, v, w, k, r2, rv1.mono x2, rv2, e3, p _ _ (x1.trans x2) r2 _ (.bl _)⟩
      · exact p.elim
theorem s_and (ha : PE X a (tE c (rec ca))) {rest : List Expr} (hb : PE X (.BoolOp .And (b :: rest) pos) (tE c (rec cb))) : PE X (.BoolOp .And (a :: b :: rest) pos) (tE c (eAnd rec ca cb)) := by
  refine pe_w (pe_and ha hb) fun σ H Q ⟨f, h, st, r, rs, p⟩ => ?_
  unfold eAnd at p
  split at p
  · rename_i h1 e1
    refine tE_of e1 r rs fun f1 H1 x x1 r1 rs1 rv1 => ?_
    cases rv1
    refine ⟨_, rfl, ?_⟩
    rw [if_pos rfl]
    exact ⟨f1, h1, st, r1, rs1, p.mono x1⟩
  · rename_i h1 e1
    refine tE_of e1 r rs fun f1 H1 x x1 r1 rs1 rv1 => ?_
    cases rv1
    refine ⟨_, rfl, ?_⟩
    rw [if_neg Bool.false_ne_true]
    exact p _ _ x1 r1 _ (.bl _)
  · exact p.elim
theorem s_or (ha : PE X a (tE c (rec ca))) {rest : List Expr} (hb : PE X (.BoolOp .Or (b :: rest) pos) (tE c (rec cb))) : PE X (.BoolOp .Or (a :: b :: rest) pos) (tE c (eOr rec ca cb)) := by
  refine pe_w (pe_or ha hb) fun σ H Q ⟨f, h, st, r, rs, p⟩ => ?_
  unfold eOr at p
  split at p
  · rename_i h1 e1
    refine tE_of e1 r rs fun f1 H1 x x1 r1 rs1 rv1 => ?_
    cases rv1
    refine ⟨_, rfl, ?_⟩
    rw [if_pos rfl]
    exact p _ _ x1 r1 _ (.bl _)
  · rename_i h1 e1
    refine tE_of e1 r rs fun f1 H1 x x1 r1 rs1 rv1 => ?_
    cases rv1
    refine ⟨_, rfl, ?_⟩
    rw [if_neg Bool.false_ne_true]
    exact ⟨f1, h1, st, r1, rs1, p.mono x1⟩
  · exact p.elim
theorem s_not (ha : PE X a (tE c (rec ca))) : PE X (.UnaryOp .Not a pos) (tE c (eNot rec ca)) := by
  refine pe_w (pe_not ha) fun σ H Q ⟨f, h, st, r, rs, p⟩ => ?_
  unfold eNot at p
  split at p
  · rename_i k h1 e1
    refine tE_of e1 r rs fun f1 H1 x x1 r1 rs1 rv1 => ?_
    cases rv1
    exact ⟨_, rfl, p _ _ x1 r1 _ (.bl _)⟩
  · exact p.elim
theorem s_ite {t : Expr} {bt : CB} (ht : PT X t (tB' c (evB rec bt))) (ha : PE X a (tE c (rec ca))) (hb : PE X b (tE c (rec cb))) : PE X (.IfExp t a b pos) (tE c (eIte rec bt ca cb)) := by
  refine pe_w (pe_ifExp ht ha hb) fun σ H Q ⟨f, h, st, r, rs, p⟩ => ?_
  unfold eIte at p
  split at p
  · exact p.elim
  · rename_i h1 e1
    refine tB_of e1 r rs fun f1 H1 x1 r1 rs1 => ?_
    rw [if_pos rfl]
    exact ⟨f1, h1, st, r1, rs1, p.mono x1⟩
  · rename_i h1 e1
    refine tB_of e1 r rs fun f1 H1 x1 r1 rs1 => ?_
    rw [if_neg Bool.false_ne_true]
    exact ⟨f1, h1, st, r1, rs1, p.mono x1⟩
theorem b_val (hK : X.K = c.K) (he : plainT e = true) (h1 : PE X e (tE c (rec ce))) : PT X e (tB' c (evB rec (.val ce))) := by
  refine pt_w (pt_truth h1 (fun whole => plain_of he X.env whole)) fun σ H Q ⟨f, h, st, r, rs, p⟩ => ?_
  unfold evB at p
  split at p
  · exact p.elim
  · rename_i v h2 e1
    refine tE_of e1 r rs fun f1 H1 x x1 r1 rs1 rv1 => ?_
    cases q : truth v h2 with
    | none => rw [q] at p; exact p.elim
    | some k =>
      rw [q] at p
      refine ⟨k, ?_, p _ _ x1 r1⟩
      unfold truth at q
      split at q
      · cases q; cases rv1; rfl
      · cases q; cases rv1; rfl
      · cases q; cases rv1; rfl
      · cases q
        cases rv1 with
        | tup a1 a2 => exact .inr (.inl ⟨_, SqT.of a1, by rw [isEmpty_at a2]⟩)
      · rename_i i
        have key : ∀ xs, seqL (.ref i) h2 = some xs → k = !xs.isEmpty → TruV X.K x H1 k := fun xs e2 e3 => by
          obtain ⟨a, vs, rfl, hs, rv⟩ := seqL_at r1 rv1 e2
          rw [← hK] at hs
          exact .inl ⟨vs, hs, by rw [e3, isEmpty_at rv]⟩
        split at q
        · rename_i xs e2
          cases q
          exact key xs (by unfold seqL; simp only [e2]) rfl
        · rename_i xs e2
          cases q
          exact key xs (by unfold seqL; simp only [e2]) rfl
        · cases q
      · cases q
end
end Pyx

namespace Pyx
open PySem PySem.Spec PyProof.Rows L2
section
variable {X : Cx} {c : Rc} {call : Nat → List PV → PH → R PV} {n : Nat} {rec : CE → PSt → PH → R PV} {a b d e : Expr} {ca cb cd ce : CE} {pos : Pos}
theorem b_bl {t : TE} (h : PT X e (tTest t)) (rd : ∀ σ H Q, tE c (rec ce) σ H Q → t σ H Q) : PT X e (tB' c (evB rec (.bl ce))) := by
  refine pt_w h fun σ H Q ⟨f, h, st, r, rs, p⟩ => rd σ H _ ⟨f, h, st, r, rs, ?_⟩
  unfold evB at p
  split at p
  · rename_i k h1 e1
    rw [e1]
    intro f1 H1 x1 r1 w rw1
    cases rw1
    exact ⟨k, rfl, p _ _ x1 r1⟩
  · exact p.elim
theorem rd_cmp (op : Cop) : ∀ σ H Q, tE c (eCmp rec op ca cb) σ H Q → tOp (rCmp c op) (tE c (rec ca)) (tE c (rec cb)) σ H Q := fun σ H Q ⟨f, h, st, r, rs, p⟩ => by
  unfold eCmp at p
  split at p
  · exact p.elim
  · rename_i v h1 e1
    refine tE_of e1 r rs fun f1 H1 x x1 r1 rs1 rv1 => ?_
    split at p
    · exact p.elim
    · rename_i w h2 e2
      refine tE_of e2 r1 rs1 fun f2 H2 y x2 r2 rs2 rv2 => ?_
      split at p
      · rename_i k e3
        exact ⟨f2, h2, v, w, k, r2, rv1.mono x2, rv2, e3, p _ _ (x1.trans x2) r2 _ (.bl _)⟩
      · exact p.elim
theorem rd_in (ng : Bool) : ∀ σ H Q, tE c (eIsin rec ng ca cb) σ H Q → tOp (rInP c ng) (tE c (rec ca)) (tE c (rec cb)) σ H Q := fun σ H Q ⟨f, h, st, r, rs, p⟩ => by
  unfold eIsin at p
  split at p
  · exact p.elim
  · rename_i v h1 e1
    refine tE_of e1 r rs fun f1 H1 x x1 r1 rs1 rv1 => ?_
    split at p
    · exact p.elim
    · rename_i w h2 e2
      refine tE_of e2 r1 rs1 fun f2 H2 y x2 r2 rs2 rv2 => ?_
      split at p
      · rename_i k e3
        exact ⟨f2, h2, v, w, k, r2, rv1.mono x2, rv2, e3, p _ _ (x1.trans x2) r2 _ (.bl _)⟩
      · exact p.elim
theorem rd_chain (o1 o2 : Cop) : ∀ σ H Q, tE c (eChain rec o1 o2 ca cb cd) σ H Q → tChain (rCmp c o1) (rCmp c o2) (tE c (rec ca)) (tE c (rec cb)) (tE c (rec cd)) σ H Q := fun σ H Q ⟨f, h, st, r, rs, p⟩ => by
  unfold eChain at p
  split at p
  · exact p.elim
  · rename_i v h1 e1
    refine tE_of e1 r rs fun f1 H1 x x1 r1 rs1 rv1 => ?_
    split at p
    · exact p.elim
    · rename_i w h2 e2
      refine tE_of e2 r1 rs1 fun f2 H2 y x2 r2 rs2 rv2 => ?_
      split at p
      · rename_i e3
        refine ⟨f2, h2, v, w, true, r2, rv1.mono x2, rv2, e3, true, rfl, ?_⟩
        rw [if_pos rfl]
        split at p
        · exact p.elim
        · rename_i u h3 e4
          refine tE_of e4 r2 rs2 fun f3 H3 z x3 r3 rs3 rv3 => ?_
          split at p
          · rename_i k e5
            exact ⟨f3, h3, w, u, k, r3, rv2.mono x3, rv3, e5, p _ _ ((x1.trans x2).trans x3) r3 _ (.bl _)⟩
          · exact p.elim
      · rename_i e3
        refine ⟨f2, h2, v, w, false, r2, rv1.mono x2, rv2, e3, false, rfl, ?_⟩
        rw [if_neg Bool.false_ne_true]
        exact p _ _ (x1.trans x2) r2 _ (.bl _)
      · exact p.elim
theorem b_not {ba : CB} (ha : PT X a (tB' c (evB rec ba))) : PT X (.UnaryOp .Not a pos) (tB' c (evB rec (.not ba))) := by
  refine pt_w (pt_not ha) fun σ H Q ⟨f, h, st, r, rs, p⟩ => ?_
  unfold evB at p
  split at p
  · exact p.elim
  · rename_i k h1 e1
    exact tB_of e1 r rs fun f1 H1 x1 r1 rs1 => p _ _ x1 r1
theorem pw_w {t t' : TT} (h : PW X e t) (k : ∀ σ H Q, t' σ H Q → t σ H Q) : PW X e t' := ⟨fun whole pins s σ H Q I q => h.run whole pins s σ H Q I (k σ H Q q)⟩
theorem b_and {ba bb : CB} {rest : List Expr} (ha : PT X a (tB' c (evB rec ba))) (hb : PW X (.BoolOp .And (b :: rest) pos) (tB' c (evB rec bb))) : PW X (.BoolOp .And (a :: b :: rest) pos) (tB' c (evB rec (.and ba bb))) := by
  refine pw_w (pw_and ha hb) fun σ H Q ⟨f, h, st, r, rs, p⟩ => ?_
  unfold evB at p
  split at p
  · exact p.elim
  · rename_i h1 e1
    refine tB_of e1 r rs fun f1 H1 x1 r1 rs1 => ?_
    rw [if_pos rfl]
    exact ⟨f1, h1, st, r1, rs1, p.mono x1⟩
  · rename_i h1 e1
    refine tB_of e1 r rs fun f1 H1 x1 r1 rs1 => ?_
    rw [if_neg Bool.false_ne_true]
    exact p _ _ x1 r1
theorem b_or {ba bb : CB} {rest : List Expr} (ha : PT X a (tB' c (evB rec ba))) (hb : PW X (.BoolOp .Or (b :: rest) pos) (tB' c (evB rec bb))) : PW X (.BoolOp .Or (a :: b :: rest) pos) (tB' c (evB rec (.or ba bb))) := by
  refine pw_w (pw_or ha hb) fun σ H Q ⟨f, h, st, r, rs, p⟩ => ?_
  unfold evB at p
  split at p
  · exact p.elim
  · rename_i h1 e1
    refine tB_of e1 r rs fun f1 H1 x1 r1 rs1 => ?_
    rw [if_pos rfl]
    exact p _ _ x1 r1
  · rename_i h1 e1
    refine tB_of e1 r rs fun f1 H1 x1 r1 rs1 => ?_
    rw [if_neg Bool.false_ne_true]
    exact ⟨f1, h1, st, r1, rs1, p.mono x1⟩
inductive PEs (X : Cx) (c : Rc) (rec : CE → PSt → PH → R PV) : List Expr → List CE → Prop where
  | nil : PEs X c rec [] []
  | cons {e : Expr} {ce : CE} {es : List Expr} {ces : List CE} : noStar e = true → PE X e (tE c (rec ce)) → PEs X c rec es ces → PEs X c rec (e :: es) (ce :: ces)
theorem pa_of : ∀ {es : List Expr} {ces : List CE}, PEs X c rec es ces → PA X es (tA c (evL rec ces))
  | [], [], .nil => pa_w pa_nil fun σ H Q ⟨f, h, st, r, rs, p⟩ => p _ _ .refl r _ .nil
  | e :: es, ce :: ces, .cons hs he ht => by
    refine pa_w (pa_cons he (pa_of ht) (star_of hs es X.env)) fun σ H Q ⟨f, h, st, r, rs, p⟩ => ?_
    unfold evL at p
    split at p
    · exact p.elim
    · rename_i v h1 e1
      refine tE_of e1 r rs fun f1 H1 x x1 r1 rs1 rv1 => ?_
      split at p
      · exact p.elim
      · rename_i vs h2 e2
        exact tA_of e2 r1 rs1 fun f2 H2 ws x2 r2 rs2 rv2 => p _ _ (x1.trans x2) r2 _ (.cons (rv1.mono x2) rv2)
theorem plain_args : ∀ {es : List Expr} {ces : List CE}, PEs X c rec es ces → ∀ (p : Pos) (env : Env), (backTo p (starEach es env)).any (·.1) = false
  | [], [], .nil, _, _ => rfl
  | e :: es, ce :: ces, .cons hs he ht, p, env => by
    have ih := plain_args ht p env
    rw [star_of hs es env]
    show (false || (backTo p (starEach es env)).any (·.1)) = false
    rw [ih]
    rfl
theorem s_tup {es : List Expr} {ces : List CE} {k : Nat} (h : PEs X c rec es ces) : PE X (.Tuple es k pos) (tE c (eTup rec ces)) := by
  refine pe_w (pe_tup (pa_of h)) fun σ H Q ⟨f, h, st, r, rs, p⟩ => ?_
  unfold eTup at p
  split at p
  · exact p.elim
  · rename_i vs h1 e1
    refine tA_of e1 r rs fun f1 H1 ws x1 r1 rs1 rv1 => ?_
    obtain ⟨z, k1, _⟩ := okT_at r1 rv1 (p.mono x1)
    exact ⟨Nat.le_of_lt z, k1⟩
theorem s_lst {es : List Expr} {ces : List CE} (h : PEs X c rec es ces) : PE X (.List es pos) (tE c (eLst rec ces)) := by
  refine pe_w (pe_lst (pa_of h)) fun σ H Q ⟨f, h, st, r, rs, p⟩ => ?_
  unfold eLst at p
  split at p
  · exact p.elim
  · rename_i vs h1 e1
    refine tA_of e1 r rs fun f1 H1 ws x1 r1 rs1 rv1 => ?_
    obtain ⟨z, k1⟩ := okL_at r1 rv1 (p.mono x1)
    exact ⟨Nat.le_of_lt z, k1⟩
def spF (c : Rc) (call : Nat → List PV → PH → R PV) (k ar : Nat) : Sp := fun vs H Q _ => vs.length = ar ∧ ∃ f h ps, Rel c f h H ∧ RVs c f h.n H ps vs ∧ Post c f h.n H (call k ps h) (VQ c Q)
def spX (c : Rc) (call : Nat → List PV → PH → R PV) (k ar : Nat) : Sp := fun vs H _ E => vs.length = ar ∧ ∃ f h ps, Rel c f h H ∧ RVs c f h.n H ps vs ∧ Post c f h.n H (call (xbig + k) ps h) (fun _ _ H' x => ∃ i : Nat, x = .int (i : Nat) ∧ E (.ref (c.C i)) none H')
def spB (c : Rc) (call : Nat → List PV → PH → R PV) (k ar : Nat) : Sp := fun vs H Q E => spF c call k ar vs H Q E ∨ spX c call k ar vs H Q E
theorem s_call {k ar lvl : Nat} {fd : FuncData} {ps : List Str} {x : Str} {es : List Expr} {ces : List CE} {p : Pos} (hgd : c.gd = true → X.A.guards = some []) (F : FnQ c.gd X.prog X.w X.K X.mg X.base (L2.CX X.prog X.w) lvl (c.F k) fd ps (spF c call k ar)) (hl : es.length = ar) (hr : Room lvl X.A) (hg : Gl X x) (hm : X.mg x = some (.ref (c.F k)))
    (hk : PySem.W.keepIn X.K (.ref (c.F k)) = true) (hb : Binds X.K fd ps []) (hdb : (x == ("__debug__" : Str)) = false) (h : PEs X c rec es ces) : PE X (.Call (.Name x p) es [] pos) (tE c (eCall call rec k ces)) := by
  have key : ∀ σ H Q, tE c (eCall call rec k ces) σ H Q → tCall (spF c call k ar) [] E0 (tA c (evL rec ces)) σ H Q := fun σ H Q ⟨f, h', st, r, rs, p⟩ => by
    unfold eCall at p
    split at p
    · exact p.elim
    · rename_i vs h1 e1
      refine tA_of e1 r rs fun f1 H1 ws x1 r1 rs1 rv1 => ?_
      refine ⟨?_, f1, h1, vs, r1, ?_, p.mono x1⟩
      · rw [List.append_nil, ← rv1.length, ← hl]
        have len : ∀ {es : List Expr} {ces : List CE} {vs : List PV} {h h1 : PH}, PEs X c rec es ces → evL rec ces st h = .ok vs h1 → vs.length = es.length := by
          intro es
          induction es with
          | nil =>
            intro ces vs h h1 q e
            cases q
            cases e
            rfl
          | cons e es ih =>
            intro ces vs h h1 q e
            cases q with
            | cons _ _ t =>
              unfold evL at e
              split at e
              · cases e
              · split at e
                · cases e
                · rename_i e2
                  cases e
                  rw [List.length_cons, List.length_cons, ih t e2]
        exact len h e1
      · rw [List.append_nil]; exact rv1
  cases h with
  | nil =>
    refine pe_w (pe_qcall0 F hr hgd hg hm hk hb passL hdb) fun σ H Q q => ?_
    obtain ⟨f, h', st, r, rs, p⟩ := key σ H Q q
    exact p _ _ .refl r _ .nil
  | cons hs he ht =>
    exact pe_w (pe_qcall F hr hgd hg hm hk hb passL (pa_of (.cons hs he ht)) hdb (star_of hs _ X.env) (plain_args ht _ X.env)) key
def biN : Bi → Str
  | .len => "len"
  | .min => "min"
  | .max => "max"
  | .sum => "sum"
  | .sorted => "sorted"
  | .abs => "abs"
  | .list => "list"
  | .tuple => "tuple"
  | .int => "int"
  | .set => "set"
  | .dict => "dict"
theorem s_bi (hK : X.K = c.K) (hW : X.w = c.w) (hc : X.calm = true) (hu : X.A.units + 65 < cLine) {bi : Bi} {x : Str} {es : List Expr} {ces : List CE} {p : Pos} (hx : x = biN bi) (hg : Gl X x) (hm : X.mg x = none) (h : PEs X c rec es ces) (hne : es ≠ []) : PE X (.Call (.Name x p) es [] pos) (tE c (eBi rec bi ces)) := by
  have key : ∀ σ H Q, tE c (eBi rec bi ces) σ H Q → tCB (rBi c bi) (tA c (evL rec ces)) σ H Q := fun σ H Q ⟨f, h', st, r, rs, p⟩ => by
    unfold eBi at p
    split at p
    · exact p.elim
    · rename_i vs h1 e1
      exact tA_of e1 r rs fun f1 H1 ws x1 r1 rs1 rv1 => ⟨f1, h1, vs, r1, rv1, p.mono x1⟩
  cases h with
  | nil => exact absurd rfl hne
  | cons hs he ht =>
    have hA := pa_of (.cons hs he ht)
    have h2 := plain_args ht pos X.env
    subst hx
    refine pe_w ?_ key
    cases bi with
    | len => exact pe_callB (call_bi hK hW hc hu .len) hg hm PySem.boot_len hA (by decide) (by decide) (star_of hs _ X.env) h2
    | min => exact pe_callB (call_bi hK hW hc hu .min) hg hm boot_min hA (by decide) (by decide) (star_of hs _ X.env) h2
    | max => exact pe_callB (call_bi hK hW hc hu .max) hg hm boot_max hA (by decide) (by decide) (star_of hs _ X.env) h2
    | sum => exact pe_callB (call_bi hK hW hc hu .sum) hg hm boot_sum hA (by decide) (by decide) (star_of hs _ X.env) h2
    | sorted => exact pe_callB (call_bi hK hW hc hu .sorted) hg hm boot_sorted hA (by decide) (by decide) (star_of hs _ X.env) h2
    | abs => exact pe_callB (call_bi hK hW hc hu .abs) hg hm boot_abs hA (by decide) (by decide) (star_of hs _ X.env) h2
    | list => exact pe_callTy (call_bi hK hW hc hu .list) hg hm (by decide +kernel) hA (by decide) (by decide) (star_of hs _ X.env) h2
    | tuple => exact pe_callTy (call_bi hK hW hc hu .tuple) hg hm (by decide +kernel) hA (by decide) (by decide) (star_of hs _ X.env) h2
    | int => exact pe_callTy (call_bi hK hW hc hu .int) hg hm (by decide +kernel) hA (by decide) (by decide) (star_of hs _ X.env) h2
    | set => exact pe_callTy (call_bi hK hW hc hu .set) hg hm (by decide +kernel) hA (by decide) (by decide) (star_of hs _ X.env) h2
    | dict => exact pe_callTy (call_bi hK hW hc hu .dict) hg hm (by decide +kernel) hA (by decide) (by decide) (star_of hs _ X.env) h2
theorem pe_ty {t : Ty} {x : Str} {p : Pos} (hx : x = tyS t) (hg : Gl X x) (hm : X.mg x = none) : PE X (.Name x p) (tC (.ty (tyS t))) := by
  subst hx
  cases t <;> exact pe_bltn hg hm (by decide +kernel) rfl (by decide) (by decide)
theorem s_isi (hK : X.K = c.K) {t : Ty} {x : Str} {p p2 : Pos} (hs : noStar a = true) (ha : PE X a (tE c (rec ca))) (hx : x = tyS t) (hg : Gl X x) (hm : X.mg x = none) (hg2 : Gl X "isinstance") (hm2 : X.mg "isinstance" = none) :
    PE X (.Call (.Name "isinstance" p) [a, .Name x p2] [] pos) (tE c (eIsi rec ca t)) := by
  refine pe_w (pe_callB call_isi hg2 hm2 boot_isinstance (pa_cons ha (pa_cons (pe_ty (p := p2) hx hg hm) pa_nil rfl) (star_of hs _ X.env)) (by decide) (by decide) (star_of hs _ X.env) rfl) fun σ H Q ⟨f, h, st, r, rs, p⟩ => ?_
  unfold eIsi at p
  split at p
  · exact p.elim
  · rename_i v h1 e1
    refine tE_of e1 r rs fun f1 H1 x x1 r1 rs1 rv1 => ?_
    split at p
    · rename_i k e2
      obtain ⟨t1, t2⟩ := isTy_at r1 rv1 e2
      rw [← hK] at t1
      exact ⟨_, _, _, _, k, rfl, .ty _, t1, kit_ty t2, p _ _ x1 r1 _ (.bl _)⟩
    · exact p.elim
theorem s_isis (hK : X.K = c.K) {t u : Ty} {x y : Str} {p p2 p3 p4 : Pos} {k : Nat} (hs : noStar a = true) (ha : PE X a (tE c (rec ca))) (hx : x = tyS t) (hg : Gl X x) (hm : X.mg x = none) (hy : y = tyS u) (hgy : Gl X y) (hmy : X.mg y = none) (hg2 : Gl X "isinstance") (hm2 : X.mg "isinstance" = none) :
    PE X (.Call (.Name "isinstance" p) [a, .Tuple [.Name x p2, .Name y p3] k p4] [] pos) (tE c (eIsis rec ca t u)) := by
  refine pe_w (pe_callB call_isiT hg2 hm2 boot_isinstance (pa_cons ha (pa_cons (pe_tup (pa_cons (pe_ty (p := p2) hx hg hm) (pa_cons (pe_ty (p := p3) hy hgy hmy) pa_nil rfl) rfl)) pa_nil rfl) (star_of hs _ X.env)) (by decide) (by decide) (star_of hs _ X.env) rfl) fun σ H Q ⟨f, h, st, r, rs, p⟩ => ?_
  unfold eIsis at p
  split at p
  · exact p.elim
  · rename_i v h1 e1
    refine tE_of e1 r rs fun f1 H1 x x1 r1 rs1 rv1 => ?_
    refine ⟨(by show 2 ≤ sizeLine; rw [sizeLine_eq]; decide), fun tp htp => ?_⟩
    obtain ⟨r2, x2⟩ := r1.same (same_upd (o := .tup [.ty (tyS t), .ty (tyS u)]) htp)
    have fin : ∀ k : Bool, Post c f h.n H (.ok (.bl k) h1) (VQ c Q) → (∃ ty, TyX c.K H1 x (.type ty) ∧ PySem.W.kitAny X.K (.type ty) [.type (tyS t), .type (tyS u)] = some k) → rIsiT X.K [x, .ref tp] (upd H1 tp (.tup [.ty (tyS t), .ty (tyS u)])) Q := fun k p ⟨ty, t1, t2⟩ => by
      refine ⟨x, tp, _, .type ty, _, k, rfl, upd_same, .cons (.ty _) (.cons (.ty _) .nil), ?_, t2, p _ _ (x1.trans x2) r2 _ (.bl _)⟩
      rw [hK]
      have up : ∀ b o, H1 b = some o → upd H1 tp (.tup [.ty (tyS t), .ty (tyS u)]) b = some o := same_upd htp
      cases t1 with
      | base z =>
        refine .base ?_
        cases z with
        | non => exact .non
        | bl => exact .bl _
        | int => exact .int _
        | str => exact .str _
        | flt => exact .flt _
        | lst e => exact .lst (up _ _ e)
        | frz e => exact .frz (up _ _ e)
        | tup e => exact .tup (up _ _ e)
        | dK e => exact .dK (up _ _ e)
        | dT e => exact .dT (up _ _ e)
      | byt => exact .byt _
      | set e => exact .set (up _ _ e)
      | kList e q => exact .kList e q
      | kTuple e q => exact .kTuple e q
      | kDict e q => exact .kDict e q
      | fTuple e => exact .fTuple (up _ _ e)
      | fDict e => exact .fDict (up _ _ e)
    split at p
    · rename_i e2
      obtain ⟨t1, t2⟩ := isTy_at r1 rv1 e2
      exact fin true p ⟨_, t1, kitAny_cons (kit_ty t2) (fun z => Bool.noConfusion z) fun _ => rfl⟩
    · rename_i e2
      obtain ⟨t1, t2⟩ := isTy_at r1 rv1 e2
      split at p
      · rename_i k e3
        obtain ⟨_, t3⟩ := isTy_at r1 rv1 e3
        exact fin k p ⟨_, t1, kitAny_cons (kit_ty t2) (fun _ => kitAny_cons (kit_ty t3) (fun z => by rw [z]; exact kitAny_nil) fun z => z) fun z => Bool.noConfusion z⟩
      · exact p.elim
    · exact p.elim
theorem s_ix (hK : X.K = c.K) (hW : X.w = c.w) (hu : X.A.units + 65 < cLine) (hs : noSlice b = true) (ha : PE X a (tE c (rec ca))) (hb : PE X b (tE c (rec cb))) : PE X (.Subscript a b pos) (tE c (eIx rec ca cb)) := by
  refine pe_w (pe_ix (ix_at hK hW hu) ha hb (slice_of hs)) fun σ H Q ⟨f, h, st, r, rs, p⟩ => ?_
  unfold eIx at p
  split at p
  · exact p.elim
  · rename_i v h1 e1
    refine tE_of e1 r rs fun f1 H1 x x1 r1 rs1 rv1 => ?_
    split at p
    · exact p.elim
    · rename_i w h2 e2
      refine tE_of e2 r1 rs1 fun f2 H2 y x2 r2 rs2 rv2 => ?_
      cases e3 : ixP v w h2 with
      | none => rw [e3] at p; exact p.elim
      | some u =>
        rw [e3] at p
        exact ⟨f2, h2, v, w, u, r2, rv1.mono x2, rv2, e3, fun z rz => p _ _ (x1.trans x2) r2 z rz⟩
def tO' (c : Rc) (ev : PSt → PH → R (Option Int)) : TO := fun σ H Q => ∃ f h st, Rel c f h H ∧ RSt c f h.n H st σ ∧ Post c f h.n H (ev st h) (fun _ _ H' o => Q o H')
theorem po_w {o : Option Expr} {t t' : TO} (h : L2.PO X o t) (k : ∀ σ H Q, t' σ H Q → t σ H Q) : L2.PO X o t' := ⟨fun pins s σ H Q I q => h.run pins s σ H Q I (k σ H Q q)⟩
theorem po_no : L2.PO X none (tO' c (evO rec none)) := po_w po_none fun σ H Q ⟨f, h, st, r, rs, p⟩ => p _ _ .refl r
theorem po_so (ha : PE X a (tE c (rec ca))) : L2.PO X (some a) (tO' c (evO rec (some ca))) := by
  refine po_w (po_some ha) fun σ H Q ⟨f, h, st, r, rs, p⟩ => ?_
  have p : Post c f h.n H (match rec ca st h with | .ok (.int i) h1 => R.ok (some i) h1 | _ => .stuck) (fun _ _ H' o => Q o H') := p
  split at p
  · rename_i i h1 e1
    refine tE_of e1 r rs fun f1 H1 x x1 r1 rs1 rv1 => ?_
    cases rv1
    exact ⟨_, rfl, p _ _ x1 r1⟩
  · exact p.elim
theorem tO_of {f : Nat → Addr} {h h1 : PH} {H : Hp} {st : PSt} {σ : L2.St} {ev : PSt → PH → R (Option Int)} {x : Option Int} {Q : Option Int → Hp → Prop} (hr : ev st h = .ok x h1) (r : Rel c f h H) (s : RSt c f h.n H st σ)
    (k : ∀ f1 H1, Ext f h.n H f1 h1.n H1 → Rel c f1 h1 H1 → RSt c f1 h1.n H1 st σ → Q x H1) : tO' c ev σ H Q :=
  ⟨f, h, st, r, s, by rw [hr]; exact fun f1 H1 e1 R1 => k f1 H1 e1 R1 (s.mono e1)⟩
theorem s_sl (hK : X.K = c.K) {lo hi : Option Expr} {cl ch : Option CE} {p2 : Pos} (ha : PE X a (tE c (rec ca))) (hl : L2.PO X lo (tO' c (evO rec cl))) (hh : L2.PO X hi (tO' c (evO rec ch))) : PE X (.Subscript a (.Slice lo hi none p2) pos) (tE c (eSl rec ca cl ch)) := by
  refine pe_w (pe_slice (sl_at hK) ha hl hh) fun σ H Q ⟨f, h, st, r, rs, p⟩ => ?_
  unfold eSl at p
  split at p
  · exact p.elim
  · rename_i v h1 e1
    refine tE_of e1 r rs fun f1 H1 x x1 r1 rs1 rv1 => ?_
    split at p
    · exact p.elim
    · rename_i l h2 e2
      refine tO_of e2 r1 rs1 fun f2 H2 x2 r2 rs2 => ?_
      split at p
      · exact p.elim
      · rename_i u h3 e3
        exact tO_of e3 r2 rs2 fun f3 H3 x3 r3 rs3 => ⟨f3, h3, v, r3, (rv1.mono x2).mono x3, ((p.mono x1).mono x2).mono x3⟩
theorem list_ty {f : Nat → Addr} {h : PH} {H : Hp} (r : Rel c f h H) {x : PV} {v : V} {xs : List PV} (rv : RV c f h.n H x v) (e : seqL x h = some xs) : tyV c.K "list" v H := by
  obtain ⟨a, vs, rfl, hs, _⟩ := seqL_at r rv e
  exact .inl ⟨rfl, vs, hs⟩
end
end Pyx

namespace Pyx
open PySem PySem.Spec PyProof.Rows L2
def Itz3 (K : PySem.W.Frag) (ta tb td : Addr) : It :=
  ⟨fun k H => ∃ (us vs ws : List V) (u v w : V), (SqT K H ta us ∧ SqT K H tb vs ∧ SqT K H td ws) ∧ us[k]? = some u ∧ vs[k]? = some v ∧ ws[k]? = some w,
    fun k H r H' => ∃ T u v w, r = .ref T ∧ H T = none ∧ H' = upd H T (.tup [u, v, w]) ∧ (∀ us, SqT K H ta us → us[k]? = some u) ∧ (∀ vs, SqT K H tb vs → vs[k]? = some v) ∧ ∀ ws, SqT K H td ws → ws[k]? = some w,
    fun k H => ∃ us vs ws : List V, (SqT K H ta us ∧ SqT K H tb vs ∧ SqT K H td ws) ∧ (k ≤ us.length ∧ k ≤ vs.length ∧ k ≤ ws.length) ∧ (k = us.length ∨ k = vs.length ∨ k = ws.length)⟩
theorem six_of {z TI TO i1 i2 i3 y : Addr} (h : y ∈ [z, TI, TO, i1, i2, i3]) : y = z ∨ y = TI ∨ y = TO ∨ y = i1 ∨ y = i2 ∨ y = i3 := by simpa using h
theorem turn_z3 {P : Program} {w : World} {K : PySem.W.Frag} {el : List Expr} {ke : Nat} {tp : Pos} {ta tb td z TI TO i1 i2 i3 : Addr} (S : ZipSep3 z TI TO i1 i2 i3 [i1, ta] [i2, tb] [i3, td]) (m1 : ta ≠ i1) (m2 : tb ≠ i2) (m3 : td ≠ i3) :
    Turn P w K (.Tuple el ke tp) (Itz3 K ta tb td) [z, TI, TO, i1, i2, i3] z (fun k h => IsZip h z TI TO .none ∧ IsTupOf3 h TI (.ref i1) (.ref i2) (.ref i3) ∧ (∃ x y u, IsTupOf3 h TO x y u) ∧ h.IsTupleIter i1 ta k ∧ h.IsTupleIter i2 tb k ∧ h.IsTupleIter i3 td k) where
  mem := by simp
  obj := fun k h ⟨hz, hI, ⟨x, y, u, hO⟩, ⟨o1, g1, _, d1⟩, ⟨o2, g2, _, d2⟩, ⟨o3, g3, _, d3⟩⟩ y hy => by
    rcases six_of hy with q | q | q | q | q | q
    · exact q ▸ ⟨_, hz, fun v q => nomatch q⟩
    · exact q ▸ ⟨_, hI, fun v q => nomatch q⟩
    · exact q ▸ ⟨_, hO, fun v q => nomatch q⟩
    · exact q ▸ ⟨o1, g1, fun v q => by rw [d1] at q; cases q⟩
    · exact q ▸ ⟨o2, g2, fun v q => by rw [d2] at q; cases q⟩
    · exact q ▸ ⟨o3, g3, fun v q => by rw [d3] at q; cases q⟩
  keep := fun k h h' ⟨hz, hI, ⟨x, y, u, hO⟩, g1, g2, g3⟩ kp =>
    ⟨kp z (by simp) _ hz, kp TI (by simp) _ hI, ⟨x, y, u, kp TO (by simp) _ hO⟩, g1.at fun o q => kp i1 (by simp) o q, g2.at fun o q => kp i2 (by simp) o q, g3.at fun o q => kp i3 (by simp) o q⟩
  item := by
    intro X eP ew eK hc k pins s σ H E I hf ⟨hz, hI, ⟨x0, y0, u0, hO⟩, h1, h2, h3⟩ ⟨us, vs, ws, u, v, w', ⟨q1, q2, q3⟩, e1, e2, e3⟩
    subst eP ew eK
    obtain ⟨t1, rv1, p1, _⟩ := I.tuple q1
    obtain ⟨t2, rv2, p2, _⟩ := I.tuple q2
    obtain ⟨t3, rv3, p3, _⟩ := I.tuple q3
    obtain ⟨a1, c1, r1⟩ := rv1.get e1
    obtain ⟨a2, c2, r2⟩ := rv2.get e2
    obtain ⟨a3, c3, r3⟩ := rv3.get e3
    have nh : X.A.handled = none := I.ok.hd hc
    have lt1 : k < t1.toArray.size := by
      rw [List.size_toArray]
      exact (List.getElem?_eq_some_iff.mp c1).1
    have lt2 : k < t2.toArray.size := by
      rw [List.size_toArray]
      exact (List.getElem?_eq_some_iff.mp c2).1
    have lt3 : k < t3.toArray.size := by
      rw [List.size_toArray]
      exact (List.getElem?_eq_some_iff.mp c3).1
    have zl : z < s.heap.objs.size := Heap.lt_size hz
    refine wpAny_pyNext_zipD3_item S (Draws.tuple (by simp [nh]) i1 ta m1 t1.toArray) (Draws.tuple (by simp [nh]) i2 tb m2 t2.toArray) (Draws.tuple (by simp [nh]) i3 td m3 t3.toArray) hz hI hO ⟨h1, p1⟩ ⟨h2, p2⟩ ⟨h3, p3⟩ lt1 lt2 lt3 fun b1 b2 b3 h' tk y1 y2 y3 z' O' d1 d2 d3 N' sz kp => ?_
    have y1 : t1[k]? = some b1 := by simpa using y1
    have y2 : t2[k]? = some b2 := by simpa using y2
    have y3 : t3[k]? = some b3 := by simpa using y3
    rw [c1] at y1
    rw [c2] at y2
    rw [c3] at y3
    cases y1
    cases y2
    cases y3
    refine ⟨_, rfl, wpAny_letOwnedTupleGo_zip (s := { s with heap := h', toks := tk }) z' fun h'' z'' sb => ?_⟩
    have tri : h''.get? s.heap.objs.size = some { cls := .type "tuple", data := .seq #[a1, a2, a3] } := (sb.2 _ (Nat.ne_of_gt zl)).trans N'
    have fresh : ObjOk X.prog X.w (upd H s.heap.objs.size (.tup [u, v, w'])) h'' s.heap.objs.size (.tup [u, v, w']) :=
      ⟨by show 3 ≤ sizeLine; decide, [a1, a2, a3], .cons r1 (.cons r2 (.cons r3 .nil)), ⟨_, tri, rfl, _, rfl⟩⟩
    have J : Inv X pins σ (upd H s.heap.objs.size (.tup [u, v, w'])) { s with heap := h'', toks := tk } :=
      I.turnedNew (t' := tk) (ch := [z, TI, TO, i1, i2, i3]) (fun y o hb q => (sb.2 y (fun e => hb (by simp [e]))).trans (kp y o (fun e => hb (by simp [e])) (fun e => hb (by simp [e])) (fun e => hb (by simp [e])) (fun e => hb (by simp [e])) (fun e => hb (by simp [e])) q)) hf (Nat.le_refl _) fresh
    refine ⟨.ref s.heap.objs.size, _, J, rfl, ⟨_, u, v, w', rfl, I.hok.fresh (Nat.le_refl _), rfl, fun l hl => by rw [I.tuple_inj hl q1]; exact e1, fun l hl => by rw [I.tuple_inj hl q2]; exact e2, fun l hl => by rw [I.tuple_inj hl q3]; exact e3⟩, ⟨z'', ?_, ⟨a1, a2, a3, ?_⟩, ?_, ?_, ?_⟩, fun y hy => ?_⟩
    · exact (sb.2 _ S.TIz).trans (kp _ _ S.TIz S.TITO S.TIi1 S.TIi2 S.TIi3 hI)
    · exact (sb.2 _ S.TOz).trans O'
    · exact d1.1.at fun o q => (sb.2 _ fun e => S.zf1 (by simp [← e])).trans q
    · exact d2.1.at fun o q => (sb.2 _ fun e => S.zf2 (by simp [← e])).trans q
    · exact d3.1.at fun o q => (sb.2 _ fun e => S.zf3 (by simp [← e])).trans q
    · have below : y < s.heap.objs.size := by
        rcases six_of hy with q | q | q | q | q | q
        · exact q ▸ zl
        · exact q ▸ Heap.lt_size hI
        · exact q ▸ Heap.lt_size hO
        · obtain ⟨_, g, _⟩ := h1
          exact q ▸ Heap.lt_size g
        · obtain ⟨_, g, _⟩ := h2
          exact q ▸ Heap.lt_size g
        · obtain ⟨_, g, _⟩ := h3
          exact q ▸ Heap.lt_size g
      rw [upd_ne (Nat.ne_of_lt below)]
      exact (hf y hy).1
  done := by
    intro X eP ew eK hc k pins s σ H E I hf ⟨hz, hI, ⟨x0, y0, u0, hO⟩, h1, h2, h3⟩ ⟨us, vs, ws, ⟨q1, q2, q3⟩, ⟨le1, le2, le3⟩, en⟩
    subst eP ew eK
    obtain ⟨t1, rv1, p1, _⟩ := I.tuple q1
    obtain ⟨t2, rv2, p2, _⟩ := I.tuple q2
    obtain ⟨t3, rv3, p3, _⟩ := I.tuple q3
    have nh : X.A.handled = none := I.ok.hd hc
    have n1 : t1.toArray.size = us.length := by rw [List.size_toArray]; exact rv1.length.symm
    have n2 : t2.toArray.size = vs.length := by rw [List.size_toArray]; exact rv2.length.symm
    have n3 : t3.toArray.size = ws.length := by rw [List.size_toArray]; exact rv3.length.symm
    exact wpAny_pyNext_zipD3_end S (Draws.tuple (by simp [nh]) i1 ta m1 t1.toArray) (Draws.tuple (by simp [nh]) i2 tb m2 t2.toArray) (Draws.tuple (by simp [nh]) i3 td m3 t3.toArray) hz hI hO ⟨h1, p1⟩ ⟨h2, p2⟩ ⟨h3, p3⟩ (by omega) (by omega) (by omega) (by omega) fun h' tk kp =>
      ⟨rfl, I.turnedL (t' := tk) (ch := [z, TI, TO, i1, i2, i3]) (fun y o hb q => kp y o (fun e => hb (by simp [e])) (fun e => hb (by simp [e])) (fun e => hb (by simp [e])) (fun e => hb (by simp [e])) (fun e => hb (by simp [e])) q) hf⟩
  self := fun A k s Q E st h => wpAny_pyIter_zip st.1 h
def iZip3 (K : PySem.W.Frag) (t : TA) : TI := fun σ H R => t σ H fun rs H1 => ∃ ta tb td us vs ws, rs = [.ref ta, .ref tb, .ref td] ∧ (SqT K H1 ta us ∧ SqT K H1 tb vs ∧ SqT K H1 td ws) ∧ R (Itz3 K ta tb td) H1
theorem pi_zip3 {X : Cx} {e1 e2 e3 : Expr} {t : TA} {p pos tp : Pos} {el : List Expr} {ke : Nat} (hg : Gl X "zip") (hm : X.mg "zip" = none) (ha : PA X [e1, e2, e3] t)
    (hs : starEach [e1, e2, e3] X.env = (false, eval e1 X.env) :: starEach [e2, e3] X.env) (hpl : (backTo pos (starEach [e2, e3] X.env)).any (·.1) = false) :
    PI X (.Tuple el ke tp) (.Call (.Name "zip" p) [e1, e2, e3] [] pos) (iZip3 X.K t) := by
  refine ⟨fun pins s σ H R I h => ?_⟩
  refine Call_ (ld_blt I hg hm PyProof.Rows.boot_zip (PyProof.Rows.callWith_type1 (thn (ha.run pos pins s σ H _ I h) fun rs s1 ⟨xs, H1, J, rv, q⟩ => ?_) hs hpl))
  obtain ⟨ta, tb, td, us, vs, ws, rfl, ⟨q1, q2, q3⟩, q⟩ := q
  cases rv with
  | cons c1 rv =>
    cases rv with
    | cons c2 rv =>
      cases rv with
      | cons c3 rv =>
        cases rv
        cases c1
        cases c2
        cases c3
        obtain ⟨t1, rv1, p1, _⟩ := J.tuple q1
        obtain ⟨t2, rv2, p2, _⟩ := J.tuple q2
        obtain ⟨t3, rv3, p3, _⟩ := J.tuple q3
        have l1 : ta < s1.heap.objs.size := by
          obtain ⟨o, g, _⟩ := id p1
          exact Heap.lt_size g
        have l2 : tb < s1.heap.objs.size := by
          obtain ⟨o, g, _⟩ := id p2
          exact Heap.lt_size g
        have l3 : td < s1.heap.objs.size := by
          obtain ⟨o, g, _⟩ := id p3
          exact Heap.lt_size g
        refine zip_begins3 (begins_tuple ta t1.toArray) (begins_tuple tb t2.toArray) (begins_tuple td t3.toArray) p1 p2 p3 fun h' hz hI hO g1 g2 g3 sz kp => wpAny_pyIter_zip hz ?_
        have J2 : Inv X pins σ H1 { s1 with heap := h' } := J.kept (t' := s1.toks) kp
        have S := zip_sep3 (N := s1.heap.objs.size) (fp1 := [ta]) (fp2 := [tb]) (fp3 := [td]) (fun y hy => by rw [List.mem_singleton.mp hy]; exact l1) (fun y hy => by rw [List.mem_singleton.mp hy]; exact l2) (fun y hy => by rw [List.mem_singleton.mp hy]; exact l3)
        refine ⟨s1.heap.objs.size + 5, [s1.heap.objs.size + 5, s1.heap.objs.size + 3, s1.heap.objs.size + 4, s1.heap.objs.size, s1.heap.objs.size + 1, s1.heap.objs.size + 2], _, _, H1, rfl, J2, turn_z3 S (Nat.ne_of_lt l1) (Nat.ne_of_lt (Nat.lt_succ_of_lt l2)) (Nat.ne_of_lt (Nat.lt_succ_of_lt (Nat.lt_succ_of_lt l3))), ⟨hz, hI, ⟨_, _, _, hO⟩, ⟨_, g1, rfl, rfl⟩, ⟨_, g2, rfl, rfl⟩, ⟨_, g3, rfl, rfl⟩⟩, fun y hy => ?_, q⟩
        have le : s1.heap.objs.size ≤ y := by
          rcases six_of hy with e | e | e | e | e | e <;> rw [e]
          · exact Nat.le_add_right _ _
          · exact Nat.le_add_right _ _
          · exact Nat.le_add_right _ _
          · exact Nat.le_refl _
          · exact Nat.le_add_right _ _
          · exact Nat.le_add_right _ _
        exact J.fpOk le (J.hok.fresh le)
def rg3N (i j k : Int) : Nat := if i < j then ((j - i - 1) / k + 1).toNat else 0
def rg3V (i j k : Int) : List V := (List.range (rg3N i j k)).map fun m => V.int (i + (m : Nat) * k)
theorem rg3_size {i j k : Int} (k1 : 1 ≤ k) : Builtin.Range.rangeSize i j k = (rg3N i j k : Int) := by
  unfold Builtin.Range.rangeSize rg3N
  rw [if_pos (by omega)]
  split
  · have := Int.ediv_nonneg (a := j - i - 1) (b := k) (by omega) (by omega)
    omega
  · rfl
theorem rg3_few {i j k : Int} (k1 : 1 ≤ k) (b : j - i ≤ 2000) : rg3N i j k ≤ 2000 := by
  unfold rg3N
  split
  · have := Int.ediv_le_self k (show (0 : Int) ≤ j - i - 1 by omega)
    omega
  · omega
theorem rg3_small {i j k : Int} (k1 : 1 ≤ k) (k2 : k ≤ 1000) (i1 : -1000 ≤ i) (i2 : i ≤ 1000) (j1 : -1000 ≤ j) (j2 : j ≤ 1000) : Builtin.Range.small i j k = true := by
  have n0 := rg3_few (i := i) (j := j) k1 (by omega)
  unfold Builtin.Range.small
  rw [rg3_size k1]
  have m0 : (rg3N i j k : Int) * k ≤ 2000 * 1000 := Int.mul_le_mul (by omega) k2 (by omega) (by omega)
  have m1 : 0 ≤ (rg3N i j k : Int) * k := Int.mul_nonneg (by omega) (by omega)
  simp only [Builtin.Range.rangeFitsLong, Bool.and_eq_true, Bool.or_eq_true, decide_eq_true_eq, beq_iff_eq]
  refine ⟨⟨⟨⟨⟨by omega, by omega⟩, by omega, by omega⟩, by omega, by omega⟩, by omega, by omega⟩, .inr ?_⟩
  rw [if_pos (by omega), Bool.and_eq_true, decide_eq_true_eq, decide_eq_true_eq]
  exact ⟨by omega, by omega⟩
theorem rg3_vals {i j k : Int} {acc : Array Value} (h : ItemsOf (fun m v => ∃ t, v = .int (i + m * k) t) acc (rg3N i j k)) : Vals (rg3V i j k) acc.toList := by
  have e : acc.toList.length = rg3N i j k := by rw [Array.length_toList]; exact h.1
  unfold rg3V
  rw [← e]
  refine vals_of_get acc.toList _ fun m u hm => ?_
  obtain ⟨t, rfl⟩ := h.2 m u (by rw [← hm, Array.getElem?_toList])
  exact ⟨t, rfl⟩
def tRg3T (t : TA) : TE := fun σ H Q => t σ H fun vs H1 => ∃ i j k : Int, vs = [.int i, .int j, .int k] ∧ (1 ≤ k ∧ k ≤ 1000 ∧ -1000 ≤ i ∧ i ≤ 1000 ∧ -1000 ≤ j ∧ j ≤ 1000) ∧ ∀ q, H1 q = none → Q (.ref q) (upd H1 q (.tup (rg3V i j k)))
theorem pe_rg3T {X : Cx} {e1 e2 e3 : Expr} {t : TA} {p pos p2 pos2 : Pos} (hc : X.calm = true) (hgt : Gl X "tuple") (hmt : X.mg "tuple" = none) (hg : Gl X "range") (hm : X.mg "range" = none) (ha : PA X [e1, e2, e3] t)
    (hs : starEach [e1, e2, e3] X.env = (false, eval e1 X.env) :: starEach [e2, e3] X.env) (hpl : (backTo pos2 (starEach [e2, e3] X.env)).any (·.1) = false)
    (na : starEach [.Call (.Name "range" p2) [e1, e2, e3] [] pos2] X.env = (false, eval (.Call (.Name "range" p2) [e1, e2, e3] [] pos2) X.env) :: starEach [] X.env := by rfl) :
    PE X (.Call (.Name "tuple" p) [.Call (.Name "range" p2) [e1, e2, e3] [] pos2] [] pos) (tRg3T t) := by
  refine ⟨fun pins s σ H Q I h => ?_⟩
  refine Call_ (ld_blt I hgt hmt boot_tuple (PyProof.Rows.callWith_type1 (args_cons ?_ na) na))
  refine Call_ (ld_blt I hg hm boot_range (PyProof.Rows.callWith_type1 (thn (ha.run pos2 pins s σ H _ I h) fun us s1 ⟨vs, H1, J, rv, q⟩ => ?_) hs hpl))
  obtain ⟨i, j, k, rfl, ⟨k1, k2, i1, i2, j1, j2⟩, q⟩ := q
  cases rv with
  | cons c1 rv =>
    cases rv with
    | cons c2 rv =>
      cases rv with
      | cons c3 rv =>
        cases rv
        obtain ⟨t1, rfl⟩ := c1
        obtain ⟨t2, rfl⟩ := c2
        obtain ⟨t3, rfl⟩ := c3
        refine call_range_3 (by omega) ?_ (.inl (PyProof.noPylong_small (by omega)))
        refine args_nil ?_
        have J2 : Inv X pins σ H1 { s1 with heap := s1.heap.push { cls := .type "range", data := .fields #[.int i t1, .int j t2, .int k t3] } } := J.kept (t' := s1.toks) fun b o e => Heap.get?_push_of_some _ e
        have few := rg3_few (i := i) (j := j) k1 (by omega)
        refine call_tuple_range (n := rg3N i j k) (J2.ok.hd hc) (IsRange.new _ _ _ _ _ _ _) (rg3_small k1 k2 i1 i2 j1 j2) (rg3_size k1) (by omega) fun h' tk acc hk hi => ?_
        have J3 : Inv X pins σ H1 { s1 with heap := h', toks := tk } := J2.kept hk
        refine ⟨.ref h'.objs.size, upd H1 h'.objs.size (.tup (rg3V i j k)), J3.laid (t' := tk) (fun c o e => Heap.get?_push_of_some _ e) (Nat.le_refl _) (show ObjOk X.prog X.w _ _ _ (.tup (rg3V i j k)) from ⟨?_, acc.toList, rg3_vals hi, ?_⟩), rfl, q _ (J3.hok.fresh (Nat.le_refl _))⟩
        · unfold rg3V
          rw [List.length_map, List.length_range, sizeLine_eq]
          omega
        · rw [Array.toArray_toList]
          exact IsTup.new _ _
end Pyx

namespace Pyx
open PySem PySem.Spec PyProof.Rows L2
section
variable {X : Cx} {c : Rc} {call : Nat → List PV → PH → R PV} {n : Nat} {rec : CE → PSt → PH → R PV} {a b d e : Expr} {ca cb cd ce : CE} {pos : Pos}
def mtN : Mt → Str
  | .append => "append"
  | .pop => "pop"
  | .count => "count"
  | .index => "index"
theorem rd_mt {m : Mt} {co : CE} {ces : List CE} {o : Expr} {t : TA} (hK : X.K = c.K) (ht : ∀ σ H Q, tA c (evL rec ces) σ H Q → t σ H Q) : ∀ σ H Q, tE c (eMt rec m co ces) σ H Q → tBM X.K "list" (rMt c m) (tE c (rec co)) t σ H Q := fun σ H Q ⟨f, h, st, r, rs, p⟩ => by
  unfold eMt at p
  split at p
  · exact p.elim
  · rename_i v h1 e1
    split at p
    · exact p.elim
    · rename_i xs e2
      refine tE_of e1 r rs fun f1 H1 x x1 r1 rs1 rv1 => ⟨by rw [hK]; exact list_ty r1 rv1 e2, ?_⟩
      split at p
      · exact p.elim
      · rename_i vs h2 e3
        exact ht _ _ _ (tA_of e3 r1 rs1 fun f2 H2 ws x2 r2 rs2 rv2 => ⟨f2, h2, v, vs, r2, rv1.mono x2, rv2, (p.mono x1).mono x2⟩)
theorem s_append (hK : X.K = c.K) {o : Expr} {co : CE} {apos cpos : Pos} (hb : noBase o = true) (hs : noStar e = true) (hline : (apos.endLine == cpos.line) = true) (ho : PE X o (tE c (rec co))) (he : PE X e (tE c (rec ce))) :
    PE X (.Call (.Attribute o "append" apos) [e] [] cpos) (tE c (eMt rec .append co [ce])) :=
  pe_w (pe_bm PySem.F.plainAttrs_list PySem.F.slot_list_append PySem.F.type_list_append mt_app ho (pa_of (.cons hs he .nil)) (base_of hb _ _ _) (by rw [star_of hs]; rfl) hline (star_of hs _ _) rfl) (rd_mt (o := o) hK fun _ _ _ h => h)
theorem s_count (hK : X.K = c.K) {o : Expr} {co : CE} {apos cpos : Pos} (hb : noBase o = true) (hs : noStar e = true) (hline : (apos.endLine == cpos.line) = true) (ho : PE X o (tE c (rec co))) (he : PE X e (tE c (rec ce))) :
    PE X (.Call (.Attribute o "count" apos) [e] [] cpos) (tE c (eMt rec .count co [ce])) :=
  pe_w (pe_bm PySem.F.plainAttrs_list PySem.F.slot_list_count PySem.F.type_list_count (mt_cnt hK) ho (pa_of (.cons hs he .nil)) (base_of hb _ _ _) (by rw [star_of hs]; rfl) hline (star_of hs _ _) rfl) (rd_mt (o := o) hK fun _ _ _ h => h)
theorem s_index (hK : X.K = c.K) (hu : X.A.units + 65 < cLine) {o : Expr} {co : CE} {apos cpos : Pos} (hb : noBase o = true) (hs : noStar e = true) (hline : (apos.endLine == cpos.line) = true) (ho : PE X o (tE c (rec co))) (he : PE X e (tE c (rec ce))) :
    PE X (.Call (.Attribute o "index" apos) [e] [] cpos) (tE c (eMt rec .index co [ce])) :=
  pe_w (pe_bm PySem.F.plainAttrs_list PySem.F.slot_list_index PySem.F.type_list_index (mt_idx hK hu) ho (pa_of (.cons hs he .nil)) (base_of hb _ _ _) (by rw [star_of hs]; rfl) hline (star_of hs _ _) rfl) (rd_mt (o := o) hK fun _ _ _ h => h)
theorem s_pop (hK : X.K = c.K) {o : Expr} {co : CE} {apos cpos : Pos} (hb : noBase o = true) (hline : (apos.endLine == cpos.line) = true) (ho : PE X o (tE c (rec co))) :
    PE X (.Call (.Attribute o "pop" apos) [] [] cpos) (tE c (eMt rec .pop co [])) := by
  refine pe_w (pe_bm0 PySem.F.plainAttrs_list PySem.F.slot_list_pop PySem.F.type_list_pop (mt_popP (c := c)) ho (base_of hb _ _ _) hline) fun σ H Q q => ?_
  have z := rd_mt (o := o) (t := tNil) hK (fun σ H Q ⟨f, h, st, r, rs, p⟩ => p _ _ .refl r _ .nil) σ H Q q
  exact z
def IteT (K : PySem.W.Frag) (a : Addr) : It :=
  ⟨fun i H => ∃ (xs : List V) (x : V), SqT K H a xs ∧ xs[i]? = some x, fun i H v H' => ∃ T x, v = .ref T ∧ H T = none ∧ H' = upd H T (.tup [.int (i : Nat), x]) ∧ ∀ xs, SqT K H a xs → xs[i]? = some x, fun i H => ∃ xs : List V, SqT K H a xs ∧ xs.length ≤ i⟩
inductive JOk (c : Rc) (f : Nat → Addr) (n : Nat) (H : Hp) : IV → It → Prop where
  | lst {i : Nat} : i < n → JOk c f n H (.lst i) (Itl c.K (f i))
  | tup {xs : List PV} {vs : List V} {a : Addr} : H a = some (.tup vs) → RVs c f n H xs vs → JOk c f n H (.tup xs) (Itt c.K a)
  | rng (lo : Int) (k : Nat) : JOk c f n H (.rng lo k) (Itr lo k)
  | enumL {i : Nat} : i < n → JOk c f n H (.enumL i) (Ite c.K (f i))
  | enumT {xs : List PV} {vs : List V} {a : Addr} : H a = some (.tup vs) → RVs c f n H xs vs → JOk c f n H (.enumT xs) (IteT c.K a)
  | zipL {i j : Nat} : i < n → j < n → JOk c f n H (.zipL i j) (Itz c.K (f i) (f j))
  | zipT {xs ys : List PV} {vs ws : List V} {a b : Addr} : H a = some (.tup vs) → RVs c f n H xs vs → H b = some (.tup ws) → RVs c f n H ys ws → JOk c f n H (.zipT xs ys) (RZ.ItzT c.K a b)
  | zipT3 {xs ys zs : List PV} {us vs ws : List V} {a b d : Addr} : H a = some (.tup us) → RVs c f n H xs us → H b = some (.tup vs) → RVs c f n H ys vs → H d = some (.tup ws) → RVs c f n H zs ws → JOk c f n H (.zipT3 xs ys zs) (Itz3 c.K a b d)
  | keysT {i : Nat} {o : Obj} {ws : List (List Key × V)} : i < n → H (f i) = some (.frz o (.dT ws)) → JOk c f n H (.keysT i) (Itkt (f i) o ws)
  | keysK {i : Nat} {o : Obj} {ws : List (Key × V)} : i < n → H (f i) = some (.frz o (.dK ws)) → JOk c f n H (.keysK i) (Itk (f i) o ws)
theorem JOk.mono {f f' : Nat → Addr} {k k' : Nat} {H H' : Hp} {iv : IV} {J : It} (e : Ext f k H f' k' H') : JOk c f k H iv J → JOk c f' k' H' iv J
  | .lst h => by rw [← e.eq _ h]; exact .lst (Nat.lt_of_lt_of_le h e.le)
  | .tup h r => .tup (e.tup _ _ h) (r.mono e)
  | .rng lo k => .rng lo k
  | .enumL h => by rw [← e.eq _ h]; exact .enumL (Nat.lt_of_lt_of_le h e.le)
  | .enumT h r => .enumT (e.tup _ _ h) (r.mono e)
  | .zipL h g => by rw [← e.eq _ h, ← e.eq _ g]; exact .zipL (Nat.lt_of_lt_of_le h e.le) (Nat.lt_of_lt_of_le g e.le)
  | .zipT h r g q => .zipT (e.tup _ _ h) (r.mono e) (e.tup _ _ g) (q.mono e)
  | .zipT3 h r g q k p => .zipT3 (e.tup _ _ h) (r.mono e) (e.tup _ _ g) (q.mono e) (e.tup _ _ k) (p.mono e)
  | .keysT h g => by rw [← e.eq _ h] at g ⊢; exact .keysT (Nat.lt_of_lt_of_le h e.le) (e.frz _ _ _ trivial g)
  | .keysK h g => by rw [← e.eq _ h] at g ⊢; exact .keysK (Nat.lt_of_lt_of_le h e.le) (e.frz _ _ _ trivial g)
theorem seqL_ref {f : Nat → Addr} {h : PH} {H : Hp} {i : Nat} {xs : List PV} (r : Rel c f h H) (hi : i < h.n) (e : seqL (.ref i) h = some xs) : ∃ vs, SqL c.K H (f i) vs ∧ RVs c f h.n H xs vs := by
  obtain ⟨a, vs, e1, h1, h2⟩ := seqL_at r (.ref hi) e
  cases e1
  exact ⟨vs, h1, h2⟩
theorem get_none {f : Nat → Addr} {n : Nat} {H : Hp} {xs : List PV} {vs : List V} (r : RVs c f n H xs vs) {k : Nat} (e : xs[k]? = none) : vs.length ≤ k := by
  rw [← r.length]
  exact List.getElem?_eq_none_iff.mp e
theorem ivN_stop {f : Nat → Addr} {h : PH} {H : Hp} {iv : IV} {J : It} {k : Nat} (r : Rel c f h H) (j : JOk c f h.n H iv J) (e : ivN iv k h = .stop) : J.stop k H := by
  unfold ivN at e
  cases j with
  | lst hi =>
    dsimp only at e
    split at e
    · rename_i xs q
      obtain ⟨vs, h1, h2⟩ := seqL_ref r hi q
      unfold pick at e
      split at e
      · cases e
      · rename_i q2
        exact ⟨vs, h1, get_none h2 q2⟩
    · cases e
  | tup h1 h2 =>
    dsimp only at e
    unfold pick at e
    split at e
    · cases e
    · rename_i q2
      exact ⟨_, SqT.of h1, get_none h2 q2⟩
  | rng lo m =>
    dsimp only at e
    split at e
    · cases e
    · rename_i q
      show m ≤ k
      have z : ¬ k < m := fun z => by rw [show Nat.blt k m = true from Nat.ble_eq_true_of_le z] at q; cases q
      omega
  | enumL hi =>
    dsimp only at e
    split at e
    · rename_i xs q
      obtain ⟨vs, h1, h2⟩ := seqL_ref r hi q
      split at e
      · cases e
      · rename_i q2
        exact ⟨vs, h1, get_none h2 q2⟩
    · cases e
  | enumT h1 h2 =>
    dsimp only at e
    split at e
    · cases e
    · rename_i q2
      exact ⟨_, SqT.of h1, get_none h2 q2⟩
  | zipL hi hj =>
    dsimp only at e
    split at e
    · rename_i xs ys q1 q2
      obtain ⟨vs, h1, h2⟩ := seqL_ref r hi q1
      obtain ⟨ws, h3, h4⟩ := seqL_ref r hj q2
      refine ⟨vs, ws, h1, h3, ?_⟩
      split at e
      · cases e
      · rename_i no
        cases z1 : xs[k]? with
        | none => exact .inl (get_none h2 z1)
        | some x =>
          cases z2 : ys[k]? with
          | none => exact .inr (get_none h4 z2)
          | some y => exact absurd z2 (no x y z1)
    · cases e
  | zipT h1 h2 h3 h4 =>
    dsimp only at e
    refine ⟨_, _, SqT.of h1, SqT.of h3, ?_⟩
    rename_i xs ys vs ws a b
    split at e
    · cases e
    · rename_i no
      cases z1 : xs[k]? with
      | none => exact .inl (get_none h2 z1)
      | some x =>
        cases z2 : ys[k]? with
        | none => exact .inr (get_none h4 z2)
        | some y => exact absurd z2 (no x y z1)
  | zipT3 h1 h2 h3 h4 h5 h6 =>
    dsimp only at e
    rename_i xs ys zs us vs ws a b d
    split at e
    · cases e
    · rename_i no
      split at e
      · rename_i le
        rw [Bool.and_eq_true, Bool.and_eq_true] at le
        have le1 := Nat.le_of_ble_eq_true le.1
        have le2 := Nat.le_of_ble_eq_true le.2.1
        have le3 := Nat.le_of_ble_eq_true le.2.2
        have n1 := h2.length
        have n2 := h4.length
        have n3 := h6.length
        refine ⟨_, _, _, ⟨SqT.of h1, SqT.of h3, SqT.of h5⟩, ⟨by omega, by omega, by omega⟩, ?_⟩
        refine Classical.byContradiction fun z => ?_
        have k1 : k < xs.length := by omega
        have k2 : k < ys.length := by omega
        have k3 : k < zs.length := by omega
        exact no _ _ _ (List.getElem?_eq_getElem k1) (List.getElem?_eq_getElem k2) (List.getElem?_eq_getElem k3)
      · cases e
  | keysT hi hf =>
    dsimp only at e
    split at e
    · rename_i kvs q
      split at e
      · cases e
      · rename_i q2
        cases r.obj _ _ q with
        | lT h1 h2 h3 =>
          rw [hf] at h1
          cases h1
          exact ⟨hf, by rw [← h2.length]; exact List.getElem?_eq_none_iff.mp q2⟩
    · cases e
  | keysK hi hf =>
    dsimp only at e
    split at e
    · rename_i kvs q
      split at e
      · cases e
      · rename_i q2
        cases r.obj _ _ q with
        | lK h1 h2 h3 =>
          rw [hf] at h1
          cases h1
          exact ⟨hf, by rw [← h2.length]; exact List.getElem?_eq_none_iff.mp q2⟩
    · cases e
theorem rd_get {κ κ' : Type} {ek : κ → κ'} {f : Nat → Addr} {n : Nat} {H : Hp} : ∀ {r : List (κ × PV)} {s : List (κ' × V)}, RD ek c f n H r s → ∀ (k : Nat) {p : κ × PV}, r[k]? = some p → ∃ v, s[k]? = some (ek p.1, v)
  | _, _, .nil, k, p, h => by simp at h
  | _, _, .cons hv t, 0, p, h => by
    rw [List.getElem?_cons_zero] at h
    cases h
    exact ⟨_, rfl⟩
  | _, _, .cons hv t, k + 1, p, h => by
    rw [List.getElem?_cons_succ] at h
    obtain ⟨v, e⟩ := rd_get t k h
    exact ⟨v, by rw [List.getElem?_cons_succ]; exact e⟩
theorem kT_rvs {f : Nat → Addr} {n : Nat} {H : Hp} : ∀ is : List Int, RVs c f n H (is.map PV.int) ((kT is).map kV)
  | [] => .nil
  | i :: is => .cons (.int i) (kT_rvs is)
def Yields (c : Rc) (f : Nat → Addr) (h : PH) (H : Hp) (J : It) (k : Nat) (v : PV) : Prop :=
  J.go k H ∧ ∀ x H', J.yld k H x H' → Rel c f h H' ∧ Ext f h.n H f h.n H' ∧ RV c f h.n H' v x
theorem pair_new {f : Nat → Addr} {h : PH} {H : Hp} {x y : PV} {v w : V} {T : Addr} (r : Rel c f h H) (hT : H T = none) (r1 : RV c f h.n H x v) (r2 : RV c f h.n H y w) :
    Rel c f h (upd H T (.tup [v, w])) ∧ Ext f h.n H f h.n (upd H T (.tup [v, w])) ∧ RV c f h.n (upd H T (.tup [v, w])) (.tup [x, y]) (.ref T) := by
  obtain ⟨r3, e3⟩ := r.same (same_upd (o := .tup [v, w]) hT)
  exact ⟨r3, e3, .tup upd_same (.cons (r1.mono e3) (.cons (r2.mono e3) .nil))⟩
theorem ivN_item {f : Nat → Addr} {h : PH} {H : Hp} {iv : IV} {J : It} {k : Nat} {v : PV} (r : Rel c f h H) (j : JOk c f h.n H iv J) (e : ivN iv k h = .item v) : Yields c f h H J k v := by
  unfold ivN at e
  cases j with
  | lst hi =>
    dsimp only at e
    split at e
    · rename_i xs q
      obtain ⟨vs, h1, h2⟩ := seqL_ref r hi q
      unfold pick at e
      split at e
      · rename_i q2
        cases e
        obtain ⟨w, e1, r1⟩ := h2.get _ _ q2
        refine ⟨⟨vs, w, h1, e1⟩, fun x H' ⟨z1, z2⟩ => ?_⟩
        subst z1
        have z3 := z2 vs h1
        rw [e1] at z3
        cases z3
        exact ⟨r, .refl, r1⟩
      · cases e
    · cases e
  | tup h1 h2 =>
    dsimp only at e
    unfold pick at e
    split at e
    · rename_i q2
      cases e
      obtain ⟨w, e1, r1⟩ := h2.get _ _ q2
      refine ⟨⟨_, w, SqT.of h1, e1⟩, fun x H' ⟨z1, z2⟩ => ?_⟩
      subst z1
      have z3 := z2 _ (SqT.of h1)
      rw [e1] at z3
      cases z3
      exact ⟨r, .refl, r1⟩
    · cases e
  | rng lo m =>
    dsimp only at e
    split at e
    · rename_i q
      cases e
      refine ⟨Nat.le_of_ble_eq_true q, fun x H' ⟨z1, z2⟩ => ?_⟩
      subst z1
      subst z2
      exact ⟨r, .refl, .int _⟩
    · cases e
  | enumL hi =>
    dsimp only at e
    split at e
    · rename_i xs q
      obtain ⟨vs, h1, h2⟩ := seqL_ref r hi q
      split at e
      · rename_i q2
        cases e
        obtain ⟨w, e1, r1⟩ := h2.get _ _ q2
        refine ⟨⟨vs, w, h1, e1⟩, fun x H' ⟨T, y, z1, z2, z3, z4⟩ => ?_⟩
        have z5 := z4 vs h1
        rw [e1] at z5
        cases z5
        subst z1
        subst z3
        exact pair_new r z2 (.int _) r1
      · cases e
    · cases e
  | enumT h1 h2 =>
    dsimp only at e
    split at e
    · rename_i q2
      cases e
      obtain ⟨w, e1, r1⟩ := h2.get _ _ q2
      refine ⟨⟨_, w, SqT.of h1, e1⟩, fun x H' ⟨T, y, z1, z2, z3, z4⟩ => ?_⟩
      have z5 := z4 _ (SqT.of h1)
      rw [e1] at z5
      cases z5
      subst z1
      subst z3
      exact pair_new r z2 (.int _) r1
    · cases e
  | zipL hi hj =>
    dsimp only at e
    split at e
    · rename_i xs ys q1 q2
      obtain ⟨vs, h1, h2⟩ := seqL_ref r hi q1
      obtain ⟨ws, h3, h4⟩ := seqL_ref r hj q2
      split at e
      · rename_i x y z1 z2
        cases e
        obtain ⟨v, e1, r1⟩ := h2.get _ _ z1
        obtain ⟨w, e2, r2⟩ := h4.get _ _ z2
        refine ⟨⟨vs, ws, v, w, h1, h3, e1, e2⟩, fun x H' ⟨T, x', y', g1, g2, g3, g4, g5⟩ => ?_⟩
        have g6 := g4 vs h1
        have g7 := g5 ws h3
        rw [e1] at g6
        rw [e2] at g7
        cases g6
        cases g7
        subst g1
        subst g3
        exact pair_new r g2 r1 r2
      · cases e
    · cases e
  | zipT h1 h2 h3 h4 =>
    dsimp only at e
    split at e
    · rename_i x y z1 z2
      cases e
      obtain ⟨v, e1, r1⟩ := h2.get _ _ z1
      obtain ⟨w, e2, r2⟩ := h4.get _ _ z2
      refine ⟨⟨_, _, v, w, SqT.of h1, SqT.of h3, e1, e2⟩, fun x H' ⟨T, x', y', g1, g2, g3, g4, g5⟩ => ?_⟩
      have g6 := g4 _ (SqT.of h1)
      have g7 := g5 _ (SqT.of h3)
      rw [e1] at g6
      rw [e2] at g7
      cases g6
      cases g7
      subst g1
      subst g3
      exact pair_new r g2 r1 r2
    · cases e
  | zipT3 h1 h2 h3 h4 h5 h6 =>
    dsimp only at e
    split at e
    · rename_i x y z z1 z2 z3
      cases e
      obtain ⟨v, e1, r1⟩ := h2.get _ _ z1
      obtain ⟨w, e2, r2⟩ := h4.get _ _ z2
      obtain ⟨u, e3, r3⟩ := h6.get _ _ z3
      refine ⟨⟨_, _, _, v, w, u, ⟨SqT.of h1, SqT.of h3, SqT.of h5⟩, e1, e2, e3⟩, fun x H' ⟨T, x', y', z', g1, g2, g3, g4, g5, g6⟩ => ?_⟩
      have g7 := g4 _ (SqT.of h1)
      have g8 := g5 _ (SqT.of h3)
      have g9 := g6 _ (SqT.of h5)
      rw [e1] at g7
      rw [e2] at g8
      rw [e3] at g9
      cases g7
      cases g8
      cases g9
      subst g1
      subst g3
      obtain ⟨r4, e4⟩ := r.same (same_upd (o := .tup [v, w, u]) g2)
      exact ⟨r4, e4, .tup upd_same (.cons (r1.mono e4) (.cons (r2.mono e4) (.cons (r3.mono e4) .nil)))⟩
    · split at e <;> cases e
  | keysT hi hf =>
    dsimp only at e
    split at e
    · rename_i kvs q
      split at e
      · rename_i p q2
        cases e
        cases r.obj _ _ q with
        | lT h1 h2 h3 =>
          rw [hf] at h1
          cases h1
          obtain ⟨v, hv⟩ := rd_get h2 k q2
          refine ⟨⟨hf, (List.getElem?_eq_some_iff.mp hv).1⟩, fun x H' ⟨z1, ks, v', b, z2, z3, z4⟩ => ?_⟩
          subst z1
          subst z3
          rw [hv] at z2
          cases z2
          exact ⟨r, .refl, .tup z4 (kT_rvs p.1)⟩
      · cases e
    · cases e
  | keysK hi hf =>
    dsimp only at e
    split at e
    · rename_i kvs q
      split at e
      · rename_i p q2
        cases e
        cases r.obj _ _ q with
        | lK h1 h2 h3 =>
          rw [hf] at h1
          cases h1
          obtain ⟨v, hv⟩ := rd_get h2 k q2
          refine ⟨⟨hf, (List.getElem?_eq_some_iff.mp hv).1⟩, fun x H' ⟨z1, ks, v', z2, z3⟩ => ?_⟩
          subst z1
          subst z3
          rw [hv] at z2
          cases z2
          exact ⟨r, .refl, .int p.1⟩
      · cases e
    · cases e
def tI (c : Rc) (ev : PSt → PH → R IV) : TI := fun σ H R' => ∃ f h st, Rel c f h H ∧ RSt c f h.n H st σ ∧ Post c f h.n H (ev st h) (fun f' h' H' iv => ∀ J, JOk c f' h'.n H' iv J → R' J H')
theorem i_over {tg : Expr} (hK : X.K = c.K) (he : PE X e (tE c (rec ce))) : PI X tg e (tI c (evI rec (.over ce))) := by
  refine ⟨fun pins s σ H R' I ⟨f, h, st, r, rs, p⟩ => ?_⟩
  unfold evI at p
  dsimp only at p
  split at p
  · rename_i i h1 e1
    split at p
    · rename_i xs e2
      refine (pi_list he).run pins s σ H R' I (tE_of e1 r rs fun f1 H1 x x1 r1 rs1 rv1 => ?_)
      cases rv1 with
      | ref hi =>
        obtain ⟨vs, h2, _⟩ := seqL_ref r1 hi e2
        rw [hK]
        exact ⟨_, rfl, ⟨vs, h2⟩, p _ _ x1 r1 _ (.lst hi)⟩
    · exact p.elim
  · rename_i xs h1 e1
    refine (pi_tup he).run pins s σ H R' I (tE_of e1 r rs fun f1 H1 x x1 r1 rs1 rv1 => ?_)
    cases rv1 with
    | tup a1 a2 =>
      rw [hK]
      exact ⟨_, rfl, ⟨_, SqT.of a1⟩, p _ _ x1 r1 _ (.tup a1 a2)⟩
  · exact p.elim
theorem i_keys {tg it : Expr} (hp : ∀ td, PE X e td → PI X tg it (iKeysMT td)) (hk : ∀ td, PE X e td → PI X tg it (iKeysM td)) (he : PE X e (tE c (rec ce))) : PI X tg it (tI c (evI rec (.keys ce))) := by
  refine ⟨fun pins s σ H R' I ⟨f, h, st, r, rs, p⟩ => ?_⟩
  unfold evI at p
  dsimp only at p
  split at p
  · rename_i i h1 e1
    split at p
    · rename_i kvs e2
      refine (hp _ he).run pins s σ H R' I (tE_of e1 r rs fun f1 H1 x x1 r1 rs1 rv1 => ?_)
      cases rv1 with
      | ref hi =>
        cases r1.obj _ _ e2 with
        | lT h1 h2 h3 => exact ⟨_, _, _, rfl, h1, p _ _ x1 r1 _ (.keysT hi h1)⟩
    · rename_i kvs e2
      refine (hk _ he).run pins s σ H R' I (tE_of e1 r rs fun f1 H1 x x1 r1 rs1 rv1 => ?_)
      cases rv1 with
      | ref hi =>
        cases r1.obj _ _ e2 with
        | lK h1 h2 h3 => exact ⟨_, _, _, rfl, h1, p _ _ x1 r1 _ (.keysK hi h1)⟩
    · exact p.elim
  · exact p.elim
theorem i_rng1 {tg : Expr} {p pos : Pos} (hg : Gl X "range") (hm : X.mg "range" = none) (hs : noStar e = true) (he : PE X e (tE c (rec ce))) : PI X tg (.Call (.Name "range" p) [e] [] pos) (tI c (evI rec (.rng1 ce))) := by
  refine ⟨fun pins s σ H R' I ⟨f, h, st, r, rs, p⟩ => ?_⟩
  unfold evI at p
  dsimp only at p
  split at p
  · rename_i j h1 e1
    split at p
    · rename_i e2
      simp only [Bool.and_eq_true, decide_eq_true_eq] at e2
      refine (pi_range1 hg hm (pa_cons he pa_nil (star_of hs _ _)) (star_of hs _ _)).run pins s σ H R' I (tE_of e1 r rs fun f1 H1 x x1 r1 rs1 rv1 => ?_)
      cases rv1
      exact ⟨j, rfl, by omega, by omega, p _ _ x1 r1 _ (.rng _ _)⟩
    · exact p.elim
  · exact p.elim
theorem i_rng2 {tg : Expr} {p pos : Pos} (hg : Gl X "range") (hm : X.mg "range" = none) (hsa : noStar a = true) (hsb : noStar b = true) (ha : PE X a (tE c (rec ca))) (hb : PE X b (tE c (rec cb))) : PI X tg (.Call (.Name "range" p) [a, b] [] pos) (tI c (evI rec (.rng2 ca cb))) := by
  refine ⟨fun pins s σ H R' I ⟨f, h, st, r, rs, p⟩ => ?_⟩
  unfold evI at p
  dsimp only at p
  split at p
  · rename_i i h1 e1
    split at p
    · rename_i j h2 e3
      split at p
      · rename_i e2
        simp only [Bool.and_eq_true, decide_eq_true_eq] at e2
        have z1 : starEach [a, b] X.env = [(false, eval a X.env), (false, eval b X.env)] := by rw [star_of hsa, star_of hsb]; rfl
        refine (pi_range2 hg hm (pa_cons ha (pa_cons hb pa_nil (star_of hsb _ _)) (star_of hsa _ _)) z1 (star_of hsb _ _)).run pins s σ H R' I (tE_of e1 r rs fun f1 H1 x x1 r1 rs1 rv1 => tE_of e3 r1 rs1 fun f2 H2 y x2 r2 rs2 rv2 => ?_)
        cases rv1
        cases rv2
        exact ⟨i, j, rfl, ⟨by omega, by omega, by omega, by omega⟩, p _ _ (x1.trans x2) r2 _ (.rng _ _)⟩
      · exact p.elim
    · exact p.elim
  · exact p.elim
theorem rvs_intf {f : Nat → Addr} {k : Nat} {H : Hp} (g : Nat → Int) : ∀ l : List Nat, RVs c f k H (l.map fun j => PV.int (g j)) (l.map fun j => V.int (g j))
  | [] => .nil
  | j :: l => .cons (.int _) (rvs_intf g l)
theorem s_lrg {p pos p2 pos2 : Pos} (hc : X.calm = true) (hgl : Gl X "list") (hml : X.mg "list" = none) (hg : Gl X "range") (hm : X.mg "range" = none) (hsa : noStar a = true) (hsb : noStar b = true) (ha : PE X a (tE c (rec ca))) (hb : PE X b (tE c (rec cb))) :
    PE X (.Call (.Name "list" p) [.Call (.Name "range" p2) [a, b] [] pos2] [] pos) (tE c (eLrg rec ca cb)) := by
  refine pe_w (pe_listRg hc hgl hml (prg_2 hg hm ha hb (star_of hsa _ _) (star_of hsb _ _) (by rw [star_of hsb]; rfl)) rfl) fun σ H Q ⟨f, h, st, r, rs, p⟩ => ?_
  unfold eLrg at p
  split at p
  · rename_i i h1 e1
    refine tE_of e1 r rs fun f1 H1 x x1 r1 rs1 rv1 => ?_
    split at p
    · rename_i j h2 e3
      refine tE_of e3 r1 rs1 fun f2 H2 y x2 r2 rs2 rv2 => ?_
      split at p
      · rename_i e2
        simp only [Bool.and_eq_true, decide_eq_true_eq] at e2
        cases rv1
        cases rv2
        obtain ⟨z, k1⟩ := okL_at (vs := rgV i j) r2 (rvs_intf _ _) (p.mono (x1.trans x2))
        exact ⟨i, j, rfl, rfl, ⟨by omega, by omega, by omega, by omega, by omega⟩, k1⟩
      · exact p.elim
    · exact p.elim
  · exact p.elim
theorem s_lrg1 {p pos p2 pos2 : Pos} (hc : X.calm = true) (hgl : Gl X "list") (hml : X.mg "list" = none) (hg : Gl X "range") (hm : X.mg "range" = none) (hsb : noStar b = true) (hb : PE X b (tE c (rec cb))) :
    PE X (.Call (.Name "list" p) [.Call (.Name "range" p2) [b] [] pos2] [] pos) (tE c (eLrg1 rec cb)) := by
  refine pe_w (pe_listRg hc hgl hml (prg_1 hg hm hb (star_of hsb _ _)) rfl) fun σ H Q ⟨f, h, st, r, rs, p⟩ => ?_
  unfold eLrg1 at p
  split at p
  · rename_i j h2 e3
    refine tE_of e3 r rs fun f2 H2 y x2 r2 rs2 rv2 => ?_
    split at p
    · rename_i e2
      simp only [Bool.and_eq_true, decide_eq_true_eq] at e2
      cases rv2
      obtain ⟨z, k1⟩ := okL_at (vs := rgV 0 j) r2 (rvs_intf _ _) (p.mono x2)
      exact ⟨j, rfl, ⟨by omega, by omega, by omega, by omega, by omega⟩, k1⟩
    · exact p.elim
  · exact p.elim
theorem s_trg {p pos p2 pos2 : Pos} (hc : X.calm = true) (hgl : Gl X "tuple") (hml : X.mg "tuple" = none) (hg : Gl X "range") (hm : X.mg "range" = none) (hsb : noStar b = true) (hb : PE X b (tE c (rec cb))) :
    PE X (.Call (.Name "tuple" p) [.Call (.Name "range" p2) [b] [] pos2] [] pos) (tE c (eTrg rec cb)) := by
  refine pe_w (pe_tupRg hc hgl hml (prg_1 hg hm hb (star_of hsb _ _)) rfl) fun σ H Q ⟨f, h, st, r, rs, p⟩ => ?_
  unfold eTrg at p
  split at p
  · rename_i j h2 e3
    refine tE_of e3 r rs fun f2 H2 y x2 r2 rs2 rv2 => ?_
    split at p
    · rename_i e2
      simp only [Bool.and_eq_true, decide_eq_true_eq] at e2
      cases rv2
      obtain ⟨z, k1, _⟩ := okT_at (vs := rgV 0 j) r2 (rvs_intf _ _) (p.mono x2)
      exact ⟨j, rfl, ⟨by omega, by omega, by omega, by omega, by omega⟩, k1⟩
    · exact p.elim
  · exact p.elim
theorem s_trg3 {p pos p2 pos2 : Pos} (hc : X.calm = true) (hgl : Gl X "tuple") (hml : X.mg "tuple" = none) (hg : Gl X "range") (hm : X.mg "range" = none) (hsa : noStar a = true) (hsb : noStar b = true) (hsd : noStar d = true) (ha : PE X a (tE c (rec ca))) (hb : PE X b (tE c (rec cb))) (hd : PE X d (tE c (rec cd))) :
    PE X (.Call (.Name "tuple" p) [.Call (.Name "range" p2) [a, b, d] [] pos2] [] pos) (tE c (eTrg3 rec ca cb cd)) := by
  refine pe_w (pe_rg3T hc hgl hml hg hm (pa_cons ha (pa_cons hb (pa_cons hd pa_nil (star_of hsd _ _)) (star_of hsb _ _)) (star_of hsa _ _)) (star_of hsa _ _) (by rw [star_of hsb, star_of hsd]; rfl)) fun σ H Q ⟨f, h, st, r, rs, p⟩ => ?_
  unfold eTrg3 at p
  split at p
  · rename_i i h1 e1
    split at p
    · rename_i j h2 e2
      split at p
      · rename_i k h3 e3
        refine tE_of e1 r rs fun f1 H1 u x1 r1 rs1 rv1 => tE_of e2 r1 rs1 fun f2 H2 v x2 r2 rs2 rv2 => tE_of e3 r2 rs2 fun f3 H3 w x3 r3 rs3 rv3 => ?_
        split at p
        · rename_i e4
          simp only [Bool.and_eq_true, decide_eq_true_eq] at e4
          cases rv1
          cases rv2
          cases rv3
          have ev : rgP3 i j k = (List.range (rg3N i j k)).map fun m => PV.int (i + (m : Nat) * k) := by
            unfold rgP3 rgN3 rg3N
            by_cases z : i < j
            · rw [decide_eq_true z, if_pos z]
            · rw [decide_eq_false z, if_neg z]
          rw [ev] at p
          obtain ⟨z, k1, _⟩ := okT_at (vs := rg3V i j k) r3 (rvs_intf _ _) (p.mono ((x1.trans x2).trans x3))
          exact ⟨i, j, k, rfl, ⟨e4.1.1, e4.1.2, e4.2.1.1, e4.2.1.2, e4.2.2.1, e4.2.2.2⟩, k1⟩
        · exact p.elim
      · exact p.elim
    · exact p.elim
  · exact p.elim
theorem i_zip3 {p pos tpos : Pos} {elts : List Expr} {kk : Nat} (hK : X.K = c.K) (hg : Gl X "zip") (hm : X.mg "zip" = none) (hsa : noStar a = true) (hsb : noStar b = true) (hsd : noStar d = true) (ha : PE X a (tE c (rec ca))) (hb : PE X b (tE c (rec cb))) (hd : PE X d (tE c (rec cd))) :
    PI X (.Tuple elts kk tpos) (.Call (.Name "zip" p) [a, b, d] [] pos) (tI c (evI rec (.zip3 ca cb cd))) := by
  refine ⟨fun pins s σ H R' I ⟨f, h, st, r, rs, p⟩ => ?_⟩
  unfold evI at p
  dsimp only at p
  split at p
  · rename_i x h1 e1
    split at p
    · rename_i y h2 e2
      split at p
      · rename_i z h3 e3
        refine (pi_zip3 hg hm (pa_cons ha (pa_cons hb (pa_cons hd pa_nil (star_of hsd _ _)) (star_of hsb _ _)) (star_of hsa _ _)) (star_of hsa _ _) (by rw [star_of hsb, star_of hsd]; rfl)).run pins s σ H R' I (tE_of e1 r rs fun f1 H1 u x1 r1 rs1 rv1 => tE_of e2 r1 rs1 fun f2 H2 v x2 r2 rs2 rv2 => tE_of e3 r2 rs2 fun f3 H3 w x3 r3 rs3 rv3 => ?_)
        have rw1 := rv1.mono (x2.trans x3)
        have rw2 := rv2.mono x3
        rw [hK]
        split at p
        · cases rw1 with
          | tup a1 a2 =>
            cases rw2 with
            | tup b1 b2 =>
              cases rv3 with
              | tup d1 d2 => exact ⟨_, _, _, _, _, _, rfl, ⟨SqT.of a1, SqT.of b1, SqT.of d1⟩, p _ _ ((x1.trans x2).trans x3) r3 _ (.zipT3 a1 a2 b1 b2 d1 d2)⟩
        · exact p.elim
      · exact p.elim
    · exact p.elim
  · exact p.elim
theorem i_zip {p pos tpos : Pos} {elts : List Expr} {kk : Nat} (hK : X.K = c.K) (hg : Gl X "zip") (hm : X.mg "zip" = none) (hsa : noStar a = true) (hsb : noStar b = true) (ha : PE X a (tE c (rec ca))) (hb : PE X b (tE c (rec cb))) :
    PI X (.Tuple elts kk tpos) (.Call (.Name "zip" p) [a, b] [] pos) (tI c (evI rec (.zip ca cb))) := by
  refine ⟨fun pins s σ H R' I ⟨f, h, st, r, rs, p⟩ => ?_⟩
  unfold evI at p
  dsimp only at p
  split at p
  · rename_i x h1 e1
    split at p
    · rename_i y h2 e2
      refine (RZ.pi_zipA hg hm (pa_cons ha (pa_cons hb pa_nil (star_of hsb _ _)) (star_of hsa _ _)) (star_of hsa _ _) (by rw [star_of hsb]; rfl)).run pins s σ H R' I (tE_of e1 r rs fun f1 H1 v x1 r1 rs1 rv1 => tE_of e2 r1 rs1 fun f2 H2 w x2 r2 rs2 rv2 => ?_)
      have rv3 := rv1.mono x2
      rw [hK]
      split at p
      · split at p
        · rename_i q1 q2
          cases rv3 with
          | ref hi =>
            cases rv2 with
            | ref hj =>
              obtain ⟨vs, g1, _⟩ := seqL_ref r2 hi q1
              obtain ⟨ws, g2, _⟩ := seqL_ref r2 hj q2
              exact ⟨_, _, vs, ws, rfl, .inl ⟨g1, g2, p _ _ (x1.trans x2) r2 _ (.zipL hi hj)⟩⟩
        · exact p.elim
      · cases rv3 with
        | tup a1 a2 =>
          cases rv2 with
          | tup b1 b2 => exact ⟨_, _, _, _, rfl, .inr ⟨SqT.of a1, SqT.of b1, p _ _ (x1.trans x2) r2 _ (.zipT a1 a2 b1 b2)⟩⟩
      · exact p.elim
    · exact p.elim
  · exact p.elim
theorem wipe_comm {σ : L2.St} {i : Nat} {v : Option V} : ∀ {vs : List Nat}, i ∉ vs → L2.wipe (σ.set i v) vs = (L2.wipe σ vs).set i v
  | [], _ => rfl
  | j :: vs, h => by
    have h1 : i ≠ j := fun z => h (by rw [z]; exact List.mem_cons_self)
    have h2 : i ∉ vs := fun z => h (List.mem_cons_of_mem _ z)
    unfold L2.wipe
    rw [wipe_comm h2, List.set_comm _ _ h1]
theorem wipe_set {σ : L2.St} {i : Nat} {v : Option V} : ∀ {vs : List Nat}, i ∈ vs → L2.wipe (σ.set i v) vs = L2.wipe σ vs
  | j :: vs, h => by
    unfold L2.wipe
    by_cases hi : i ∈ vs
    · rw [wipe_set hi]
    · rw [wipe_comm hi]
      rcases List.mem_cons.mp h with z | z
      · subst z
        rw [List.set_set]
      · exact absurd z hi
def tT (c : Rc) (t : CT) : TG := fun v σ H Q => ∃ f h st x st', Rel c f h H ∧ RSt c f h.n H st σ ∧ RV c f h.n H x v ∧ asgA t x st h = some st' ∧ ∀ σ', RSt c f h.n H st' σ' → (∀ vs, tgIn t vs = true → L2.wipe σ' vs = L2.wipe σ vs) → Q σ' H
def tTs (c : Rc) (ts : List CT) : TGs := fun ws σ H Q => ∃ f h st xs st', Rel c f h H ∧ RSt c f h.n H st σ ∧ RVs c f h.n H xs ws ∧ asgTs ts xs st = some st' ∧ ∀ σ', RSt c f h.n H st' σ' → (∀ vs, tgsIn ts vs = true → L2.wipe σ' vs = L2.wipe σ vs) → Q σ' H
theorem pg_w {tg : Expr} {t t' : TG} (h : PG X tg t) (k : ∀ v σ H Q, t' v σ H Q → t v σ H Q) : PG X tg t' := ⟨fun pins s σ H v u Q I r q => h.run pins s σ H v u Q I r (k v σ H Q q)⟩
theorem pgs_w {tgs : List Expr} {t t' : TGs} (h : PGs X tgs t) (k : ∀ v σ H Q, t' v σ H Q → t v σ H Q) : PGs X tgs t' := ⟨fun pins s σ H v u Q I r q => h.run pins s σ H v u Q I r (k v σ H Q q)⟩
theorem g_nm {i : Nat} {x : Str} (hN : X.N.Nodup) (hi : X.N[i]? = some x) (hx : Loc X.env.scope x) (hf : X.fn x = true ∨ X.env.scope.names.lookup x = some .local) : PG X (.Name x pos) (tT c (.nm i)) :=
  pg_w (pg_name hN hi hx hf) fun v σ H Q ⟨f, h, st, x, st', r, rs, rv, e, q⟩ => by
    cases e
    refine q _ (rs.set i rv) fun vs hv => wipe_set ?_
    exact List.mem_of_elem_eq_true hv
inductive PTgs (X : Cx) (c : Rc) : List Expr → List CT → Prop where
  | nil : PTgs X c [] []
  | cons {e : Expr} {t : CT} {es : List Expr} {ts : List CT} : noStar e = true → PG X e (tT c t) → PTgs X c es ts → PTgs X c (e :: es) (t :: ts)
theorem aeach_of {e : Expr} (h : noStar e = true) (rest : List Expr) (env : Env) : assignEach (e :: rest) env = (false, assign e env) :: assignEach rest env := by
  cases e <;> first | rfl | (cases h; done)
theorem PTgs.shape {es : List Expr} {ts : List CT} (h : PTgs X c es ts) (env : Env) : (assignEach es env).length = es.length ∧ (assignEach es env).findIdx? (·.1) = none ∧ es.length = ts.length := by
  induction h with
  | nil => exact ⟨rfl, rfl, rfl⟩
  | cons hs _ _ ih =>
    rw [aeach_of hs]
    refine ⟨congrArg (· + 1) ih.1, ?_, congrArg (· + 1) ih.2.2⟩
    rw [List.findIdx?_cons, ih.2.1]
    rfl
theorem asgTs_len : ∀ {ts : List CT} {xs : List PV} {st st' : PSt}, asgTs ts xs st = some st' → ts.length = xs.length
  | [], [], _, _, _ => rfl
  | t :: ts, x :: xs, st, st', e => by
    unfold asgTs at e
    split at e
    · rw [List.length_cons, List.length_cons, asgTs_len e]
    · cases e
  | [], _ :: _, _, _, e => by unfold asgTs at e; cases e
  | _ :: _, [], _, _, e => by unfold asgTs at e; cases e
theorem gs_of : ∀ {es : List Expr} {ts : List CT}, PTgs X c es ts → PGs X es (tTs c ts)
  | [], [], .nil => pgs_w pgs_nil fun ws σ H Q ⟨f, h, st, xs, st', r, rs, rv, e, q⟩ => by
    cases rv with
    | nil =>
      unfold asgTs at e
      cases e
      exact ⟨rfl, q _ rs fun _ _ => rfl⟩
    | cons _ _ => unfold asgTs at e; cases e
  | e :: es, t :: ts, .cons hs he ht => by
    refine pgs_w (pgs_cons he (gs_of ht) (by rw [aeach_of hs]; rfl)) fun ws σ H Q ⟨f, h, st, xs, st', r, rs, rv, e, q⟩ => ?_
    cases rv with
    | nil => unfold asgTs at e; cases e
    | cons rv1 rvs =>
      unfold asgTs at e
      split at e
      · rename_i st1 e1
        refine ⟨_, _, rfl, f, h, st, _, st1, r, rs, rv1, asgA_of e1, fun σ1 rs1 w1 => ?_⟩
        refine ⟨f, h, st1, _, st', r, rs1, rvs, e, fun σ2 rs2 w2 => q σ2 rs2 fun vs hv => ?_⟩
        unfold tgsIn at hv
        rw [Bool.and_eq_true] at hv
        exact (w2 vs hv.2).trans (w1 vs hv.1)
      · cases e
theorem pg_alt {tg : Expr} {t u : TG} (h1 : PG X tg t) (h2 : PG X tg u) : PG X tg (fun v σ H Q => t v σ H Q ∨ u v σ H Q) := ⟨fun pins s σ H v u' Q I r q => by
  rcases q with q | q
  · exact h1.run pins s σ H v u' Q I r q
  · exact h2.run pins s σ H v u' Q I r q⟩
theorem g_tup {es : List Expr} {ts : List CT} {k : Nat} (hK : X.K = c.K) (hc : X.calm = true) (h : PTgs X c es ts) : PG X (.Tuple es k pos) (tT c (.tup ts)) := by
  obtain ⟨z1, z2, z3⟩ := h.shape X.env
  refine pg_w (pg_alt (pg_tup (n := es.length) hc (gs_of h) z1 z2) (pg_unl (n := es.length) hc (gs_of h) z1 z2)) fun v σ H Q ⟨f, h, st, x, st', r, rs, rv, e, q⟩ => ?_
  unfold asgA at e
  split at e
  · rename_i s e0
    cases e
    unfold asgT at e0
    split at e0
    · cases rv with
      | tup a1 a2 =>
        rw [hK]
        refine .inl ⟨_, _, rfl, SqT.of a1, ?_, f, h, st, _, st', r, rs, a2, e0, fun σ' rs' w => q σ' rs' fun vs hv => w vs ?_⟩
        · rw [← a2.length, ← asgTs_len e0, z3]
        · unfold tgIn at hv
          exact hv
    · cases e0
  · unfold asgL at e
    dsimp only at e
    split at e
    · split at e
      · rename_i i xs e1
        obtain ⟨a, vs, rfl, hs, rv2⟩ := seqL_at r rv e1
        rw [← hK] at hs
        refine .inr ⟨_, _, rfl, hs, ?_, f, h, st, _, st', r, rs, rv2, e, fun σ' rs' w => q σ' rs' fun vs hv => w vs ?_⟩
        · rw [← rv2.length, ← asgTs_len e, z3]
        · unfold tgIn at hv
          exact hv
      · cases e
    · cases e
end
end Pyx

namespace Pyx
open PySem PySem.Spec PyProof.Rows L2
def enumO (it : Addr) : Obj := { cls := .type "enumerate", data := .fields #[.none, .bool false, .ref it, rawInt 0, .none, .none] }
theorem enum_new1 {v : Value} {o : Obj} {HH : Heap → Prop} (B : Begins v o HH) :
    Meets (Builtin.«enumerate.__new__» ⟨[.type "enumerate", v], []⟩) (fun _ R s => HH s.heap ∧ R (.ok (.ret (.ref (s.heap.push o).objs.size))) { s with heap := (s.heap.push o).push (enumO s.heap.objs.size) }) :=
  .of_wp fun prog w A R s hh => by
    obtain ⟨hp, g, d, tk, os⟩ := s
    obtain ⟨h1, h2⟩ := hh
    have e1 := sub_enumerate
    have q1 : ∀ {A' : Around} {E : Value → Shared → Prop} {Q : Value → Shared → Prop}, Q (.ref hp.objs.size) ⟨hp.push o, g, d, tk, os⟩ → wpAny (model prog w) A' (pyIter v) Q E ⟨hp, g, d, tk, os⟩ := fun q =>
      B.iter prog w _ _ ⟨hp, g, d, tk, os⟩ _ h1 q
    wp_walk using q1
    refine wpAny_stack_any fun st => wpAny_pure ?_
    split <;> first | (wp_walk using q1; exact ⟨_, rfl, h2⟩) | (rename_i z _ _ _ _ _; cases (z == Value.type "enumerate") <;> (wp_walk using q1; exact ⟨_, rfl, h2⟩))
theorem call_enum1 {prog : Program} {w : World} {A : Around} {E : Value → Shared → Prop} {s : Shared} {v : Value} {o : Obj} {HH : Heap → Prop} {Q : Value → Shared → Prop} (B : Begins v o HH) (h1 : HH s.heap)
    (h : ∀ h', IsEnum h' (s.heap.objs.size + 1) s.heap.objs.size 0 .none → h'.get? s.heap.objs.size = some o → (∀ b u, s.heap.get? b = some u → h'.get? b = some u) → Q (.ref (s.heap.objs.size + 1)) { s with heap := h' }) :
    wpAny (model prog w) A (call (.type "enumerate") [v]) Q E s := by
  refine callType_new F.called_enumerate (by decide) (F.typeCall_enumerate_1 _) (F.newCall_enumerate_1 _) (fun obj => F.args_object_init_2 obj _) F.entry_enumerate_new (enum_new1 B) ⟨h1, ?_⟩
  have z : (s.heap.push o).objs.size = s.heap.objs.size + 1 := Heap.size_push ..
  show _ ∧ _
  rw [z]
  have e : IsEnum ((s.heap.push o).push (enumO s.heap.objs.size)) (s.heap.objs.size + 1) s.heap.objs.size 0 .none := by
    have q := Heap.get?_push_size (s.heap.push o) (o := enumO s.heap.objs.size) rfl
    rw [z] at q
    exact q
  have f0 : (s.heap.push o).get? s.heap.objs.size = some o := Heap.get?_push_size _ B.free
  exact ⟨⟨_, e, rfl⟩, h _ e (Heap.get?_push_of_some _ f0) fun b u q => Heap.get?_push_of_some _ (Heap.get?_push_of_some _ q)⟩
theorem turn_enumT {P : Program} {w : World} {K : PySem.W.Frag} {elts : List Expr} {kk : Nat} {tpos : Pos} (a e it : Addr) :
    Turn P w K (.Tuple elts kk tpos) (IteT K a) [e, it] e (fun i h => (∃ old, IsEnum h e it ((i : Nat) : Int) old) ∧ h.IsTupleIter it a i ∧ e ≠ it ∧ a ≠ it ∧ a ≠ e) where
  mem := List.mem_cons_self
  obj := fun i h st b hb => by
    obtain ⟨⟨old, he⟩, ⟨o, ho, hc, hd⟩, _⟩ := st
    rcases List.mem_cons.mp hb with z | z
    · subst z
      exact ⟨_, he, fun v q => by cases q⟩
    · have z : b = it := by simpa using z
      exact ⟨o, by rw [z]; exact ho, fun v q => by rw [hd] at q; cases q⟩
  keep := fun i h h' st k => by
    obtain ⟨⟨old, he⟩, hi, n1, n2, n3⟩ := st
    exact ⟨⟨old, k e List.mem_cons_self _ he⟩, hi.at fun o q => k it (by simp) o q, n1, n2, n3⟩
  item := by
    intro X hP hw hK hc i pins s σ H E I hf st hg
    subst hP hw hK
    obtain ⟨⟨old, he⟩, hit, hne, n2, n3⟩ := st
    obtain ⟨xs, x, hq, hx⟩ := hg
    obtain ⟨its, rv, p, hz⟩ := I.tuple hq
    obtain ⟨u, hu, ru⟩ := rv.get hx
    have le : e < s.heap.objs.size := Heap.lt_size he
    have li : it < s.heap.objs.size := by
      obtain ⟨_, q, _⟩ := hit
      exact Heap.lt_size q
    have hlen : i < its.toArray.size := by
      have z := (List.getElem?_eq_some_iff.mp hu).1
      simpa using z
    have hh : X.A.in1.handled = none := by simp [I.ok.hd hc]
    have D := Draws.tuple (prog := X.prog) (w := X.w) (A := X.A.in1) hh it a n2 its.toArray
    refine wpAny_pyNext_enum_itemD D he ⟨hit, p⟩ hlen hne (by simp; exact ⟨hne, Ne.symm n3⟩) fun y h' tk hy ho hst hT hsz hk => ?_
    have ey : y = u := by
      have z : its.toArray[i]? = some y := hy
      have z2 : its[i]? = some y := by simpa using z
      rw [hu] at z2
      exact (Option.some.inj z2).symm
    subst ey
    refine ⟨_, rfl, wpAny_letOwnedTupleGo_enum (s := { s with heap := h', toks := tk + 1 }) ho fun h2 he2 sb => ?_⟩
    have hT2 : h2.get? s.heap.objs.size = some { cls := .type "tuple", data := .seq #[.int i tk, y] } := (sb.2 _ (Nat.ne_of_gt le)).trans hT
    have new : ObjOk X.prog X.w (upd H s.heap.objs.size (.tup [.int (i : Nat), x])) h2 s.heap.objs.size (.tup [.int (i : Nat), x]) :=
      ⟨(by show 2 ≤ sizeLine; rw [sizeLine_eq]; decide), [.int i tk, y], .cons ⟨_, rfl⟩ (.cons ru .nil), ⟨_, hT2, rfl, _, rfl⟩⟩
    have I2 : L2.Inv X pins σ (upd H s.heap.objs.size (.tup [.int (i : Nat), x])) { s with heap := h2, toks := tk + 1 } :=
      I.turnedNew (ch := [e, it]) (fun b ob hb q => by
        have b1 : b ≠ e := fun z => hb (by simp [z])
        have b2 : b ≠ it := fun z => hb (by simp [z])
        exact (sb.2 b b1).trans (hk b ob b1 b2 q)) hf (Nat.le_refl _) new
    refine ⟨.ref s.heap.objs.size, _, I2, rfl, ⟨_, x, rfl, I.hok.fresh (Nat.le_refl _), rfl, fun ys hy => by rw [I.tuple_inj hy hq]; exact hx⟩, ⟨⟨y, ?_⟩, hst.1.at fun o q => (sb.2 it (Ne.symm hne)).trans q, hne, n2, n3⟩, fun b hb => ?_⟩
    · have e1 : ((i + 1 : Nat) : Int) = (i : Int) + 1 := by omega
      rw [e1]
      exact he2
    · have lb : b < s.heap.objs.size := by
        rcases List.mem_cons.mp hb with z | z
        · rw [z]; exact le
        · have z : b = it := by simpa using z
          rw [z]; exact li
      rw [upd_ne (Nat.ne_of_lt lb)]
      exact (hf b hb).1
  done := by
    intro X hP hw hK hc i pins s σ H E I hf st hg
    subst hP hw hK
    obtain ⟨⟨old, he⟩, hit, hne, n2, n3⟩ := st
    obtain ⟨xs, hq, hx⟩ := hg
    obtain ⟨its, rv, p, hz⟩ := I.tuple hq
    obtain ⟨f0, f1, f2, f3, f4, f5⟩ := hf it (by simp)
    have hl := rv.length
    have hh : X.A.in1.handled = none := by simp [I.ok.hd hc]
    have hx2 : its.toArray[i]? = none := by
      rw [Array.getElem?_eq_none]
      simp
      omega
    have D : Draws X.prog X.w X.A.in1 it [it, a] i (fun _ _ => False) (fun k h => k = i ∧ h.IsTupleIter it a i ∧ h.IsTuple a its.toArray) :=
      ⟨fun k h st => let ⟨o, ho, _⟩ := st.2.1; ⟨o, ho⟩, fun k h h' st hk => ⟨st.1, st.2.1.at fun o q => hk it (by simp) o q, st.2.2.at fun o q => hk a (by simp) o q⟩,
        fun k s Q E hk st _ => absurd st.1 (Nat.ne_of_lt hk), fun s Q E st hE => wpAny_nextOf_tuple_end hh st.2.1 st.2.2 hx2 hE⟩
    exact wpAny_pyNext_enum_endD D he ⟨rfl, hit, p⟩ fun h' eb => ⟨rfl, I.turned (t' := s.toks) (fun b o hb q => eb b o hb q) f0 f1 f3 f4 f5⟩
  self := fun A i s Q E st h => by
    obtain ⟨⟨_, he⟩, _⟩ := st
    exact wpAny_pyIter_enum he h
section
variable {X : Cx} {c : Rc} {rec : CE → PSt → PH → R PV} {e : Expr} {ce : CE}
theorem i_enum {p pos tpos : Pos} {elts : List Expr} {kk : Nat} (hK : X.K = c.K) (hg : Gl X "enumerate") (hm : X.mg "enumerate" = none) (hs : noStar e = true) (he : PE X e (tE c (rec ce))) :
    PI X (.Tuple elts kk tpos) (.Call (.Name "enumerate" p) [e] [] pos) (tI c (evI rec (.enum ce))) := by
  refine ⟨fun pins s σ H R' I ⟨f, h, st, r, rs, q⟩ => ?_⟩
  unfold evI at q
  dsimp only at q
  have z1 : starEach [e] X.env = [(false, eval e X.env)] := star_of hs _ _
  split at q
  · rename_i i h1 e1
    split at q
    · rename_i xs e2
      refine (pi_enum hg hm (pa_cons he pa_nil (star_of hs _ _)) z1).run pins s σ H R' I (tE_of e1 r rs fun f1 H1 x x1 r1 rs1 rv1 => ?_)
      cases rv1 with
      | ref hi =>
        obtain ⟨vs, h2, _⟩ := seqL_ref r1 hi e2
        rw [hK]
        exact ⟨_, vs, rfl, h2, q _ _ x1 r1 _ (.enumL hi)⟩
    · exact q.elim
  · rename_i xs h1 e1
    have hA : PA X [e] (tCons (tE c (rec ce)) tNil) := pa_cons he pa_nil (star_of hs _ _)
    have hrd : tCons (tE c (rec ce)) tNil σ H fun vs H1 => ∃ a ws, vs = [.ref a] ∧ H1 a = some (.tup ws) ∧ R' (IteT c.K a) H1 := tE_of e1 r rs fun f1 H1 x x1 r1 rs1 rv1 => by
      cases rv1 with
      | tup a1 a2 => exact ⟨_, _, rfl, a1, q _ _ x1 r1 _ (.enumT a1 a2)⟩
    refine Call_ (ld_blt I hg hm boot_enumerate (PyProof.Rows.callWith_type1 (thn (hA.run pos pins s σ H _ I hrd) fun us s1 ⟨vs, H1, I1, r1, q1⟩ => ?_) z1 rfl))
    obtain ⟨a, ws, ex, hq, q2⟩ := q1
    subst ex
    cases r1 with
    | cons rr rn =>
      cases rn
      cases rr
      obtain ⟨its, rv, pt, hz⟩ := I1.tuple (SqT.of (K := X.K) hq)
      refine call_enum1 (begins_tuple a its.toArray) pt fun h' he' hit hk => wpAny_pyIter_enum he' ?_
      have I2 : L2.Inv X pins σ H1 { s1 with heap := h' } := I1.kept (t' := s1.toks) hk
      have la : a < s1.heap.objs.size := by
        obtain ⟨_, q, _⟩ := pt
        exact Heap.lt_size q
      refine ⟨s1.heap.objs.size + 1, [s1.heap.objs.size + 1, s1.heap.objs.size], _, _, H1, rfl, I2, turn_enumT a (s1.heap.objs.size + 1) s1.heap.objs.size, ⟨⟨.none, he'⟩, ⟨_, hit, rfl, rfl⟩, Nat.succ_ne_self _, Nat.ne_of_lt la, Nat.ne_of_lt (Nat.lt_succ_of_lt la)⟩, fun b hb => ?_, by rw [hK]; exact q2⟩
      have hle : s1.heap.objs.size ≤ b := by
        rcases List.mem_cons.mp hb with z | z
        · rw [z]; exact Nat.le_add_right _ _
        · have z : b = s1.heap.objs.size := by simpa using z
          rw [z]; exact Nat.le_refl _
      exact I1.fpOk hle (I1.hok.fresh hle)
  · exact q.elim
end
end Pyx

namespace Pyx
open PySem PySem.Spec PyProof.Rows L2
section
variable {X : Cx} {c : Rc} {call : Nat → List PV → PH → R PV} {n : Nat} {rec : CE → PSt → PH → R PV} {a b d e : Expr} {ca cb cd ce : CE} {pos : Pos}
theorem tI_of {f : Nat → Addr} {h h1 : PH} {H : Hp} {st : PSt} {σ : L2.St} {ev : PSt → PH → R IV} {iv : IV} {Q : It → Hp → Prop} (hr : ev st h = .ok iv h1) (r : Rel c f h H) (s : RSt c f h.n H st σ)
    (k : ∀ f1 H1 J, Ext f h.n H f1 h1.n H1 → Rel c f1 h1 H1 → RSt c f1 h1.n H1 st σ → JOk c f1 h1.n H1 iv J → Q J H1) : tI c ev σ H Q :=
  ⟨f, h, st, r, s, by rw [hr]; exact fun f1 H1 e1 R1 J j => k f1 H1 J e1 R1 (s.mono e1) j⟩
def tIf' (c : Rc) (rec : CE → PSt → PH → R PV) (o : Option CB) : TT := tB' c (evIf rec o)
theorem rd_lc {it : CI} {tg : CT} {vs : List Nat} {ifs : Option CB} {elt : CE} :
    ∀ σ H Q, tE c (eLc n rec it tg vs ifs elt) σ H Q → tLc (tI c (evI rec it)) (tT c tg) (tIf' c rec ifs) (tE c (rec elt)) vs σ H Q := fun σ H Q ⟨f, h, st, r, rs, p⟩ => by
  unfold eLc at p
  split at p
  · exact p.elim
  · rename_i htg
    split at p
    · exact p.elim
    · rename_i iv h1 e1
      refine tI_of e1 r rs fun f1 H1 J x1 r1 rs1 j1 => fun D hD => ?_
      obtain ⟨r2, x2⟩ := r1.laid (xs := []) (vs := []) hD .nil
      refine ⟨fun i m H' => ∃ f' h', Ext f1 h1.n H1 f' h'.n H' ∧ h1.n < h'.n ∧ Rel c f' h' H' ∧ f' h1.n = D ∧ Post c f' h'.n H' (lcL rec iv tg ifs elt (wipeP st vs) h1.n m i h') (fun f2 h2 H2 _ => ∀ v, RV c f2 h2.n H2 (.ref h1.n) v → Q v H2), ⟨n, ext1 f1 h1.n D, h1.push (.lst []), x2, Nat.lt_succ_self _, r2, ext1_at, ?_⟩, ?_⟩
      · have p2 := (p.mono x1).mono x2
        cases z : lcL rec iv tg ifs elt (wipeP st vs) h1.n n 0 (h1.push (.lst [])) with
        | stuck => rw [z] at p2; exact p2.elim
        | ok u hz =>
          rw [z] at p2
          exact fun f3 H3 x3 r3 v rv => p2 f3 H3 x3 r3 v rv
      · rintro i m H2 ⟨f2, h2, x3, hlt, r3, fD, p3⟩
        have j2 := j1.mono x3
        cases m with
        | zero => exact p3.elim
        | succ m =>
          unfold lcL at p3
          split at p3
          · exact p3.elim
          · rename_i e2
            refine .inl ⟨ivN_stop r3 j2 e2, ?_⟩
            have q := p3 _ _ .refl r3 (.ref (f2 h1.n)) (.ref hlt)
            rw [fD] at q
            exact q
          · rename_i v e2
            obtain ⟨g1, g2⟩ := ivN_item r3 j2 e2
            split at p3
            · exact p3.elim
            · rename_i st1 e3
              refine .inr ⟨g1, fun H' => ∃ f' h', Ext f1 h1.n H1 f' h'.n H' ∧ h1.n < h'.n ∧ Rel c f' h' H' ∧ f' h1.n = D ∧ Post c f' h'.n H' (lcL rec iv tg ifs elt (wipeP st vs) h1.n m (i + 1) h') (fun f2 h2 H2 _ => ∀ v, RV c f2 h2.n H2 (.ref h1.n) v → Q v H2), fun H' w => ⟨m, Nat.lt_succ_self _, w⟩, fun x H' hy => ?_⟩
              obtain ⟨r4, x4, rv4⟩ := g2 x H' hy
              refine ⟨f2, h2, wipeP st vs, v, st1, r4, (rs1.mono (x3.trans x4)).wipe vs, rv4, asgA_of e3, fun σ' rs5 hw => ⟨?_, ?_⟩⟩
              · rw [hw vs htg]
                have ww : ∀ (l : List Nat), (∀ i ∈ l, i ∈ vs) → L2.wipe (L2.wipe σ vs) l = L2.wipe σ vs := by
                  intro l
                  induction l with
                  | nil => intro _; rfl
                  | cons i l ih =>
                    intro hl
                    unfold L2.wipe
                    rw [ih fun i hi => hl i (List.mem_cons_of_mem _ hi)]
                    have none_at : ∀ (l : List Nat) (i : Nat), i ∈ l → (L2.wipe σ l).set i none = L2.wipe σ l := by
                      intro l i hi
                      have q := wipe_set (σ := σ) (v := none) hi
                      by_cases hd : True
                      · clear q
                        induction l with
                        | nil => cases hi
                        | cons k l ih2 =>
                          unfold L2.wipe
                          rcases List.mem_cons.mp hi with z | z
                          · subst z
                            rw [List.set_set]
                          · by_cases hk : k = i
                            · subst hk
                              rw [List.set_set]
                            · rw [List.set_comm _ _ hk, ih2 z]
                      · exact absurd trivial hd
                    cases vs with
                    | nil => exact absurd (hl i List.mem_cons_self) (by simp)
                    | cons k vs' => exact none_at (k :: vs') i (hl i List.mem_cons_self)
                exact ww vs fun _ h => h
              · refine ⟨f2, h2, st1, r4, rs5, ?_⟩
                have p4 := p3.mono x4
                cases z : evIf rec ifs st1 h2 with
                | stuck => rw [z] at p4; exact p4.elim
                | ok k h3 =>
                  rw [z] at p4
                  intro f3 H3 x5 r5
                  cases k with
                  | false =>
                    rw [if_neg Bool.false_ne_true]
                    exact ⟨f3, h3, (x3.trans x4).trans x5, Nat.lt_of_lt_of_le hlt x5.le, r5, by rw [x5.eq _ hlt]; exact fD, p4.mono x5⟩
                  | true =>
                    rw [if_pos rfl]
                    have p5 : Post c f2 h2.n H' (match rec elt st1 h3 with
                        | .stuck => .stuck
                        | .ok v h2 => match lstAt (.ref h1.n) h2 with
                          | some (_, acc) => match small acc with
                            | true => lcL rec iv tg ifs elt (wipeP st vs) h1.n m (i + 1) (h2.set h1.n (.lst (acc ++ [v])))
                            | false => .stuck
                          | none => .stuck) (fun f2 h2 H2 _ => ∀ v, RV c f2 h2.n H2 (.ref h1.n) v → Q v H2) := p4
                    have rs6 := rs5.mono x5
                    cases z2 : rec elt st1 h3 with
                    | stuck => rw [z2] at p5; exact p5.elim
                    | ok w h4 =>
                      rw [z2] at p5
                      refine tE_of z2 r5 rs6 fun f4 H4 y x6 r6 rs7 rv7 => ?_
                      dsimp only at p5
                      split at p5
                      · rename_i e4
                        split at p5
                        · rename_i sm
                          have lt3 : h1.n < h3.n := Nat.lt_of_lt_of_le hlt x5.le
                          have lt4 : h1.n < h4.n := Nat.lt_of_lt_of_le lt3 x6.le
                          have f4D : f4 h1.n = D := by rw [x6.eq _ lt3, x5.eq _ hlt]; exact fD
                          obtain ⟨ws, ew, hg, hH, rvs⟩ := lstAt_at r6 (.ref lt4) e4
                          have ei : ∀ {k : Nat} {acc : List PV}, lstAt (.ref h1.n) h4 = some (k, acc) → k = h1.n := fun {k acc} q => by
                            unfold lstAt at q
                            dsimp only at q
                            split at q
                            · cases q; rfl
                            · cases q
                          have ek := ei e4
                          subst ek
                          obtain ⟨r8, x8⟩ := r6.write hg (rvs.app (.cons rv7 .nil))
                          rw [f4D] at hH r8 x8
                          refine ⟨ws, hH, by rw [← rvs.length]; exact small_size sm, f4, h4.set _ _, ((((x3.trans x4).trans x5).trans x6).trans x8), lt4, r8, f4D, ?_⟩
                          exact ((p5.mono x5).mono x6).mono x8
                        · exact p5.elim
                      · exact p5.elim
theorem pts_of {o : Option CB} {ifs : List Expr} (h : (o = none ∧ ifs = []) ∨ ∃ b cb, o = some cb ∧ ifs = [b] ∧ PT X b (tB' c (evB rec cb))) : PTs X ifs (tIf' c rec o) := by
  rcases h with ⟨rfl, rfl⟩ | ⟨b, cb, rfl, rfl, h⟩
  · exact ⟨fun pins s σ H Q I ⟨f, h, st, r, rs, p⟩ => pts_nil.run pins s σ H Q I (p _ _ .refl r)⟩
  · exact pts_one h
def FQ (c : Rc) (D : Ends) : (Nat → Addr) → PH → Hp → FR → Prop := fun f h H r => match r with
  | .nx st => ∀ σ, RSt c f h.n H st σ → D.nx σ H
  | .rt v => ∀ w, RV c f h.n H v w → D.rt w H
  | .bk st => ∀ σ, RSt c f h.n H st σ → D.bk σ H
  | .ct st => ∀ σ, RSt c f h.n H st σ → D.ct σ H
def tS (c : Rc) (ev : PSt → PH → R FR) : TS := fun D σ H => ∃ f h st, Rel c f h H ∧ RSt c f h.n H st σ ∧ Post c f h.n H (ev st h) (FQ c D)
variable {s : Stmt} {ss : List Stmt} {recS : CS → PSt → PH → R FR} {ev : CE → PSt → PH → R PV}
theorem ps_w {t t' : TS} (h : PS X s t) (k : ∀ D σ H, t' D σ H → t D σ H) : PS X s t' := ⟨fun pins s σ H D I q => h.run pins s σ H D I (k D σ H q)⟩
theorem pss_w {t t' : TS} (h : PSs X ss t) (k : ∀ D σ H, t' D σ H → t D σ H) : PSs X ss t' := ⟨fun pins s σ H D I q => h.run pins s σ H D I (k D σ H q)⟩
theorem t_stuck {ev : PSt → PH → R FR} (hs : ∀ st h, ev st h = .stuck) : PS X s (tS c ev) := ⟨fun pins s σ H D I ⟨f, h, st, r, r', p⟩ => by rw [hs] at p; exact p.elim⟩
inductive PSS (X : Cx) (c : Rc) (recS : CS → PSt → PH → R FR) : List Stmt → List CS → Prop where
  | nil : PSS X c recS [] []
  | cons {s : Stmt} {k : CS} {ss : List Stmt} {ks : List CS} : PS X s (tS c (recS k)) → PSS X c recS ss ks → PSS X c recS (s :: ss) (k :: ks)
theorem pss_of : ∀ {ss : List Stmt} {ks : List CS}, PSS X c recS ss ks → PSs X ss (tS c (evSs recS ks))
  | [], [], .nil => pss_w pss_nil fun D σ H ⟨f, h, st, r, rs, p⟩ => p _ _ .refl r _ rs
  | s :: ss, k :: ks, .cons hs ht => by
    refine pss_w (pss_cons hs (pss_of ht)) fun D σ H ⟨f, h, st, r, rs, p⟩ => ?_
    refine ⟨f, h, st, r, rs, ?_⟩
    unfold evSs at p
    cases z : recS k st h with
    | stuck => rw [z] at p; exact p.elim
    | ok q h1 =>
      rw [z] at p
      cases q with
      | nx st1 => exact fun f1 H1 x1 r1 σ1 rs1 => ⟨f1, h1, st1, r1, rs1, p.mono x1⟩
      | rt v => exact p
      | bk st1 => exact p
      | ct st1 => exact p
theorem t_pass : PS X (.Pass pos) (tS c (stepS n ev recS .pass)) := ps_w ps_pass fun D σ H ⟨f, h, st, r, rs, p⟩ => p _ _ .refl r _ rs
theorem t_brk : PS X (.Break pos) (tS c (stepS n ev recS .brk)) := ps_w ps_break fun D σ H ⟨f, h, st, r, rs, p⟩ => p _ _ .refl r _ rs
theorem t_cont : PS X (.Continue pos) (tS c (stepS n ev recS .cont)) := ps_w ps_continue fun D σ H ⟨f, h, st, r, rs, p⟩ => p _ _ .refl r _ rs
theorem t_retN : PS X (.Return none pos) (tS c (stepS n ev recS .retN)) := ps_w ps_retN fun D σ H ⟨f, h, st, r, rs, p⟩ => p _ _ .refl r _ .non
theorem t_expr (hn : noComp e = true) (he : PE X e (tE c (ev ce))) : PS X (.Expr e pos) (tS c (xExpr n ev recS ce)) := by
  refine ps_w (ps_expr he (comp_of hn _ _ _)) fun D σ H ⟨f, h, st, r, rs, p⟩ => ?_
  unfold xExpr at p
  split at p
  · exact p.elim
  · rename_i v h1 e1
    exact tE_of e1 r rs fun f1 H1 x x1 r1 rs1 rv1 => p _ _ x1 r1 _ rs1
theorem t_ret (he : PE X e (tE c (ev ce))) : PS X (.Return (some e) pos) (tS c (xRet n ev recS ce)) := by
  refine ps_w (ps_ret he) fun D σ H ⟨f, h, st, r, rs, p⟩ => ?_
  unfold xRet at p
  split at p
  · exact p.elim
  · rename_i v h1 e1
    exact tE_of e1 r rs fun f1 H1 x x1 r1 rs1 rv1 => p _ _ x1 r1 _ rv1
theorem rd_asg {t : CT} {te : TE} (hte : ∀ σ H Q, tE c (ev ce) σ H Q → te σ H Q) : ∀ D σ H, tS c (xAsg n ev recS t ce) D σ H → tAsg te (tT c t) D σ H := fun D σ H ⟨f, h, st, r, rs, p⟩ => by
  unfold xAsg at p
  split at p
  · exact p.elim
  · rename_i v h1 e1
    refine hte _ _ _ (tE_of e1 r rs fun f1 H1 x x1 r1 rs1 rv1 => ?_)
    split at p
    · rename_i st1 e2
      exact ⟨f1, h1, st, v, st1, r1, rs1, rv1, e2, fun σ' rs' _ => p _ _ x1 r1 _ rs'⟩
    · exact p.elim
theorem t_asg {tg : Expr} {t : CT} (he : PE X e (tE c (ev ce))) (hg : PG X tg (tT c t)) (hs : swapsWithSole [tg] e pos.line X.env = pure false) (hw : swappedStores [tg] e X.env = pure none) (h1 : (assignEach [tg] X.env).map (·.2) = [assign tg X.env]) :
    PS X (.Assign [tg] e pos) (tS c (xAsg n ev recS t ce)) := ps_w (ps_asg he hg hs hw h1) (rd_asg fun _ _ _ h => h)
theorem t_setLc {i : Nat} {y : Str} {py : Pos} {elt tg iter : Expr} {ifs : List Expr} {scope : Scope} {own : List (Str × Nat)} {spos : Pos} {ci : CI} {ct : CT} {co : Option CB} {celt : CE} {vs : List Nat} (hv : vs = own.map (·.2)) (hc : X.calm = true) (hN : X.N.Nodup) (hy : X.N[i]? = some y) (hyl : X.env.scope.names.lookup y = some .local)
    (hsw : swapsWith (.ListComp elt [⟨tg, iter, ifs, 0⟩] scope pos) (some (.Name y py)) spos.line X.env = pure true) (hi : PI X tg iter (tI c (evI rec ci))) (ok : BlkOk X.N X.env.scope scope own)
    (hg : ∀ (s : Shared) (H : Hp) (C : Addr) (cl : List (Str × Addr)) (fp : List Addr), PG (X.blk s H scope (compEnvC scope cl C X.env) fp) tg (tT c ct)) (ht : ∀ (s : Shared) (H : Hp) (C : Addr) (cl : List (Str × Addr)) (fp : List Addr), PTs (X.blk s H scope (compEnvC scope cl C X.env) fp) ifs (tIf' c rec co))
    (he : ∀ (s : Shared) (H : Hp) (C : Addr) (cl : List (Str × Addr)) (fp : List Addr), PE (X.blk s H scope (compEnvC scope cl C X.env) fp) elt (tE c (rec celt))) (hs : ∀ x, foldedSetIterable iter X.env x = pure x) (hev : ∀ st h, ev ce st h = eLc n rec ci ct vs co celt st h) :
    PS X (.Assign [.Name y py] (.ListComp elt [⟨tg, iter, ifs, 0⟩] scope pos) spos) (tS c (xAsg n ev recS (.nm i) ce)) := by
  subst hv
  refine ps_w (ps_setLc hc hN hy hyl hsw hi ok hg ht he hs) fun D σ H ⟨f, h, st, r, rs, p⟩ => ?_
  unfold xAsg at p
  split at p
  · exact p.elim
  · rename_i v h1 e1
    rw [hev] at e1
    refine rd_lc σ H _ (tE_of e1 r rs fun f1 H1 x x1 r1 rs1 rv1 => ?_)
    exact p _ _ x1 r1 _ (rs1.set i rv1)
theorem s_lc {elt tg iter : Expr} {ifs : List Expr} {scope : Scope} {own : List (Str × Nat)} {ci : CI} {ct : CT} {co : Option CB} {celt : CE} {vs : List Nat} (hv : vs = own.map (·.2)) (hc : X.calm = true) (hN : X.N.Nodup) (hi : PI X tg iter (tI c (evI rec ci))) (ok : BlkOk X.N X.env.scope scope own)
    (hg : ∀ (s : Shared) (H : Hp) (C : Addr) (cl : List (Str × Addr)) (fp : List Addr), PG (X.blk s H scope (compEnvC scope cl C X.env) fp) tg (tT c ct)) (ht : ∀ (s : Shared) (H : Hp) (C : Addr) (cl : List (Str × Addr)) (fp : List Addr), PTs (X.blk s H scope (compEnvC scope cl C X.env) fp) ifs (tIf' c rec co))
    (he : ∀ (s : Shared) (H : Hp) (C : Addr) (cl : List (Str × Addr)) (fp : List Addr), PE (X.blk s H scope (compEnvC scope cl C X.env) fp) elt (tE c (rec celt))) (hs : ∀ x, foldedSetIterable iter X.env x = pure x) :
    PE X (.ListComp elt [⟨tg, iter, ifs, 0⟩] scope pos) (tE c (eLc n rec ci ct vs co celt)) := by
  subst hv
  exact pe_w (pe_lc hc hN hi ok hg ht he hs) rd_lc
theorem t_par {i j : Nat} {x y : Str} {px py pt : Pos} {kt k2 : Nat} {pt2 : Pos} (hc : X.calm = true) (hN : X.N.Nodup) (hi : X.N[i]? = some x) (hj : X.N[j]? = some y) (hij : i ≠ j)
    (hx : X.env.scope.names.lookup x = some .local) (hy : X.env.scope.names.lookup y = some .local) (hsa : noStar a = true) (hsb : noStar b = true) (ha : PE X a (tE c (ev ca))) (hb : PE X b (tE c (ev cb)))
    (hw : swappedStores [.Tuple [.Name x px, .Name y py] kt pt] (.Tuple [a, b] k2 pt2) X.env = pure (some [x, y])) :
    PS X (.Assign [.Tuple [.Name x px, .Name y py] kt pt] (.Tuple [a, b] k2 pt2) pos) (tS c (xPar n ev recS i j ca cb)) := by
  refine ps_w (ps_par hc hN hi hj hij hx hy (pa_cons ha (pa_cons hb pa_nil (star_of hsb _ _)) (star_of hsa _ _)) hw rfl) fun D σ H ⟨f, h, st, r, rs, p⟩ => ?_
  unfold xPar at p
  split at p
  · exact p.elim
  · rename_i v h1 e1
    refine tE_of e1 r rs fun f1 H1 x x1 r1 rs1 rv1 => ?_
    split at p
    · exact p.elim
    · rename_i w h2 e2
      exact tE_of e2 r1 rs1 fun f2 H2 y x2 r2 rs2 rv2 => ⟨_, _, rfl, p _ _ (x1.trans x2) r2 _ ((rs2.set i (rv1.mono x2)).set j rv2)⟩
theorem t_par3 {i j l : Nat} {x y z : Str} {px py pz pt : Pos} {kt k2 : Nat} {pt2 : Pos} (hc : X.calm = true) (hN : X.N.Nodup) (hi : X.N[i]? = some x) (hj : X.N[j]? = some y) (hl : X.N[l]? = some z) (hij : i ≠ j) (hil : i ≠ l) (hjl : j ≠ l)
    (hx : X.env.scope.names.lookup x = some .local) (hy : X.env.scope.names.lookup y = some .local) (hz : X.env.scope.names.lookup z = some .local) (hsa : noStar a = true) (hsb : noStar b = true) (hsd : noStar d = true) (ha : PE X a (tE c (ev ca))) (hb : PE X b (tE c (ev cb))) (hd : PE X d (tE c (ev cd)))
    (hw : swappedStores [.Tuple [.Name x px, .Name y py, .Name z pz] kt pt] (.Tuple [a, b, d] k2 pt2) X.env = pure (some [x, y, z])) :
    PS X (.Assign [.Tuple [.Name x px, .Name y py, .Name z pz] kt pt] (.Tuple [a, b, d] k2 pt2) pos) (tS c (xPar3 n ev recS i j l ca cb cd)) := by
  refine ps_w (ps_par3 hc hN hi hj hl hij hil hjl hx hy hz (pa_cons ha (pa_cons hb (pa_cons hd pa_nil (star_of hsd _ _)) (star_of hsb _ _)) (star_of hsa _ _)) hw rfl) fun D σ H ⟨f, h, st, r, rs, p⟩ => ?_
  unfold xPar3 at p
  split at p
  · exact p.elim
  · rename_i v h1 e1
    refine tE_of e1 r rs fun f1 H1 x x1 r1 rs1 rv1 => ?_
    split at p
    · exact p.elim
    · rename_i w h2 e2
      refine tE_of e2 r1 rs1 fun f2 H2 y x2 r2 rs2 rv2 => ?_
      split at p
      · exact p.elim
      · rename_i u h3 e3
        exact tE_of e3 r2 rs2 fun f3 H3 z x3 r3 rs3 rv3 => ⟨_, _, _, rfl, p _ _ ((x1.trans x2).trans x3) r3 _ (((rs3.set i ((rv1.mono x2).mono x3)).set j (rv2.mono x3)).set l rv3)⟩
theorem t_setix {o i : Expr} {co ci : CE} {tpos : Pos} (hW : X.w = c.w) (hu : X.A.units + 65 < cLine) (hn : noComp e = true) (hs : noSlice i = true) (ho : PE X o (tE c (ev co))) (hi : PE X i (tE c (ev ci))) (he : PE X e (tE c (ev ce))) :
    PS X (.Assign [.Subscript o i tpos] e pos) (tS c (xSetix n ev recS co ci ce)) := by
  refine ps_w (ps_asg he (pg_sub ho hi (set_at (c := c) hW hu) (by intro v; cases i <;> first | rfl | (cases hs; done))) (by have q := comp_of hn (some (.Subscript o i tpos)) pos.line X.env; exact q) rfl rfl) fun D σ H ⟨f, h, st, r, rs, p⟩ => ?_
  unfold xSetix at p
  split at p
  · exact p.elim
  · rename_i v h1 e1
    refine tE_of e1 r rs fun f1 H1 x x1 r1 rs1 rv1 => ?_
    split at p
    · exact p.elim
    · rename_i w h2 e2
      refine tE_of e2 r1 rs1 fun f2 H2 y x2 r2 rs2 rv2 => ?_
      split at p
      · exact p.elim
      · rename_i u h3 e3
        refine tE_of e3 r2 rs2 fun f3 H3 z x3 r3 rs3 rv3 => ?_
        split at p
        · rename_i h4 e4
          refine ⟨f3, h3, w, u, v, h4, r3, rv2.mono x3, rv3, (rv1.mono x2).mono x3, e4, fun H' r4 x4 => ?_⟩
          exact p _ _ (((x1.trans x2).trans x3).trans x4) r4 _ (rs3.mono x4)
        · exact p.elim
def rAug (op : Bop) : TIp := fun x y H Q => ∃ i j k, x = .int i ∧ y = .int j ∧ augI op i j = some k ∧ Q (.int k) H
theorem ip_aug (op : Bop) : PIp X (opB op) (rAug op) := by
  intro pins s σ H x y v u Q I rx ry ⟨i, j, k, e1, e2, e3, q⟩
  subst e1
  subst e2
  unfold augI at e3
  cases op with
  | add => cases e3; exact iop_add pins s σ H _ _ v u Q I rx ry ⟨_, _, rfl, rfl, q⟩
  | sub => cases e3; exact iop_sub pins s σ H _ _ v u Q I rx ry ⟨_, _, rfl, rfl, q⟩
  | mul =>
    dsimp only at e3
    split at e3
    · rename_i e
      cases e3
      rw [Bool.or_eq_true] at e
      exact iop_mul pins s σ H _ _ v u Q I rx ry ⟨_, _, rfl, rfl, e.elim (fun z => .inl (wide_is z)) fun z => .inr (wide_is z), q⟩
    · cases e3
  | fdiv =>
    dsimp only at e3
    split at e3
    · rename_i e
      cases e3
      rw [Bool.and_eq_true] at e
      exact iop_fdiv pins s σ H _ _ v u Q I rx ry ⟨_, _, rfl, rfl, ⟨of_decide_eq_true e.1, of_decide_eq_true e.2⟩, q⟩
    · cases e3
  | mod =>
    dsimp only at e3
    split at e3
    · rename_i e
      cases e3
      exact iop_mod pins s σ H _ _ v u Q I rx ry ⟨_, _, rfl, rfl, of_decide_eq_true e, q⟩
    · cases e3
  | pow => cases e3
theorem t_augn {i : Nat} {x : Str} {op : Bop} {pos' : Pos} (hN : X.N.Nodup) (hi : X.N[i]? = some x) (hx : Loc X.env.scope x) (hf : X.fn x = true ∨ X.env.scope.names.lookup x = some .local) (he : PE X e (tE c (ev ce))) :
    PS X (.AugAssign (.Name x pos') (opB op) e pos) (tS c (xAugn n ev recS i op ce)) := by
  refine ps_w (ps_aug hN hi hx he (ip_aug op) hf) fun D σ H ⟨f, h, st, r, rs, p⟩ => ?_
  unfold xAugn at p
  split at p
  · rename_i u e0
    split at p
    · rename_i v h1 e1
      split at p
      · rename_i z e3
        obtain ⟨w, e2, r0⟩ := rs.2 _ _ e0
        refine ⟨w, e2, tE_of e1 r rs fun f1 H1 y x1 r1 rs1 rv1 => ?_⟩
        cases r0
        cases rv1
        exact ⟨_, _, _, rfl, rfl, e3, p _ _ x1 r1 _ (rs1.set i (.int _))⟩
      · exact p.elim
    · exact p.elim
  · exact p.elim
theorem t_ite {t : Expr} {bt : CB} {sa sb : List Stmt} {ka kb : List CS} (ht : PT X t (tB' c (evB ev bt))) (ha : PSS X c recS sa ka) (hb : PSS X c recS sb kb) : PS X (.If t sa sb pos) (tS c (xIte n ev recS bt ka kb)) := by
  refine ps_w (ps_if ht (pss_of ha) (pss_of hb)) fun D σ H ⟨f, h, st, r, rs, p⟩ => ?_
  unfold xIte at p
  split at p
  · exact p.elim
  · rename_i h1 e1
    refine tB_of e1 r rs fun f1 H1 x1 r1 rs1 => ?_
    rw [if_pos rfl]
    exact ⟨f1, h1, st, r1, rs1, p.mono x1⟩
  · rename_i h1 e1
    refine tB_of e1 r rs fun f1 H1 x1 r1 rs1 => ?_
    rw [if_neg Bool.false_ne_true]
    exact ⟨f1, h1, st, r1, rs1, p.mono x1⟩
theorem t_while {t : Expr} {bt : CB} {sb : List Stmt} {kb : List CS} (hxe : X.xe = fun _ _ => False) (ht : PT X t (tB' c (evB ev bt))) (hb : PSS X c recS sb kb) : PS X (.While t sb [] pos) (tS c (xWhile n ev recS bt kb)) := by
  refine ps_w (ps_while (by rw [hxe]; exact PassesOwn.never) ht (pss_of hb)) fun D σ H ⟨f, h, st, r, rs, p⟩ => ?_
  unfold xWhile at p
  refine ⟨fun m σ' H' => ∃ f' h' st', Rel c f' h' H' ∧ RSt c f' h'.n H' st' σ' ∧ Post c f' h'.n H' (whL (evB ev bt) (evSs recS kb) m st' h') (FQ c D), ⟨n, f, h, st, r, rs, p⟩, ?_⟩
  rintro m σ' H' ⟨f', h', st', r', rs', p'⟩
  cases m with
  | zero => exact p'.elim
  | succ m =>
    unfold whL at p'
    split at p'
    · exact p'.elim
    · rename_i h1 e1
      refine tB_of e1 r' rs' fun f1 H1 x1 r1 rs1 => ?_
      rw [if_neg Bool.false_ne_true]
      exact p' _ _ x1 r1 _ rs1
    · rename_i h1 e1
      refine tB_of e1 r' rs' fun f1 H1 x1 r1 rs1 => ?_
      rw [if_pos rfl]
      refine ⟨fun σ2 H2 => ∃ f' h' st', Rel c f' h' H2 ∧ RSt c f' h'.n H2 st' σ2 ∧ Post c f' h'.n H2 (whL (evB ev bt) (evSs recS kb) m st' h') (FQ c D), fun σ2 H2 w => ⟨m, Nat.lt_succ_self _, w⟩, f1, h1, st', r1, rs1, ?_⟩
      have p2 := p'.mono x1
      cases z : evSs recS kb st' h1 with
      | stuck => rw [z] at p2; exact p2.elim
      | ok q h2 =>
        rw [z] at p2
        cases q with
        | nx st2 => exact fun f2 H2 x2 r2 σ2 rs2 => ⟨f2, h2, st2, r2, rs2, p2.mono x2⟩
        | ct st2 => exact fun f2 H2 x2 r2 σ2 rs2 => ⟨f2, h2, st2, r2, rs2, p2.mono x2⟩
        | bk st2 => exact fun f2 H2 x2 r2 σ2 rs2 => p2 _ _ x2 r2 _ rs2
        | rt v => exact fun f2 H2 x2 r2 w rw2 => p2 _ _ x2 r2 _ rw2
theorem t_for {tg iter : Expr} {t : CT} {ci : CI} {sb : List Stmt} {kb : List CS} (hxe : X.xe = fun _ _ => False) (hc : X.calm = true) (hi : PI X tg iter (tI c (evI ev ci))) (hg : PG X tg (tT c t)) (hb : PSS X c recS sb kb) (hs : ∀ x, foldedSetIterable iter X.env x = pure x) :
    PS X (.For tg iter sb [] pos) (tS c (xFor n ev recS t ci kb)) := by
  refine ps_w (ps_for (by rw [hxe]; exact PassesOwn.never) hc hi hg (pss_of hb) hs) fun D σ H ⟨f, h, st, r, rs, p⟩ => ?_
  unfold xFor at p
  split at p
  · exact p.elim
  · rename_i iv h1 e1
    refine tI_of e1 r rs fun f1 H1 J x1 r1 rs1 j1 => ?_
    refine ⟨fun i m σ' H' => ∃ f' h' st', Ext f1 h1.n H1 f' h'.n H' ∧ Rel c f' h' H' ∧ RSt c f' h'.n H' st' σ' ∧ Post c f' h'.n H' (forL (evSs recS kb) iv t m i st' h') (FQ c D), ⟨n, f1, h1, st, .refl, r1, rs1, p.mono x1⟩, ?_⟩
    rintro i m σ' H' ⟨f', h', st', x', r', rs', p'⟩
    have j2 := j1.mono x'
    cases m with
    | zero => exact p'.elim
    | succ m =>
      unfold forL at p'
      split at p'
      · exact p'.elim
      · rename_i e2
        exact .inl ⟨ivN_stop r' j2 e2, p' _ _ .refl r' _ rs'⟩
      · rename_i v e2
        obtain ⟨g1, g2⟩ := ivN_item r' j2 e2
        split at p'
        · exact p'.elim
        · rename_i st1 e3
          refine .inr ⟨g1, fun σ2 H2 => ∃ f' h' st', Ext f1 h1.n H1 f' h'.n H2 ∧ Rel c f' h' H2 ∧ RSt c f' h'.n H2 st' σ2 ∧ Post c f' h'.n H2 (forL (evSs recS kb) iv t m (i + 1) st' h') (FQ c D), fun σ2 H2 w => ⟨m, Nat.lt_succ_self _, w⟩, fun x H2 hy => ?_⟩
          obtain ⟨r4, x4, rv4⟩ := g2 x H2 hy
          refine ⟨f', h', st', v, st1, r4, rs'.mono x4, rv4, asgA_of e3, fun σ2 rs2 _ => ⟨f', h', st1, r4, rs2, ?_⟩⟩
          have p2 := p'.mono x4
          cases z : evSs recS kb st1 h' with
          | stuck => rw [z] at p2; exact p2.elim
          | ok q h2 =>
            rw [z] at p2
            cases q with
            | nx st2 => exact fun f2 H2 x2 r2 σ2 rs2 => ⟨f2, h2, st2, (x'.trans x4).trans x2, r2, rs2, p2.mono x2⟩
            | ct st2 => exact fun f2 H2 x2 r2 σ2 rs2 => ⟨f2, h2, st2, (x'.trans x4).trans x2, r2, rs2, p2.mono x2⟩
            | bk st2 => exact fun f2 H2 x2 r2 σ2 rs2 => p2 _ _ x2 r2 _ rs2
            | rt v => exact fun f2 H2 x2 r2 w rw2 => p2 _ _ x2 r2 _ rw2
end
end Pyx

namespace Pyx
open PySem PySem.Spec PyProof.Rows L2
section
variable {prog : Program} {w : World} {A : Around} {E : Value → Shared → Prop} {s : Shared}
theorem adjust_rev (n : Nat) : Builtin.Slice.sliceAdjust none none (-1) (n : Int) = ((n : Int) - 1, -1) := by
  unfold Builtin.Slice.sliceAdjust
  rfl
theorem places_rev (n : Nat) : Builtin.Slice.slicePlaces ((n : Int) - 1) (-1) (-1) = n := by
  unfold Builtin.Slice.slicePlaces
  have h1 : ¬ ((-1 : Int) > 0) := by omega
  simp only [h1, if_false, Int.neg_neg, Int.ediv_one]
  split <;> omega
theorem sliceApplied_rev {sl : Addr} {vs : Value} {n : Nat} {Q : Int × Int × Nat → Shared → Prop} (hs : s.heap.IsSliceOf sl .none .none vs) (ps : IsPart vs (some (-1)))
    (h : Q ((n : Int) - 1, -1, n) s) : wpAny (model prog w) A (Builtin.Slice.sliceApplied (.ref sl) (pure (n : Int))) Q E s := by
  obtain ⟨os, hos, hcs, hds⟩ := id hs
  unfold Builtin.Slice.sliceApplied Builtin.Slice.sliceFields
  refine wpAny_bind (wpAny_bind (wpAny_field hos hds (x := .none) rfl (wpAny_bind (wpAny_field hos hds (x := .none) rfl (wpAny_bind (wpAny_field hos hds (x := vs) rfl (wpAny_pure ?_)))))))
  refine wpAny_bind (HT.slicePart_ ps ?_)
  show wpAny _ _ (if ((-1 : Int) == 0) = true then _ else _) _ _ s
  rw [if_neg (by decide)]
  refine wpAny_bind (slicePart_none (wpAny_bind (slicePart_none (wpAny_bind (wpAny_pure ?_)))))
  show wpAny _ _ (match Builtin.Slice.sliceAdjust none none (-1) (n : Int) with | (lo, hi) => pure (lo, (-1 : Int), Builtin.Slice.slicePlaces lo hi (-1))) _ _ s
  rw [adjust_rev n]
  show wpAny _ _ (pure ((n : Int) - 1, (-1 : Int), Builtin.Slice.slicePlaces ((n : Int) - 1) (-1) (-1))) _ _ s
  rw [places_rev]
  exact wpAny_pure h
theorem fm_congr {α β : Type} {f g : α → Option β} : ∀ {l : List α}, (∀ x ∈ l, f x = g x) → l.filterMap f = l.filterMap g
  | [], _ => rfl
  | x :: l, h => by
    rw [List.filterMap_cons, List.filterMap_cons, h x (List.mem_cons_self ..), fm_congr fun y hy => h y (List.mem_cons_of_mem _ hy)]
theorem pick_rev (xs : Array Value) : ((List.range xs.size).filterMap fun (m : Nat) => xs[((xs.size : Int) - 1 + (m : Int) * (-1)).toNat]?).toArray = xs.toList.reverse.toArray := by
  rw [← PySem.W.krv_all xs, ← List.filterMap_reverse, ← PySem.W.krv_range, List.filterMap_map]
  refine congrArg List.toArray (fm_congr fun m hm => ?_)
  have := List.mem_range.mp hm
  show xs[_]? = xs[xs.size - 1 - m]?
  congr 1
  omega
theorem getItem_tuple_rev {t sl : Addr} {items : Array Value} {vs : Value} {Q : Value → Shared → Prop} (ht : IsTup s.heap t items) (hs : s.heap.IsSliceOf sl .none .none vs) (ps : IsPart vs (some (-1)))
    (h : Q (.ref s.heap.objs.size) { s with heap := s.heap.push { cls := .type "tuple", data := .seq items.toList.reverse.toArray } })
    (hsz : items.size ≤ sizeLine) : wpAny (model prog w) A (getItem (.ref t) (.ref sl)) Q E s := by
  have hrev : sizeOk (.seq items.toList.reverse.toArray) := by
    show items.toList.reverse.toArray.size ≤ sizeLine
    rw [List.size_toArray, List.length_reverse, Array.length_toList]
    exact hsz
  obtain ⟨os, hos, hcs, hds⟩ := id hs
  have hTs : s.TypeIs (.ref sl) "slice" := ⟨os, hos, hcs⟩
  unfold getItem
  try with_reducible refine wpAny_holding ?_
  first | refine wpAny_bind (wpAny_pure ?_) | skip
  refine wpAny_bind (wpAny_sequenceKey ht.typeIs (by decide) ?_)
  refine wpAny_bind (wpAny_callSpecial?_slot (name := Str.ofString "__getitem__") ht.typeIs PyProof.Rows.slot_tuple_getitem
    (wpAny_call_entry PyProof.Rows.slot_tuple_getitem ht.typeIs entry_tuple_getitem ?_ (args_tuple_getitem _ _)))
  show wpAny _ _ (Builtin.Tuple.tupleItemsOf (.ref t) >>= _) _ _ s
  refine wpAny_bind (tupleItemsOf_ ht ?_)
  refine wpAny_bind (wpAny_typeOf hTs ?_)
  rw [if_pos (by decide)]
  refine wpAny_bind (sliceApplied_rev hs ps ?_)
  have hno : ¬ ((((items.size : Int) - 1) == 0 && (-1 : Int) == 1 && items.size == items.size) = true) := by
    intro q
    rw [Bool.and_eq_true, Bool.and_eq_true] at q
    exact absurd q.1.2 (by decide)
  show wpAny _ _ (if (((items.size : Int) - 1) == 0 && (-1 : Int) == 1 && items.size == items.size) = true then _ else _) _ _ s
  rw [if_neg hno, pick_rev]
  first
    | exact wpAny_bind (m := Builtin.Tuple.tupleExact _) (wpAny_newObj_type (wpAny_pure ⟨_, rfl, wpAny_pure h⟩) hrev)
    | exact wpAny_bind (m := Builtin.Tuple.tupleExact _) (wpAny_newObj_type (wpAny_bind (wpAny_pure (wpAny_pure ⟨_, rfl, wpAny_pure h⟩))) hrev)
    | exact wpAny_bind (wpAny_bind (m := Builtin.Tuple.tupleExact _) (wpAny_newObj_type (wpAny_pure (wpAny_pure ⟨_, rfl, wpAny_pure h⟩)) hrev))
    | exact wpAny_bind (wpAny_bind (m := Builtin.Tuple.tupleExact _) (wpAny_newObj_type (wpAny_pure ⟨_, rfl, wpAny_pure h⟩) hrev))
end
section
variable {X : Cx} {e : Expr} {te : TE} {r : V → Hp → VK → Prop}
def tRevT (K : PySem.W.Frag) (te : TE) : TE := fun σ H Q => te σ H fun x H1 => (∃ a xs, x = .ref a ∧ SqL K H1 a xs ∧ ∀ p, H1 p = none → Q (.ref p) (upd H1 p (.lst xs.reverse))) ∨ (∃ a xs, x = .ref a ∧ SqT K H1 a xs ∧ ∀ p, H1 p = none → Q (.ref p) (upd H1 p (.tup xs.reverse)))
theorem pe_revT {k : Nat} {p1 p2 p3 pos : Pos} (he : PE X e te) : PE X (.Subscript e (.Slice none none (some (.UnaryOp .USub (.Constant (.int 1) k p1) p2)) p3) pos) (tRevT X.K te) := by
  refine ⟨fun pins s σ H Q I h => ?_⟩
  refine Subscript_ (thn (he.run pins s σ H _ I h) fun v s1 ⟨x, H1, I1, r1, q1⟩ => ?_)
  have hst : L2.PO X (some (.UnaryOp .USub (.Constant (.int 1) k p1) p2)) (tPart (tUn (rU fun i => .int (-i)) (tC (.int 1)))) := po_some (pe_un un_neg pe_int)
  refine wpAny_Slice (thn (po_none.run pins s1 σ H1 (fun o H2 => o = none ∧ H2 = H1) I1 ⟨rfl, rfl⟩) fun vl s2 ⟨l, H2, I2, pl, el, e2⟩ => ?_)
  subst el e2
  refine thn (po_none.run pins s2 σ H2 (fun o H3 => o = none ∧ H3 = H2) I2 ⟨rfl, rfl⟩) fun vu s3 ⟨u, H3, I3, pu, eu, e3⟩ => ?_
  subst eu e3
  refine thn (hst.run pins s3 σ H3 (fun o H4 => o = some (-1) ∧ H4 = H3) I3 ⟨1, rfl, -1, rfl, rfl, rfl⟩) fun vs s4 ⟨o, H4, I4, ps, eo, e4⟩ => ?_
  subst eo e4
  have I5 : Inv X pins σ H4 { s4 with heap := s4.heap.push { cls := .type "slice", data := .fields #[vl, vu, vs] } } := I4.kept (t' := s4.toks) fun b ob q => Heap.get?_push_of_some _ q
  rcases q1 with ⟨a, xs, ex, hx, q⟩ | ⟨a, xs, ex, hx, q⟩
  · subst ex
    cases r1
    obtain ⟨its, r, ht, hz⟩ := I5.list hx
    have hlen := r.length
    show wpAny (model X.prog X.w) X.A (subscriptTail e (.Slice none none (some (.UnaryOp .USub (.Constant (.int 1) k p1) p2)) p3) (.ref a) (.ref s4.heap.objs.size)) (EP X pins σ Q) X.xe { s4 with heap := s4.heap.push { cls := .type "slice", data := .fields #[vl, vu, vs] } }
    refine tail_any (ops := [.ref a, .ref s4.heap.objs.size]) ht.isList.typeIs (PySem.slot_list_getitem.lookup) ?_ (by with_unfolding_all rfl)
    refine wpAny_getItem_list_slice ht.isList (Heap.IsSliceOf.new _ vl vu vs) pl pu ps (by decide) ?_ (by rw [List.size_toArray]; omega)
    rw [PySem.W.krv_pick]
    refine ⟨.ref _, _, I5.laid (t' := s4.toks) (o := .lst xs.reverse) (fun b ob q => Heap.get?_push_of_some _ q) (Nat.le_refl _) ?_, rfl, q _ (I5.hok.fresh (Nat.le_refl _))⟩
    exact ⟨by rw [List.length_reverse]; exact hz, _, 0, r.reverse, Heap.get?_push_size _ rfl⟩
  · subst ex
    cases r1
    cases pl
    cases pu
    obtain ⟨its, r, ht, hz⟩ := I5.tuple hx
    have hlen : its.toArray.size = xs.length := by rw [List.size_toArray]; exact r.length.symm
    show wpAny (model X.prog X.w) X.A (subscriptTail e (.Slice none none (some (.UnaryOp .USub (.Constant (.int 1) k p1) p2)) p3) (.ref a) (.ref s4.heap.objs.size)) (EP X pins σ Q) X.xe { s4 with heap := s4.heap.push { cls := .type "slice", data := .fields #[.none, .none, vs] } }
    refine tail_any (ops := [.ref a, .ref s4.heap.objs.size]) ht.typeIs PyProof.Rows.slot_tuple_getitem.lookup ?_ (by with_unfolding_all rfl)
    refine getItem_tuple_rev ht (Heap.IsSliceOf.new _ .none .none vs) ps ?_ (by rw [hlen]; exact hz)
    refine ⟨.ref _, _, I5.laid (t' := s4.toks) (o := .tup xs.reverse) (fun b ob q => Heap.get?_push_of_some _ q) (Nat.le_refl _) ?_, rfl, q _ (I5.hok.fresh (Nat.le_refl _))⟩
    exact ⟨by rw [List.length_reverse]; exact hz, _, r.reverse, IsTup.new _ _⟩
end
end Pyx

namespace Pyx
open PySem PySem.Spec PyProof.Rows L2
section
variable {X : Cx} {c : Rc} {call : Nat → List PV → PH → R PV} {n : Nat} {rec : CE → PSt → PH → R PV} {a b d e : Expr} {ca cb cd ce : CE} {pos : Pos}
theorem RVs.rev {f : Nat → Addr} {m : Nat} {H : Hp} : ∀ {xs : List PV} {vs : List V}, RVs c f m H xs vs → RVs c f m H xs.reverse vs.reverse
  | [], [], .nil => .nil
  | _ :: _, _ :: _, .cons h t => by
    rw [List.reverse_cons, List.reverse_cons]
    exact t.rev.app (.cons h .nil)
theorem s_rev {k : Nat} {p1 p2 p3 : Pos} (hK : X.K = c.K) (ha : PE X a (tE c (rec ca))) : PE X (.Subscript a (.Slice none none (some (.UnaryOp .USub (.Constant (.int 1) k p1) p2)) p3) pos) (tE c (eRev rec ca)) := by
  refine pe_w (pe_revT ha) fun σ H Q ⟨f, h, st, r, rs, p⟩ => ?_
  unfold eRev at p
  split at p
  · exact p.elim
  · rename_i xs h1 e1
    refine tE_of e1 r rs fun f1 H1 x x1 r1 rs1 rv1 => ?_
    cases rv1 with
    | tup g1 g2 =>
      obtain ⟨z, k1, k2⟩ := okT_at r1 g2.rev (p.mono x1)
      exact .inr ⟨_, _, rfl, SqT.of g1, k1⟩
  · rename_i v h1 e1
    refine tE_of e1 r rs fun f1 H1 x x1 r1 rs1 rv1 => ?_
    split at p
    · rename_i xs e2
      obtain ⟨a, vs, rfl, hs, rv⟩ := seqL_at r1 rv1 e2
      have rv2 := rv.rev
      obtain ⟨z, k1⟩ := okL_at r1 rv2 (p.mono x1)
      rw [hK]
      exact .inl ⟨a, vs, rfl, hs, k1⟩
    · exact p.elim
theorem s_dnew {t : Bool} : PE X (.Dict [] [] pos) (tE c fun _ h => eDnew t h) := by
  cases t with
  | true =>
    refine pe_w pe_dnewT fun σ H Q ⟨f, h, st, r, rs, p⟩ => fun q hq => ?_
    obtain ⟨r1, x1⟩ := r.lays (o := .dT []) (u := .dT []) hq (.dT upd_same .nil trivial)
    have z := RV.ref (c := c) (f := ext1 f h.n q) (n := h.n + 1) (H := upd H q (.dT [])) (Nat.lt_succ_self h.n)
    rw [ext1_at] at z
    exact p _ _ x1 r1 _ z
  | false =>
    refine pe_w pe_dnewK fun σ H Q ⟨f, h, st, r, rs, p⟩ => fun q hq => ?_
    obtain ⟨r1, x1⟩ := r.lays (o := .dK []) (u := .dK []) hq (.dK upd_same .nil trivial)
    have z := RV.ref (c := c) (f := ext1 f h.n q) (n := h.n + 1) (H := upd H q (.dK [])) (Nat.lt_succ_self h.n)
    rw [ext1_at] at z
    exact p _ _ x1 r1 _ z
theorem s_dnewN (hW : X.w = c.w) : PE X (.Dict [] [] pos) (tE c fun _ h => .ok (.ref h.n) (h.push (.dN []))) := by
  refine pe_w pe_dnewN fun σ H Q ⟨f, h, st, r, rs, p⟩ => fun q hq ha => ?_
  rw [hW]
  obtain ⟨r1, x1⟩ := r.lays (o := .dN []) (u := DictN c.w q []) hq (.dN upd_same .nil ⟨Nat.zero_le _, ha, List.nodup_nil⟩)
  have z := RV.ref (c := c) (f := ext1 f h.n q) (n := h.n + 1) (H := upd H q (DictN c.w q [])) (Nat.lt_succ_self h.n)
  rw [ext1_at] at z
  exact p _ _ x1 r1 _ z
inductive PDs (X : Cx) (c : Rc) (rec : CE → PSt → PH → R PV) : List (Option Expr) → List Expr → List CE → List CE → Prop where
  | nil : PDs X c rec [] [] [] []
  | cons {k v : Expr} {ck cv : CE} {ks : List (Option Expr)} {vs : List Expr} {cks cvs : List CE} : PE X k (tE c (rec ck)) → PE X v (tE c (rec cv)) → PDs X c rec ks vs cks cvs → PDs X c rec (some k :: ks) (v :: vs) (ck :: cks) (cv :: cvs)
def trD (c : Rc) (rec : CE → PSt → PH → R PV) : List CE → List CE → List (TE × TE)
  | k :: ks, v :: vs => (tE c (rec k), tE c (rec v)) :: trD c rec ks vs
  | _, _ => []
theorem PDs.shape {ks : List (Option Expr)} {vs : List Expr} {cks cvs : List CE} (h : PDs X c rec ks vs cks cvs) : ks.all (·.isSome) = true ∧ ks.length = vs.length ∧ PPs X pos ks vs (trD c rec cks cvs) := by
  induction h with
  | nil => exact ⟨rfl, rfl, pps_nil⟩
  | cons hk hv _ ih => exact ⟨by rw [List.all_cons, ih.1]; rfl, by rw [List.length_cons, List.length_cons, ih.2.1], pps_cons hk hv ih.2.2⟩
theorem trD_at {ks : List (Option Expr)} {vs : List Expr} {cks cvs : List CE} (hp : PDs X c rec ks vs cks cvs) : ∀ {f : Nat → Addr} {h : PH} {H : Hp} {st : PSt} {σ : L2.St} {Q : List (V × V) → Hp → Prop}, Rel c f h H → RSt c f h.n H st σ →
    Post c f h.n H (evPs rec cks cvs st h) (fun f' h' H' ps => ∀ kvs : List (Key × V), RD kI c f' h'.n H' ps kvs → Q (kvs.map fun kv => (kV kv.1, kv.2)) H') → tPairs (trD c rec cks cvs) σ H Q := by
  induction hp with
  | nil => intro f h H st σ Q r rs p; exact p _ _ .refl r [] .nil
  | cons hk hv _ ih =>
    intro f h H st σ Q r rs p
    unfold evPs at p
    split at p
    · rename_i i h1 e1
      refine tE_of e1 r rs fun f1 H1 x x1 r1 rs1 rv1 => ?_
      split at p
      · exact p.elim
      · rename_i y h2 e2
        refine tE_of e2 r1 rs1 fun f2 H2 z x2 r2 rs2 rv2 => ?_
        cases rv1
        refine ih r2 rs2 ?_
        have p2 := (p.mono x1).mono x2
        split at p2
        · exact p2.elim
        · rename_i ps h3 e3
          rw [e3]
          intro f3 H3 x3 r3 kvs rd
          exact p2 f3 H3 x3 r3 ((kI i, z) :: kvs) (.cons (rv2.mono x3) rd)
    · exact p.elim
theorem merge_at {f : Nat → Addr} {k : Nat} {H : Hp} : ∀ {ps : List (Int × PV)} {kvs : List (Key × V)} {acc : List (Int × PV)} {ws : List (Key × V)}, RD kI c f k H ps kvs → RD kI c f k H acc ws → NoTw ws → RD kI c f k H (mergeG ps acc) (mergeK ws kvs) ∧ NoTw (mergeK ws kvs)
  | _, _, _, _, .nil, h, nt => ⟨h, nt⟩
  | _, _, _, _, .cons (k := i) hv t, h, nt => by
    have z := merge_at t (h.put kI_inj i hv nt) nt.put
    exact z
theorem s_disp {ks : List (Option Expr)} {vs : List Expr} {cks cvs : List CE} (hp : PDs X c rec ks vs cks cvs) (h0 : ks ≠ []) (h15 : ks.length ≤ 15) : PE X (.Dict ks vs pos) (tE c (eDisp rec cks cvs)) := by
  obtain ⟨s1, s2, s3⟩ := hp.shape (pos := pos)
  refine pe_w (pe_disp s3 s1 s2 h0 h15) fun σ H Q ⟨f, h, st, r, rs, p⟩ => fun q hq => ?_
  obtain ⟨r1, x1⟩ := r.lays (o := .dK []) (u := .dK []) hq (.dK upd_same .nil trivial)
  refine trD_at hp r1 (rs.mono x1) ?_
  unfold eDisp at p
  split at p
  · exact p.elim
  · rename_i ps h1 e1
    rw [e1]
    intro f2 H2 x2 r2 kvs rd
    have eq : f2 h.n = q := by rw [x2.eq _ (Nat.lt_succ_self h.n)]; exact ext1_at
    split at p
    · rename_i g
      split at p
      · rename_i hz
        cases r2.obj _ _ g with
        | dK g1 g2 g3 =>
          cases g2
          obtain ⟨m1, m2⟩ := merge_at rd .nil trivial
          obtain ⟨r3, x3⟩ := r2.writeK g m1 m2
          rw [eq] at g1 r3 x3
          refine ⟨g1, kvs, rfl, by rw [← rd.length]; exact Nat.le_of_ble_eq_true hz, ?_⟩
          have z := RV.ref (c := c) (f := f2) (n := h1.n) (H := upd H2 q (.dK (mergeK [] kvs))) (get_lt g)
          rw [eq] at z
          exact p _ _ ((x1.trans x2).trans x3) r3 _ z
      · exact p.elim
    · exact p.elim
def rGetP (c : Rc) : V → V → Hp → VK → Prop := fun x y H Q => ∃ f h pv pw pu, Rel c f h H ∧ RV c f h.n H pv x ∧ RV c f h.n H pw y ∧ ixP pv pw h = some pu ∧ (∀ xs, pv ≠ .tup xs) ∧ ∀ v, RV c f h.n H pu v → Q v H
theorem get_list : PGet X (rIxL X.K) := by
  intro pins s σ H x y v u Q I rx ry h
  obtain ⟨p, xs, i, z, rfl, rfl, hq, he, q⟩ := h
  cases rx
  obtain ⟨t, rfl⟩ := ry
  obtain ⟨its, r, pl, hz⟩ := I.list hq
  obtain ⟨j, h1, h2, h3, h4, h5⟩ := atI_get he
  obtain ⟨w, ew, rw'⟩ := r.get h2
  have hl := r.length
  have hn := line63
  have fin : EP X pins σ Q w s := ⟨z, H, I, rw', q⟩
  by_cases h0 : 0 ≤ i
  · have hj : i.toNat = j := by
      rw [seqIndex_of h0 h5] at h1
      exact Option.some.inj h1
    exact wpAny_getItem_list pl.isList h0 (by omega) (by rw [hj]; simpa using ew) fin
  · have hj : (i + (its.toArray.size : Int)).toNat = j := by
      rw [seqIndex_neg (by omega) h4] at h1
      rw [List.size_toArray, ← hl]
      exact Option.some.inj h1
    exact wpAny_getItem_list_neg pl.isList (by omega) (by rw [List.size_toArray] <;> omega) (by omega) (by rw [hj]; simpa using ew) fin
theorem getP_at (hK : X.K = c.K) (hW : X.w = c.w) (hu : X.A.units + 65 < cLine) : PGet X (rGetP c) := by
  intro pins s σ H x y v u Q I rx ry ⟨f, h, pv, pw, pu, r, r1, r2, p, nt, q⟩
  have dict : dGetP pv pw h = some pu → wpAny (model X.prog X.w) X.A (getItem v u) (EP X pins σ Q) X.xe s := fun p => by
    obtain ⟨a, w, e, g, r3⟩ := dGetP_at r r1 r2 p
    subst e
    cases (show v = Value.ref a from rx)
    rw [← hW] at g
    exact x_getItem hu I g ry fun w' s' I' rw' => ⟨w, H, I', rw', q w r3⟩
  unfold ixP at p
  split at p
  · rename_i i
    split at p
    · rename_i xs e
      cases r2
      obtain ⟨a, vs, ea, hs, rv⟩ := seqOf_at2 r r1 e
      obtain ⟨w, e1, r3⟩ := atI_at rv p
      rcases hs with hs | hs
      · rw [← hK] at hs
        exact get_list pins s σ H x _ v u Q I rx ry ⟨a, vs, i, w, ea, rfl, hs, e1, q w r3⟩
      · exact absurd hs.1 (nt _)
    · exact dict p
  · exact dict p
theorem setP_tup {xs : List PV} {k v : PV} {h : PH} : setP (.tup xs) k v h = none := by
  unfold setP lstAt dPutP
  dsimp only
  split
  · rename_i z; cases z
  · rfl
variable {recS : CS → PSt → PH → R FR} {ev : CE → PSt → PH → R PV}
theorem t_augix {o i : Expr} {co ci : CE} {op : Bop} {tpos : Pos} (hK : X.K = c.K) (hW : X.w = c.w) (hu : X.A.units + 65 < cLine) (hs : noSlice i = true) (ho : PE X o (tE c (ev co))) (hi : PE X i (tE c (ev ci))) (he : PE X e (tE c (ev ce))) :
    PS X (.AugAssign (.Subscript o i tpos) (opB op) e pos) (tS c (xAugix n ev recS co ci op ce)) := by
  refine ps_w (ps_augS ho hi (getP_at (c := c) hK hW hu) he (ip_aug op) (set_at (c := c) hW hu) (by intro ov iv new; cases i <;> first | rfl | (cases hs; done))) fun D σ H ⟨f, h, st, r, rs, p⟩ => ?_
  unfold xAugix at p
  split at p
  · exact p.elim
  · rename_i x h1 e1
    refine tE_of e1 r rs fun f1 H1 v1 x1 r1 rs1 rv1 => ?_
    split at p
    · exact p.elim
    · rename_i k h2 e2
      refine tE_of e2 r1 rs1 fun f2 H2 v2 x2 r2 rs2 rv2 => ?_
      split at p
      · rename_i z e3
        split at p
        · rename_i y h3 e4
          split at p
          · rename_i m e5
            split at p
            · rename_i h4 e6
              refine ⟨f2, h2, x, k, _, r2, rv1.mono x2, rv2, e3, fun xs ex => ?_, fun v rv3 => ?_⟩
              · rw [ex, setP_tup] at e6
                cases e6
              · cases rv3
                refine tE_of e4 r2 rs2 fun f3 H3 v3 x3 r3 rs3 rv3 => ?_
                cases rv3
                refine ⟨_, _, _, rfl, rfl, e5, f3, h3, x, k, .int m, h4, r3, (rv1.mono x2).mono x3, rv2.mono x3, .int _, e6, fun H' r4 x4 => ?_⟩
                exact p _ _ (((x1.trans x2).trans x3).trans x4) r4 _ (rs3.mono x4)
            · exact p.elim
          · exact p.elim
        · exact p.elim
      · exact p.elim
end
end Pyx

namespace Pyx
open PySem PySem.Spec PyProof.Rows L2
section
variable {X : Cx} {c : Rc} {n : Nat} {rec : CE → PSt → PH → R PV}
theorem wipe_idem {σ : L2.St} (vs : List Nat) : L2.wipe (L2.wipe σ vs) vs = L2.wipe σ vs := by
  have none_at : ∀ (l : List Nat) (i : Nat), i ∈ l → (L2.wipe σ l).set i none = L2.wipe σ l := by
    intro l i hi
    induction l with
    | nil => cases hi
    | cons k l ih2 =>
      unfold L2.wipe
      rcases List.mem_cons.mp hi with z | z
      · subst z
        rw [List.set_set]
      · by_cases hk : k = i
        · subst hk
          rw [List.set_set]
        · rw [List.set_comm _ _ hk, ih2 z]
  have ww : ∀ (l : List Nat), (∀ i ∈ l, i ∈ vs) → L2.wipe (L2.wipe σ vs) l = L2.wipe σ vs := by
    intro l
    induction l with
    | nil => intro _; rfl
    | cons i l ih =>
      intro hl
      have e1 := ih fun j hj => hl j (List.mem_cons_of_mem _ hj)
      have e2 := none_at vs i (hl i List.mem_cons_self)
      show (L2.wipe (L2.wipe σ vs) l).set i none = _
      rw [e1]
      exact e2
  exact ww vs fun _ h => h
theorem rd_turns {iv : IV} {J : It} {tg : CT} {vs : List Nat} {elt : CE} {st : PSt} {σ : L2.St} {d : Nat} {D : Addr} {f0 : Nat → Addr} {h0 : PH} {H0 : Hp} {Nx : Hp → Prop} {NX : (Nat → Addr) → PH → Hp → Prop} (htg : tgIn tg vs = true) (r0 : Rel c f0 h0 H0) (rs0 : RSt c f0 h0.n H0 st σ) (j0 : JOk c f0 h0.n H0 iv J) (hd : d < h0.n) (fD : f0 d = D)
    (p : Post c f0 h0.n H0 (lcL rec iv tg none elt (wipeP st vs) d n 0 h0) (fun f2 h2 H2 _ => NX f2 h2 H2)) (nx : ∀ f2 h2 H2, Ext f0 h0.n H0 f2 h2.n H2 → Rel c f2 h2 H2 → NX f2 h2 H2 → Nx H2) :
    ∃ W : Nat → Nat → Hp → Prop, (∃ m, W 0 m H0) ∧ ∀ i m H, W i m H →
      (J.stop i H ∧ Nx H) ∨ (J.go i H ∧ ∃ Nx1 : Hp → Prop, (∀ H', Nx1 H' → ∃ m', m' < m ∧ W (i + 1) m' H') ∧ ∀ x H', J.yld i H x H' → tT c tg x (L2.wipe σ vs) H' fun σ3 H5 => L2.wipe σ3 vs = L2.wipe σ vs ∧ tIf' c rec none σ3 H5 fun b H6 =>
        if b = true then tE c (rec elt) σ3 H6 fun y H7 => ∃ acc, H7 D = some (.lst acc) ∧ acc.length < sizeLine ∧ Nx1 (upd H7 D (.lst (acc ++ [y]))) else Nx1 H6) := by
  let WW : Nat → Nat → Hp → Prop := fun i m H' => ∃ f' h', Ext f0 h0.n H0 f' h'.n H' ∧ d < h'.n ∧ Rel c f' h' H' ∧ f' d = D ∧ Post c f' h'.n H' (lcL rec iv tg none elt (wipeP st vs) d m i h') (fun f2 h2 H2 _ => NX f2 h2 H2)
  refine ⟨WW, ⟨n, f0, h0, .refl, hd, r0, fD, p⟩, ?_⟩
  rintro i m H2 ⟨f2, h2, x3, hlt, r3, fD, p3⟩
  have j2 := j0.mono x3
  cases m with
  | zero => exact p3.elim
  | succ m =>
    unfold lcL at p3
    split at p3
    · exact p3.elim
    · rename_i e2
      exact .inl ⟨ivN_stop r3 j2 e2, nx _ _ _ x3 r3 (p3 _ _ .refl r3)⟩
    · rename_i v e2
      obtain ⟨g1, g2⟩ := ivN_item r3 j2 e2
      split at p3
      · exact p3.elim
      · rename_i st1 e3
        refine .inr ⟨g1, WW (i + 1) m, fun H' w => ⟨m, Nat.lt_succ_self _, w⟩, fun x H' hy => ?_⟩
        obtain ⟨r4, x4, rv4⟩ := g2 x H' hy
        refine ⟨f2, h2, wipeP st vs, v, st1, r4, (rs0.mono (x3.trans x4)).wipe vs, rv4, asgA_of e3, fun σ' rs5 hw => ⟨?_, ?_⟩⟩
        · rw [hw vs htg]
          exact wipe_idem vs
        · refine ⟨f2, h2, st1, r4, rs5, ?_⟩
          have p4 := p3.mono x4
          intro f3 H3 x5 r5
          dsimp only
          rw [if_pos rfl]
          have p5 : Post c f2 h2.n H' (match rec elt st1 h2 with
              | .stuck => .stuck
              | .ok v h2 => match lstAt (.ref d) h2 with
                | some (_, acc) => match small acc with
                  | true => lcL rec iv tg none elt (wipeP st vs) d m (i + 1) (h2.set d (.lst (acc ++ [v])))
                  | false => .stuck
                | none => .stuck) (fun f2 h2 H2 _ => NX f2 h2 H2) := p4
          have rs6 := rs5.mono x5
          cases z2 : rec elt st1 h2 with
          | stuck => rw [z2] at p5; exact p5.elim
          | ok w h4 =>
            rw [z2] at p5
            refine tE_of z2 r5 rs6 fun f4 H4 y x6 r6 rs7 rv7 => ?_
            dsimp only at p5
            split at p5
            · rename_i e4
              split at p5
              · rename_i sm
                have lt4 : d < h4.n := Nat.lt_of_lt_of_le hlt x6.le
                have f4D : f4 d = D := by rw [x6.eq _ hlt, x5.eq _ hlt]; exact fD
                obtain ⟨ws, ew, hg, hH, rvs⟩ := lstAt_at r6 (.ref lt4) e4
                have ei : ∀ {k : Nat} {acc : List PV}, lstAt (.ref d) h4 = some (k, acc) → k = d := fun {k acc} q => by
                  unfold lstAt at q
                  dsimp only at q
                  split at q
                  · cases q; rfl
                  · cases q
                have ek := ei e4
                subst ek
                obtain ⟨r8, x8⟩ := r6.write hg (rvs.app (.cons rv7 .nil))
                rw [f4D] at hH r8 x8
                refine ⟨ws, hH, by rw [← rvs.length]; exact small_size sm, f4, h4.set _ _, ((((x3.trans x4).trans x5).trans x6).trans x8), lt4, r8, f4D, ?_⟩
                exact ((p5.mono x5).mono x6).mono x8
              · exact p5.elim
            · exact p5.elim
theorem rd_lc2 {it it1 : CI} {tg tg1 : CT} {vs vs1 : List Nat} {elt : CE} :
    ∀ σ H Q, tE c (eLc2 n rec it tg it1 tg1 vs vs1 elt) σ H Q → tLc2 (tI c (evI rec it)) (tT c tg) (tIf' c rec none) (tI c (evI rec it1)) (tT c tg1) (tIf' c rec none) (tE c (rec elt)) vs vs1 σ H Q := fun σ H Q ⟨f, h, st, r, rs, p⟩ => by
  unfold eLc2 at p
  split at p
  · exact p.elim
  · rename_i htg
    rw [Bool.and_eq_true] at htg
    split at p
    · exact p.elim
    · rename_i iv h1 e1
      refine tI_of e1 r rs fun f1 H1 J x1 r1 rs1 j1 => fun D hD => ?_
      obtain ⟨r2, x2⟩ := r1.laid (xs := []) (vs := []) hD .nil
      let WW : Nat → Nat → Hp → Prop := fun i m H' => ∃ f' h', Ext f1 h1.n H1 f' h'.n H' ∧ h1.n < h'.n ∧ Rel c f' h' H' ∧ f' h1.n = D ∧ Post c f' h'.n H' (lcO rec n iv tg it1 tg1 vs1 elt (wipeP st vs) h1.n m i h') (fun f2 h2 H2 _ => ∀ v, RV c f2 h2.n H2 (.ref h1.n) v → Q v H2)
      refine ⟨WW, ⟨n, ext1 f1 h1.n D, h1.push (.lst []), x2, Nat.lt_succ_self _, r2, ext1_at, ?_⟩, ?_⟩
      · have p2 := (p.mono x1).mono x2
        cases z : lcO rec n iv tg it1 tg1 vs1 elt (wipeP st vs) h1.n n 0 (h1.push (.lst [])) with
        | stuck => rw [z] at p2; exact p2.elim
        | ok u hz =>
          rw [z] at p2
          exact fun f3 H3 x3 r3 v rv => p2 f3 H3 x3 r3 v rv
      · rintro i m H2 ⟨f2, h2, x3, hlt, r3, fD, p3⟩
        have j2 := j1.mono x3
        cases m with
        | zero => exact p3.elim
        | succ m =>
          unfold lcO at p3
          split at p3
          · exact p3.elim
          · rename_i e2
            refine .inl ⟨ivN_stop r3 j2 e2, ?_⟩
            have q := p3 _ _ .refl r3 (.ref (f2 h1.n)) (.ref hlt)
            rw [fD] at q
            exact q
          · rename_i v e2
            obtain ⟨g1, g2⟩ := ivN_item r3 j2 e2
            split at p3
            · exact p3.elim
            · rename_i st1 e3
              refine .inr ⟨g1, WW (i + 1) m, fun H' w => ⟨m, Nat.lt_succ_self _, w⟩, fun x H' hy => ?_⟩
              obtain ⟨r4, x4, rv4⟩ := g2 x H' hy
              refine ⟨f2, h2, wipeP st vs, v, st1, r4, (rs1.mono (x3.trans x4)).wipe vs, rv4, asgA_of e3, fun σ' rs5 hw => ⟨?_, ?_⟩⟩
              · rw [hw vs htg.1]
                exact wipe_idem vs
              · refine ⟨f2, h2, st1, r4, rs5, ?_⟩
                have p4 := p3.mono x4
                intro f3 H3 x5 r5
                dsimp only
                rw [if_pos rfl]
                have rs6 := rs5.mono x5
                split at p4
                · exact p4.elim
                · rename_i iv1 h3 e4
                  refine tI_of e4 r5 rs6 fun f4 H4 J1 x6 r6 rs7 j3 => ?_
                  have p6 := (p4.mono x5).mono x6
                  have lt2 : h1.n < h3.n := Nat.lt_of_lt_of_le hlt x6.le
                  have f4D : f4 h1.n = D := by rw [x6.eq _ hlt, x5.eq _ hlt]; exact fD
                  have x36 := ((x3.trans x4).trans x5).trans x6
                  refine rd_turns (n := n) (rec := rec) (vs := vs1) (elt := elt) (NX := fun f' h' H' => Post c f' h'.n H' (lcO rec n iv tg it1 tg1 vs1 elt (wipeP st vs) h1.n m (i + 1) h') (fun f2 h2 H2 _ => ∀ v, RV c f2 h2.n H2 (.ref h1.n) v → Q v H2)) htg.2 r6 rs7 j3 lt2 f4D ?_ fun f5 h5 H5 x7 r7 q => ⟨f5, h5, x36.trans x7, Nat.lt_of_lt_of_le lt2 x7.le, r7, by rw [x7.eq _ lt2]; exact f4D, q⟩
                  cases z : lcL rec iv1 tg1 none elt (wipeP st1 vs1) h1.n n 0 h3 with
                  | stuck => rw [z] at p6; exact p6.elim
                  | ok u h4 =>
                    rw [z] at p6
                    exact fun f5 H5 x7 r7 => p6.mono x7
end
section
variable {X : Cx} {c : Rc} {n : Nat} {rec : CE → PSt → PH → R PV} {elt tg iter tg1 iter1 : Expr} {scope : Scope} {own : List (Str × Nat)} {vs1 : List Nat} {ci ci1 : CI} {ct ct1 : CT} {celt : CE} {vs : List Nat} {pos : Pos}
theorem pts_none : PTs X [] (tIf' c rec none) := pts_of (.inl ⟨rfl, rfl⟩)
theorem s_lc2 (hv : vs = own.map (·.2)) (hv1 : ∀ i ∈ vs1, i ∈ own.map (·.2)) (hc : X.calm = true) (hN : X.N.Nodup) (hi : PI X tg iter (tI c (evI rec ci))) (ok : BlkOk X.N X.env.scope scope own)
    (hg : ∀ (s : Shared) (H : Hp) (C : Addr) (cl : List (Str × Addr)) (fp : List Addr), PG (X.blk s H scope (compEnvC scope cl C X.env) fp) tg (tT c ct)) (hi1 : ∀ (s : Shared) (H : Hp) (C : Addr) (cl : List (Str × Addr)) (fp : List Addr), PI (X.blk s H scope (compEnvC scope cl C X.env) fp) tg1 iter1 (tI c (evI rec ci1)))
    (hg1 : ∀ (s : Shared) (H : Hp) (C : Addr) (cl : List (Str × Addr)) (fp : List Addr), PG (X.blk s H scope (compEnvC scope cl C X.env) fp) tg1 (tT c ct1))
    (he : ∀ (s : Shared) (H : Hp) (C : Addr) (cl : List (Str × Addr)) (fp : List Addr), PE (X.blk s H scope (compEnvC scope cl C X.env) fp) elt (tE c (rec celt))) (hs : ∀ x, foldedSetIterable iter X.env x = pure x) (hs1 : ∀ env x, foldedSetIterable iter1 env x = pure x) :
    PE X (.ListComp elt [⟨tg, iter, [], 0⟩, ⟨tg1, iter1, [], 0⟩] scope pos) (tE c (eLc2 n rec ci ct ci1 ct1 vs vs1 celt)) := by
  subst hv
  exact pe_w (pe_lc2 hc hN hi ok hv1 hg (fun _ _ _ _ _ => pts_none (c := c) (rec := rec)) hi1 hg1 (fun _ _ _ _ _ => pts_none (c := c) (rec := rec)) he hs hs1) rd_lc2
theorem t_setLc2 {i : Nat} {y : Str} {py spos : Pos} {ev : CE → PSt → PH → R PV} {recS : CS → PSt → PH → R FR} {ce : CE} (hv : vs = own.map (·.2)) (hv1 : ∀ i ∈ vs1, i ∈ own.map (·.2)) (hc : X.calm = true) (hN : X.N.Nodup) (hy : X.N[i]? = some y) (hyl : X.env.scope.names.lookup y = some .local)
    (hsw : swapsWith (.ListComp elt [⟨tg, iter, [], 0⟩, ⟨tg1, iter1, [], 0⟩] scope pos) (some (.Name y py)) spos.line X.env = pure true) (hi : PI X tg iter (tI c (evI rec ci))) (ok : BlkOk X.N X.env.scope scope own)
    (hg : ∀ (s : Shared) (H : Hp) (C : Addr) (cl : List (Str × Addr)) (fp : List Addr), PG (X.blk s H scope (compEnvC scope cl C X.env) fp) tg (tT c ct)) (hi1 : ∀ (s : Shared) (H : Hp) (C : Addr) (cl : List (Str × Addr)) (fp : List Addr), PI (X.blk s H scope (compEnvC scope cl C X.env) fp) tg1 iter1 (tI c (evI rec ci1)))
    (hg1 : ∀ (s : Shared) (H : Hp) (C : Addr) (cl : List (Str × Addr)) (fp : List Addr), PG (X.blk s H scope (compEnvC scope cl C X.env) fp) tg1 (tT c ct1))
    (he : ∀ (s : Shared) (H : Hp) (C : Addr) (cl : List (Str × Addr)) (fp : List Addr), PE (X.blk s H scope (compEnvC scope cl C X.env) fp) elt (tE c (rec celt))) (hs : ∀ x, foldedSetIterable iter X.env x = pure x) (hs1 : ∀ env x, foldedSetIterable iter1 env x = pure x) (hev : ∀ st h, ev ce st h = eLc2 n rec ci ct ci1 ct1 vs vs1 celt st h) :
    PS X (.Assign [.Name y py] (.ListComp elt [⟨tg, iter, [], 0⟩, ⟨tg1, iter1, [], 0⟩] scope pos) spos) (tS c (xAsg n ev recS (.nm i) ce)) := by
  subst hv
  refine ps_w (ps_setLc2 hc hN hy hyl hsw hi ok hv1 hg (fun _ _ _ _ _ => pts_none (c := c) (rec := rec)) hi1 hg1 (fun _ _ _ _ _ => pts_none (c := c) (rec := rec)) he hs hs1) fun D σ H ⟨f, h, st, r, rs, p⟩ => ?_
  unfold xAsg at p
  split at p
  · exact p.elim
  · rename_i v h1 e1
    rw [hev] at e1
    refine rd_lc2 σ H _ (tE_of e1 r rs fun f1 H1 x x1 r1 rs1 rv1 => ?_)
    exact p _ _ x1 r1 _ (rs1.set i rv1)
end
end Pyx

namespace Pyx
open PySem PySem.Spec PyProof.Rows L2
section
variable {prog : Program} {w : World} {A : Around} {E : Value → Shared → Prop} {s : Shared}
theorem sorted_src {T : String} {r d : Addr} {n : Nat} {P : Nat → Value → Prop} {OK : Heap → Prop} {kw : List (Str × Value)} {Q : Value → Shared → Prop} (K : PySem.W.KdlSrc prog w T r d n P OK) (hh : A.handled = none) (hok : OK s.heap) (hn : n ≤ sizeLine) (ha1 : argsOk "sorted" ⟨[.ref r], kw⟩)
    (h : ∀ (h' : Heap) (tk : Nat) (acc : Array Value), (∀ b o, s.heap.get? b = some o → h'.get? b = some o) → ItemsOf P acc n → wpAny (model prog w) A.in1 (call (.builtin "list.sort") [.ref h'.objs.size] kw) (fun _ s' => Q (.ref h'.objs.size) s') E { s with heap := h'.push (seqObj "list" acc.toList.toArray 0), toks := tk }) :
    wpAny (model prog w) A (call (.builtin "sorted") [.ref r] kw) Q E s := by
  refine call_function_entry_kw kind_sorted plain_sorted entry_sorted ha1 ?_
  unfold Builtin.«sorted»
  refine wpAny_bind (m := checkCount "sorted" 1 1 _) (wpAny_pure ?_)
  refine wpAny_bind (PySem.W.kdu_collect (A := A.in1) K hh hok hn fun h' tk acc kp hacc => ?_)
  refine wpAny_bind (wpAny_newList ?_ (by rw [Array.length_toList, hacc.1]; exact hn))
  show wpAny _ _ _ _ _ { s with heap := h'.push (seqObj "list" acc.toList.toArray 0), toks := tk }
  refine wpAny_bind (wpAny_holding (wpAny_mono (h h' tk acc kp hacc) (fun v s' hq => ?_) fun _ _ e => e))
  exact wpAny_pure ⟨_, rfl, hq⟩
end
section
variable {X : Cx}
def Vw (w : World) (H : Hp) (a : Addr) : Prop := (∃ kvs, H a = some (.dK kvs)) ∨ (∃ kvs, H a = some (.dT kvs)) ∨ ∃ es, H a = some (DictN w a es)
theorem vw_raw {P : Program} {w : World} {H : Hp} {h : Heap} {a : Addr} (ok : HOk P w H h) (v : Vw w H a) : (a == sysModules) = false ∧ ∃ es ep, h.DictRaw a es ep := by
  rcases v with ⟨kvs, e⟩ | ⟨kvs, e⟩ | ⟨es, e⟩
  · obtain ⟨_, z, vs, _, dd⟩ := dk_of ok e
    obtain ⟨o, es, ep, ho, hx, hd, _⟩ := dd
    exact ⟨z, es, ep, o, ho, hx, hd⟩
  · obtain ⟨_, z, xs, _, o, es, ep, ho, hx, hd, _⟩ := dt_of ok e
    exact ⟨z, es, ep, o, ho, hx, hd⟩
  · obtain ⟨⟨_, z, xs, _, o, dd, ep, ho, hx, hd, _⟩, _⟩ := (show ObjOk P w H h a (DictN w a es) from ok a _ e)
    exact ⟨z, dd, ep, o, ho, hx, hd⟩
def rKeysA (w : World) : V → List V → Hp → VK → Prop := fun x xs H Q => ∃ a : Addr, x = .ref a ∧ xs = [] ∧ Vw w H a ∧ ∀ p, H p = none → Q (.ref p) (upd H p (keysO p a))
theorem mt_keysA : MtR X "dict.keys" (rKeysA X.w) := by
  intro pins s σ H x xs v us Q I rx rxs h
  obtain ⟨a, rfl, rfl, ha, q⟩ := h
  cases rx
  cases rxs
  obtain ⟨hd, es, ep, hm⟩ := vw_raw I.hok ha
  refine call_meetsIn PySem.F.slot_dict_keys hm.typeIs PySem.F.entry_dict_keys (PySem.F.args_dict_keys_1 _) (meets_dict_keys_raw a hd) ⟨⟨_, _, hm⟩, ?_⟩
  have hf : H s.heap.objs.size = none := I.hok.fresh (Nat.le_refl _)
  exact ⟨.ref s.heap.objs.size, upd H s.heap.objs.size (keysO s.heap.objs.size a), I.laid (t' := s.toks) (fun b u e => Heap.get?_push_of_some _ e) (Nat.le_refl _) (keysO_ok (Heap.get?_push_size _ rfl)), rfl, q _ hf⟩
def rSortKK : List V → Hp → VK → Prop := fun vs H Q => ∃ (p a : Addr) (kvs : List (L2.Key × V)) (ks : List Int), vs = [V.ref p] ∧ H p = some (keysO p a) ∧ H a = some (.dK kvs) ∧ kvs.map (·.1) = ks.map Sum.inl ∧ ks.length < 64 ∧
  ∀ (ys : List Int) (q : Addr), ys.Perm ks → ys.Pairwise (· ≤ ·) → H q = none → Q (.ref q) (upd H q (.lst (ys.map V.int)))
theorem cr_sortKK (cm : X.calm = true) : CallR X (.builtin "sorted") rSortKK := by
  intro pins s σ H vs us Q I r ⟨p, a, kvs, ks, ev, hp, ha, ek, few, q⟩
  subst ev
  obtain ⟨u, rfl, ru⟩ := vals1 r
  cases ru
  obtain ⟨_, notSys, ws, rel, dd⟩ := dk_of I.hok ha
  obtain ⟨ep, at0⟩ := dd.dictAt
  have ew : ws.map (·.1) = ks.map Sum.inl := rel.keys.symm.trans ek
  have nw : ws.length = ks.length := by simpa only [List.length_map] using congrArg List.length ew
  refine sorted_src (kw := []) (PySem.W.kdl_keys (knd := mixKind X.prog X.w) (r := p) (kvs := ws) (ep := ep)) (I.ok.hd cm) ⟨(I.hok p _ hp).1, at0⟩ (by rw [nw, sizeLine_eq]; omega) (args_sorted1 _) fun g tk acc kp items => ?_
  have na : acc.toList.length = ks.length := Array.length_toList.trans (items.1.trans nw)
  have allI : IntsAre acc.toList ks := ints_each na fun j v ej => by
    obtain ⟨k, x, ex, isk⟩ := items.2 j v ((Array.getElem?_toList).symm.trans ej)
    have ek2 : (ks.map Sum.inl)[j]? = some k := by rw [← ew, List.getElem?_map, ex, Option.map_some]
    obtain ⟨y, ey, rfl⟩ := Option.map_eq_some_iff.mp ((List.getElem?_map ..).symm.trans ek2)
    obtain ⟨i, t, z, ev⟩ | ⟨_, _, z, _⟩ := keyIs_shape (k := Sum.inl y) isk
    · injection z with z
      exact ⟨y, t, ey, by rw [z]; exact ev⟩
    · injection z
  have Ig : Inv X pins σ H { s with heap := g, toks := tk } := I.kept kp
  have at1 : (g.push (seqObj "list" acc.toList.toArray 0)).get? g.objs.size = some (seqObj "list" acc.toList.toArray 0) := Heap.get?_push_size _ rfl
  refine wpAny_call_entry slot_list_sort ⟨_, at1, rfl⟩ entry_list_sort (list_sort_tree (s := { s with heap := g.push (seqObj "list" acc.toList.toArray 0), toks := tk }) at1 allI (by omega) fun out ys o1 o2 o3 => ⟨_, rfl, ?_⟩) (args_list_sort _)
  obtain ⟨e2, at2⟩ := sortedHeap_at (vs := acc.toList) (out := out) at1
  have small : (ys.map V.int).length ≤ sizeLine := by rw [List.length_map, o2.length_eq, sizeLine_eq]; omega
  have ok2 : ObjOk X.prog X.w (upd H g.objs.size (.lst (ys.map V.int))) (sortedHeap (g.push (seqObj "list" acc.toList.toArray 0)) g.objs.size acc.toList out) g.objs.size (.lst (ys.map V.int)) := ⟨small, out.toList, e2, vals_of_ints o1, by rw [Array.toArray_toList]; exact at2⟩
  have old : ∀ b o, g.get? b = some o → (sortedHeap (g.push (seqObj "list" acc.toList.toArray 0)) g.objs.size acc.toList out).get? b = some o := fun b o e => by
    have lt := Heap.lt_size e
    rw [sortedHeap_old (show b ≠ g.objs.size from Nat.ne_of_lt lt) (show b < (g.push _).objs.size by rw [size_push']; exact Nat.lt_succ_of_lt lt)]
    exact Heap.get?_push_of_some _ e
  exact ⟨.ref g.objs.size, _, Ig.laid (t' := tk) old (Nat.le_refl _) ok2, rfl, q ys _ o2 o3 (Ig.hok.fresh (Nat.le_refl _))⟩
theorem leT2_trans (x y z : PK) (h1 : leT2 x y = true) (h2 : leT2 y z = true) : leT2 x z = true := by
  unfold leT2 at *
  rw [decide_eq_true_eq] at *
  exact Std.le_trans h1 h2
theorem leT2_total (x y : PK) : (leT2 x y || leT2 y x) = true := by
  unfold leT2
  rw [Bool.or_eq_true, decide_eq_true_eq, decide_eq_true_eq]
  exact Std.le_total
theorem insS_perm (x : PK) : ∀ l : List PK, (insS x l).Perm (x :: l)
  | [] => List.Perm.refl _
  | y :: r => by
    unfold insS
    cases leT2 x y with
    | true => exact List.Perm.refl _
    | false => exact ((insS_perm x r).cons y).trans (List.Perm.swap x y r)
theorem insS_srt (x : PK) : ∀ l : List PK, l.Pairwise (fun a b => leT2 a b = true) → (insS x l).Pairwise fun a b => leT2 a b = true
  | [], _ => List.pairwise_singleton _ _
  | y :: r, h => by
    obtain ⟨h1, h2⟩ := List.pairwise_cons.mp h
    unfold insS
    cases e : leT2 x y with
    | true =>
      refine List.pairwise_cons.mpr ⟨fun z hz => ?_, h⟩
      rcases List.mem_cons.mp hz with z1 | z1
      · rw [z1]; exact e
      · exact leT2_trans _ _ _ e (h1 z z1)
    | false =>
      refine List.pairwise_cons.mpr ⟨fun z hz => ?_, insS_srt x r h2⟩
      rcases List.mem_cons.mp ((insS_perm x r).mem_iff.mp hz) with z1 | z1
      · rw [z1]
        have := leT2_total x y
        rw [e, Bool.false_or] at this
        exact this
      · exact h1 z z1
theorem sortS_srt : ∀ l : List PK, (sortS l).Pairwise fun a b => leT2 a b = true
  | [] => List.Pairwise.nil
  | x :: r => insS_srt x _ (sortS_srt r)
theorem insS_kept (z x : PK) : ∀ l : List PK, (insS x l).filter (PySem.W.Srt.alike leT2 z) = (x :: l).filter (PySem.W.Srt.alike leT2 z)
  | [] => rfl
  | y :: r => by
    unfold insS
    cases e : leT2 x y with
    | true => rfl
    | false =>
      show (y :: insS x r).filter _ = _
      have ih := insS_kept z x r
      by_cases ax : PySem.W.Srt.alike leT2 z x = true
      · by_cases ay : PySem.W.Srt.alike leT2 z y = true
        · exfalso
          unfold PySem.W.Srt.alike at ax ay
          rw [Bool.and_eq_true] at ax ay
          rw [leT2_trans _ _ _ ax.2 ay.1] at e
          cases e
        · rw [List.filter_cons_of_neg ay, ih, List.filter_cons_of_pos ax, List.filter_cons_of_pos ax, List.filter_cons_of_neg ay]
      · rw [List.filter_cons_of_neg ax] at ih
        rw [List.filter_cons_of_neg ax]
        by_cases ay : PySem.W.Srt.alike leT2 z y = true
        · rw [List.filter_cons_of_pos ay, List.filter_cons_of_pos ay, ih]
        · rw [List.filter_cons_of_neg ay, List.filter_cons_of_neg ay, ih]
theorem sortS_kept (z : PK) : ∀ l : List PK, (sortS l).filter (PySem.W.Srt.alike leT2 z) = l.filter (PySem.W.Srt.alike leT2 z)
  | [] => rfl
  | x :: r => by
    show (insS x (sortS r)).filter _ = _
    rw [insS_kept]
    by_cases ax : PySem.W.Srt.alike leT2 z x = true
    · rw [List.filter_cons_of_pos ax, List.filter_cons_of_pos ax, sortS_kept z r]
    · rw [List.filter_cons_of_neg ax, List.filter_cons_of_neg ax, sortS_kept z r]
theorem sortS_is (l : List PK) : l.mergeSort (PySem.W.dataLe false fun q => .str (txt q)) = sortS l := by
  rw [PySem.W.dataLe_str]
  exact (PySem.W.Srt.the leT2 leT2_trans leT2_total (sortS_srt l) fun z => sortS_kept z l).symm
abbrev KPs (H : Hp) : List NE → List PK → Prop := Paired fun (e : NE) (q : PK) => H e.2.1 = some (.tup (pkVs q))
theorem keyP_dp {K : PySem.W.Frag} {H : Hp} {b : Addr} {q : PK} (e : H b = some (.tup (pkVs q))) : Dp K H (.ref b) (pkD q) := by
  obtain ⟨o, j⟩ := q
  cases o with
  | none => exact .tup (SqT.of e) (.cons .non (.cons (.int j) .nil))
  | some i => exact .tup (SqT.of e) (.cons (.int i) (.cons (.int j) .nil))
theorem keys_each {H : Hp} : ∀ {nes : List NE} {qs : List PK} {us : List Value}, KPs H nes qs → us = nes.map (fun e => Value.ref e.2.1) → PySem.W.EachIs (fun v (q : PK) => ∃ b, v = Value.ref b ∧ H b = some (.tup (pkVs q))) us qs
  | _, _, _, .nil, e => by subst e; exact .nil
  | _, _, _, .cons h t, e => by subst e; exact .cons ⟨_, rfl, h⟩ (keys_each t rfl)
theorem each_addrs {H : Hp} : ∀ {us : List Value} {qs : List PK}, PySem.W.EachIs (fun v (q : PK) => ∃ b, v = Value.ref b ∧ H b = some (.tup (pkVs q))) us qs → ∃ bs : List Addr, us = bs.map Value.ref ∧ Paired (fun b (q : PK) => H b = some (.tup (pkVs q))) bs qs
  | _, _, .nil => ⟨[], rfl, .nil⟩
  | _, _, .cons ⟨b, e, h⟩ t => by
    obtain ⟨bs, e2, p⟩ := each_addrs t
    exact ⟨b :: bs, by rw [e, e2]; rfl, .cons h p⟩
theorem vals_refs : ∀ bs : List Addr, Vals (bs.map V.ref) (bs.map Value.ref)
  | [] => .nil
  | _ :: bs => .cons rfl (vals_refs bs)
theorem raw_keys {acc : Array Value} {dd : Array DictEntry} {w : World} {nes : List NE} {xs : List (NestedKey × Addr × Value)} (pr : Paired (fun (p : NE) (q : NestedKey × Addr × Value) => p.1 = q.1 ∧ p.2.1 = q.2.1 ∧ RelV p.2.2 q.2.2) nes xs) (el : dd.toList = xs.map fun x => (⟨x.1.hash w, .ref x.2.1, x.2.2⟩ : DictEntry)) (items : ItemsOf (fun i v => ∃ hi : i < dd.size, v = dd[i].key) acc dd.size) : acc.toList = nes.map fun e => Value.ref e.2.1 := by
  have elx : dd.toList.map (·.key) = nes.map fun e => Value.ref e.2.1 := by
    rw [el, List.map_map]
    have : ∀ {nes : List NE} {xs : List (NestedKey × Addr × Value)}, Paired (fun (p : NE) (q : NestedKey × Addr × Value) => p.1 = q.1 ∧ p.2.1 = q.2.1 ∧ RelV p.2.2 q.2.2) nes xs → xs.map (fun x => Value.ref x.2.1) = nes.map fun e => Value.ref e.2.1 := fun {nes xs} pr => by
      induction pr with
      | nil => rfl
      | cons h _ ih => rw [List.map_cons, List.map_cons, ih, h.2.1]
    exact this pr
  rw [← elx]
  apply List.ext_getElem?
  intro j
  rw [List.getElem?_map]
  cases ej : acc.toList[j]? with
  | none =>
    have h1 := List.getElem?_eq_none_iff.mp ej
    rw [Array.length_toList, items.1] at h1
    rw [List.getElem?_eq_none (by rw [Array.length_toList]; exact h1)]
    rfl
  | some v =>
    obtain ⟨hi, hv⟩ := items.2 j v ((Array.getElem?_toList).symm.trans ej)
    rw [Array.getElem?_toList, Array.getElem?_eq_getElem hi, Option.map_some, hv]
def rSortStr (w : World) : List V → List V → Hp → VK → Prop := fun vs zs H Q => ∃ (p a : Addr) (nes : List NE) (qs : List PK), vs = [V.ref p] ∧ zs = [V.ty "str"] ∧ H p = some (keysO p a) ∧ H a = some (DictN w a nes) ∧ KPs H nes qs ∧ (∀ q ∈ qs, okT2 q = true) ∧
  ∀ (bs : List Addr) (r : Addr), Paired (fun b (q : PK) => H b = some (.tup (pkVs q))) bs (sortS qs) → H r = none → Q (.ref r) (upd H r (.lst (bs.map V.ref)))
theorem cr_sortStr (cm : X.calm = true) (gd : X.A.guards = some []) (hu : X.A.units + 65 < cLine) : CallRK X (.builtin "sorted") [Str.ofString "key"] (rSortStr X.w) := by
  intro pins s σ H vs zs us ws Q I r rz ⟨p, a, nes, qs, ev, ez, hp, ha, kp, tl, q⟩
  subst ev
  subst ez
  obtain ⟨u, rfl, ru⟩ := vals1 r
  cases ru
  obtain ⟨z, rfl, r2⟩ := vals1 rz
  obtain rfl : z = Value.type "str" := r2
  obtain ⟨⟨ln, notSys, xs, pr, o, dd, ep, ho, hx, hd, el, nd⟩, _⟩ := (show ObjOk X.prog X.w H s.heap a (DictN X.w a nes) from I.hok a _ ha)
  have lx : nes.length = xs.length := Paired.length pr
  have ld : dd.size = xs.length := by rw [← Array.length_toList, el, List.length_map]
  refine sorted_src (kw := [(Str.ofString "key", Value.type "str")]) (KdlSrc.rawKeys (r := p) (d := a) (es := dd) (ep := ep)) (I.ok.hd cm) ⟨(I.hok p _ hp).1, o, ho, hx, hd⟩ (by omega) (ksk_s1 _ _) fun g tk acc kpt items => ?_
  have ea : acc.toList = nes.map fun e => Value.ref e.2.1 := by
    exact raw_keys pr el items
  have Ig : Inv X pins σ H { s with heap := g, toks := tk } := I.kept kpt
  have at1 : (g.push (seqObj "list" acc.toList.toArray 0)).get? g.objs.size = some (seqObj "list" acc.toList.toArray 0) := Heap.get?_push_size _ rfl
  have each := keys_each kp ea
  have ql : qs.length = nes.length := (Paired.length kp).symm
  have er : ∀ q : PK, (pkD q).hasDict = false ∧ (pkD q).depth = 1 := fun ⟨o, j⟩ => by
    cases o <;> exact ⟨by simp [pkD, PyData.hasDict, PyData.hasDictAll], by simp [pkD, PyData.depth, PyData.depthAll]⟩
  refine PySem.W.list_sort_key_data (A := X.A.in1) (s := { s with heap := g.push (seqObj "list" acc.toList.toArray 0), toks := tk }) (a := g.objs.size) (f := .type "str") (b := false) (fun q : PK => .str (txt q)) at1 each ?_ ?_ (by rw [ql]; exact ln) (fun x _ => by show X.A.units + 1 + 1 + 0 < cLine; omega) (ksk_l1 _ _) rfl (fun v x ⟨b, ev, hb⟩ hx h tk2 keep => ?_) fun out c h' tk2 keep at2 lo eo => ?_
  · intro x hx y hy
    obtain ⟨q1, _, rfl⟩ := List.mem_map.mp hx
    obtain ⟨q2, _, rfl⟩ := List.mem_map.mp hy
    rfl
  · exact PySem.W.Sortable.others (enc := fun q : PK => PyData.str (txt q)) fun q => ⟨(by intro e; cases e), fun xs e => by cases e⟩
  · subst ev
    obtain ⟨as, ra⟩ := Dp.reads Ig (pkD x) (.ref b) (.ref b) (keyP_dp hb) rfl
    have kg : ∀ c oo, g.get? c = some oo → h.get? c = some oo := fun c oo e => keep c oo (Nat.ne_of_lt (Heap.lt_size e)) (Heap.get?_push_of_some _ e)
    obtain ⟨t1, t2⟩ := (Bool.and_eq_true _ _).mp (tl x hx)
    refine str_of_reads ra t2 (fun e => by rw [(er x).1] at e; cases e) gd (by rw [(er x).2]; show X.A.units + 1 + 1 + (1 + 3) < cLine; omega) kg (fun h2 u tk3 k2 => ⟨h2, tk3, rfl, k2, .str _ _⟩) ?_
    have := Nat.le_of_ble_eq_true t1
    show (txt x).length ≤ sizeLine
    rw [sizeLine_eq]
    omega
  · rw [sortS_is] at eo
    obtain ⟨bs, eb, pb⟩ := each_addrs eo
    have small : (bs.map V.ref).length ≤ sizeLine := by
      have l1 : bs.length = out.length := by rw [eb, List.length_map]
      rw [List.length_map]
      omega
    have old : ∀ b o, g.get? b = some o → h'.get? b = some o := fun b o e => keep b o (Nat.ne_of_lt (Heap.lt_size e)) (Heap.get?_push_of_some _ e)
    exact ⟨.ref g.objs.size, upd H g.objs.size (.lst (bs.map V.ref)), Ig.laid (t' := tk2) old (Nat.le_refl _) ⟨small, out, c, by rw [eb]; exact vals_refs bs, at2⟩, rfl, q bs _ pb (Ig.hok.fresh (Nat.le_refl _))⟩
abbrev KIs (H : Hp) : List NE → List (List Int) → Prop := Paired fun (e : NE) (l : List Int) => H e.2.1 = some (.tup (l.map V.int)) ∧ l ≠ []
theorem keys_eachI {H : Hp} : ∀ {nes : List NE} {ls : List (List Int)}, KIs H nes ls → ∀ v ∈ nes.map (fun e => V.ref e.2.1), ∃ t, v = V.ref t ∧ H t = some (.tup ((kOf H v).map V.int)) ∧ kOf H v ≠ []
  | _, _, .nil, v, hv => nomatch hv
  | _, _, .cons (a := e) (b := l) h t, v, hv => by
    rcases List.mem_cons.mp hv with z | z
    · subst z
      have ek : kOf H (.ref e.2.1) = l := by
        show (match H e.2.1 with | some (.tup us) => intsV us | _ => []) = l
        rw [h.1]
        exact intsV_map l
      exact ⟨_, rfl, by rw [ek]; exact h.1, by rw [ek]; exact h.2⟩
    · exact keys_eachI t v z
theorem keys_mapI {H : Hp} : ∀ {nes : List NE} {ls : List (List Int)}, KIs H nes ls → (nes.map fun e => V.ref e.2.1).map (kOf H) = ls
  | _, _, .nil => rfl
  | _, _, .cons (a := e) (b := l) h t => by
    rw [List.map_cons, List.map_cons, keys_mapI t]
    congr 1
    show (match H e.2.1 with | some (.tup us) => intsV us | _ => []) = l
    rw [h.1]
    exact intsV_map l
def rSortKN (w : World) : List V → Hp → VK → Prop := fun vs H Q => ∃ (p a : Addr) (nes : List NE) (ls : List (List Int)), vs = [V.ref p] ∧ H p = some (keysO p a) ∧ H a = some (DictN w a nes) ∧ KIs H nes ls ∧
  ∀ (ys : List V) (r : Addr), (∀ v ∈ ys, ∃ t, v = V.ref t ∧ H t = some (.tup ((kOf H v).map V.int)) ∧ kOf H v ≠ []) → ys.map (kOf H) = sortT ls → H r = none → Q (.ref r) (upd H r (.lst ys))
theorem cr_sortKN (cm : X.calm = true) : CallR X (.builtin "sorted") (rSortKN X.w) := by
  intro pins s σ H vs us Q I r ⟨p, a, nes, ls, ev, hp, ha, kp, q⟩
  subst ev
  obtain ⟨u, rfl, ru⟩ := vals1 r
  cases ru
  obtain ⟨⟨ln, notSys, xs, pr, o, dd, ep, ho, hx, hd, el, nd⟩, _⟩ := (show ObjOk X.prog X.w H s.heap a (DictN X.w a nes) from I.hok a _ ha)
  have lx : nes.length = xs.length := Paired.length pr
  have ld : dd.size = xs.length := by rw [← Array.length_toList, el, List.length_map]
  refine sorted_src (kw := []) (KdlSrc.rawKeys (r := p) (d := a) (es := dd) (ep := ep)) (I.ok.hd cm) ⟨(I.hok p _ hp).1, o, ho, hx, hd⟩ (by omega) (args_sorted1 _) fun g tk acc kpt items => ?_
  have ea := raw_keys pr el items
  have Ig : Inv X pins σ H { s with heap := g, toks := tk } := I.kept kpt
  have at1 : (g.push (seqObj "list" acc.toList.toArray 0)).get? g.objs.size = some (seqObj "list" acc.toList.toArray 0) := Heap.get?_push_size _ rfl
  have Ip : Inv X pins σ H { s with heap := g.push (seqObj "list" acc.toList.toArray 0), toks := tk } := Ig.kept fun b ob e => Heap.get?_push_of_some _ e
  have na : acc.toList.length ≤ sizeLine := by rw [ea, List.length_map]; exact ln
  have refs : ∀ v ∈ acc.toList, ∃ t, v = Value.ref t ∧ H t = some (.tup ((kOf H (.ref t)).map V.int)) ∧ kOf H (.ref t) ≠ [] := fun v hv => by
    rw [ea] at hv
    obtain ⟨e, he, rfl⟩ := List.mem_map.mp hv
    obtain ⟨t, et, h1, h2⟩ := keys_eachI kp (.ref e.2.1) (List.mem_map.mpr ⟨e, he, rfl⟩)
    cases et
    exact ⟨_, rfl, h1, h2⟩
  have tups : ∀ v ∈ acc.toList, IsTI (g.push (seqObj "list" acc.toList.toArray 0)) v (kOf H (backV v)) := fun v hv => by
    obtain ⟨t, rfl, h1, h2⟩ := refs v hv
    obtain ⟨_, its, rr, oo, ho2, hc2, n2, hd2⟩ := Ip.hok _ _ h1
    exact ⟨t, oo, _, n2, rfl, ho2, hc2, hd2, rr.ints, h2⟩
  refine wpAny_call_entry slot_list_sort ⟨_, at1, rfl⟩ entry_list_sort
    (SrtO.list_sort_ord (NtL.swo_lexL fun u => kOf H (backV u)) (s := { s with heap := g.push (seqObj "list" acc.toList.toArray 0), toks := tk }) at1 na (fun h2 => sortableTI (s := { s with heap := g.push (seqObj "list" acc.toList.toArray 0), toks := tk }) (Nat.lt_of_lt_of_le Nat.zero_lt_two h2) tups fun oo e => ?_) fun out hs hb => ⟨_, rfl, ?_⟩)
    (args_list_sort _)
  · cases e.symm.trans at1
    intro c
    exact absurd (Value.type.inj c) (by decide)
  · obtain ⟨e2, at2⟩ := sortedHeap_at (vs := acc.toList) (out := out.toArray) at1
    have pm : out.Perm acc.toList := hb.perm
    have rf : ∀ u ∈ out, ∃ t, u = Value.ref t := fun u hu => by
      obtain ⟨t, e, _⟩ := refs u (pm.mem_iff.mp hu)
      exact ⟨t, e⟩
    have eb : acc.toList.map backV = nes.map fun e => V.ref e.2.1 := by
      rw [ea, List.map_map]
      rfl
    have pb : (out.map backV).Perm (nes.map fun e => V.ref e.2.1) := by rw [← eb]; exact pm.map backV
    have es : (out.map backV).map (kOf H) = sortT ls := by
      refine srtT_same ?_ (List.pairwise_map.mpr (List.pairwise_map.mpr hs)) (sortT_srt _)
      exact ((pb.map (kOf H)).trans (List.Perm.of_eq (keys_mapI kp))).trans (sortT_perm _).symm
    have old : ∀ b o, g.get? b = some o → (sortedHeap (g.push (seqObj "list" acc.toList.toArray 0)) g.objs.size acc.toList out.toArray).get? b = some o := fun b o e => by
      have lt := Heap.lt_size e
      rw [sortedHeap_old (show b ≠ g.objs.size from Nat.ne_of_lt lt) (show b < (g.push _).objs.size by rw [size_push']; exact Nat.lt_succ_of_lt lt)]
      exact Heap.get?_push_of_some _ e
    refine ⟨.ref g.objs.size, upd H g.objs.size (.lst (out.map backV)), Ig.laid (t' := tk) old (Nat.le_refl _) ⟨by rw [pb.length_eq, List.length_map]; exact ln, out, e2, vals_back rf, at2⟩, rfl, q _ _ (fun v hv => ?_) es (Ig.hok.fresh (Nat.le_refl _))⟩
    exact keys_eachI kp v (pb.mem_iff.mp hv)
def tKeysA (w : World) (td : TE) : TE := fun σ H Q => td σ H fun x H1 => ∃ a : Addr, x = .ref a ∧ Vw w H1 a ∧ ∀ p, H1 p = none → Q (.ref p) (upd H1 p (keysO p a))
theorem pe_keysA {o : Expr} {td : TE} {apos cpos : Pos} (ho : PE X o td) (hbase : attributeBase o "keys" X.env (eval o X.env) = eval o X.env) (hline : (apos.endLine == cpos.line) = true) : PE X (.Call (.Attribute o "keys" apos) [] [] cpos) (tKeysA X.w td) := by
  refine ⟨fun pins s σ H Q I h => wpAny_Call_method0_late hbase hline (thn (ho.run pins s σ H _ I h) fun v s1 ⟨x, H1, I1, r1, a, ex, vw, q1⟩ => ?_)⟩
  subst ex
  obtain rfl : v = Value.ref a := r1
  obtain ⟨_, es, ep, hm⟩ := vw_raw I1.hok vw
  refine ⟨"dict", "dict.keys", PySem.F.plainAttrs_dict, PySem.F.slot_dict_keys, PySem.F.type_dict_keys, hm.typeIs, fun b q => ?_, Calls.callWith_builtin rfl (PySem.evalArgs_none (mt_keysA pins s1 σ H1 (.ref a) [] (.ref a) [] Q I1 rfl .nil ⟨a, rfl, rfl, vw, q1⟩))⟩
  cases q
  obtain ⟨o, h1, h2, _⟩ := hm
  exact ⟨o, h1, h2.2.1⟩
end
end Pyx

namespace Pyx
open PySem PySem.Spec PyProof.Rows L2
section
variable {X : Cx} {c : Rc} {call : Nat → List PV → PH → R PV} {n : Nat} {rec : CE → PSt → PH → R PV} {a b d e : Expr} {ca cb cd ce : CE} {pos : Pos}
theorem isDic_at {f : Nat → Addr} {h : PH} {H : Hp} {v : PV} {x : V} (r : Rel c f h H) (rv : RV c f h.n H v x) (e : isDic v h = true) : ∃ p, x = .ref p ∧ IsDx c.w H p := by
  unfold isDic at e
  split at e
  · rename_i i
    cases rv with
    | ref hi =>
      split at e
      · rename_i kvs g
        cases r.obj _ _ g with
        | dK h1 _ _ => exact ⟨_, rfl, .inl (.inl ⟨_, .inl h1⟩)⟩
      · rename_i kvs g
        cases r.obj _ _ g with
        | dT h1 _ _ => exact ⟨_, rfl, .inl (.inr ⟨_, .inl h1⟩)⟩
      · rename_i kvs g
        cases r.obj _ _ g with
        | lT h1 _ _ => exact ⟨_, rfl, .inl (.inr ⟨_, .inr ⟨_, h1⟩⟩)⟩
      · rename_i kvs g
        cases r.obj _ _ g with
        | lK h1 _ _ => exact ⟨_, rfl, .inl (.inl ⟨_, .inr ⟨_, h1⟩⟩)⟩
      · rename_i kvs g
        cases r.obj _ _ g with
        | dN h1 h2 _ => exact ⟨_, rfl, .inr ⟨_, h1, h2.nes⟩⟩
      · cases e
  · cases e
theorem s_get2 {apos cpos : Pos} {x : Expr} {cx : CE} (hW : X.w = c.w) (hu : X.A.units + 65 < cLine) (hb : noBase d = true) (h1 : noStar e = true) (h2 : noStar x = true) (hline : (apos.endLine == cpos.line) = true) (hd : PE X d (tE c (rec cd))) (he : PE X e (tE c (rec ce))) (hx : PE X x (tE c (rec cx))) :
    PE X (.Call (.Attribute d "get" apos) [e, x] [] cpos) (tE c (eGet2 rec cd ce cx)) := by
  have m : M2 X d "get" apos e x cpos := ⟨base_of hb _ _ _, by rw [star_of h1, star_of h2]; rfl, hline, by rw [star_of h1, star_of h2]; rfl⟩
  refine pe_w (pe_xget2 hu hd he hx m) fun σ H Q ⟨f, h, st, r, rs, p⟩ => ?_
  unfold eGet2 at p
  split at p
  · exact p.elim
  · rename_i v h1 e1
    refine tE_of e1 r rs fun f1 H1 y x1 r1 rs1 rv1 => ?_
    split at p
    · exact p.elim
    · rename_i ed
      obtain ⟨q, rfl, dq⟩ := isDic_at r1 rv1 ed
      rw [hW]
      refine ⟨q, rfl, dq, ?_⟩
      split at p
      · exact p.elim
      · rename_i w h2 e2
        refine tE_of e2 r1 rs1 fun f2 H2 y2 x2 r2 rs2 rv2 => ?_
        split at p
        · exact p.elim
        · rename_i z h3 e3
          refine tE_of e3 r2 rs2 fun f3 H3 y3 x3 r3 rs3 rv3 => ?_
          have rv1' := (rv1.mono x2).mono x3
          have rv2' := rv2.mono x3
          have xx := (x1.trans x2).trans x3
          split at p
          · rename_i u e4
            obtain ⟨a', o, ea, g, q4⟩ := dLook_at r3 rv1' rv2' e4
            cases ea
            refine ⟨o, g, ?_⟩
            rcases q4 with ⟨z1, _⟩ | ⟨p1, q1, z1, z2, z3⟩
            · cases z1
            · cases z1
              subst z2
              exact p _ _ xx r3 _ z3
          · rename_i e4
            obtain ⟨a', o, ea, g, q4⟩ := dLook_at r3 rv1' rv2' e4
            cases ea
            refine ⟨o, g, ?_⟩
            rcases q4 with ⟨_, z2⟩ | ⟨p1, q1, z1, z2, z3⟩
            · subst z2
              exact p _ _ xx r3 _ rv3
            · cases z1
          · exact p.elim
theorem kT_map (ks : List Int) : (kT ks).map kV = ks.map V.int := by
  unfold kT
  rw [List.map_map]
  rfl
theorem s_dispT {k v : Expr} {ck cv : CE} (hu : X.A.units + 65 < cLine) (hk : PE X k (tE c (rec ck))) (hv : PE X v (tE c (rec cv))) : PE X (.Dict [some k] [v] pos) (tE c (eDispT rec ck cv)) := by
  refine pe_w (pe_dispT (by omega) hk hv) fun σ H Q ⟨f, h, st, r, rs, p⟩ => fun q hq => ?_
  obtain ⟨r1, x1⟩ := r.lays (o := .dT []) (u := .dT []) hq (.dT upd_same .nil trivial)
  unfold eDispT at p
  split at p
  · exact p.elim
  · rename_i w h1 e1
    refine tE_of e1 r1 (rs.mono x1) fun f1 H1 y x2 r2 rs2 rv2 => ?_
    split at p
    · exact p.elim
    · rename_i z h2 e2
      refine tE_of e2 r2 rs2 fun f2 H2 y2 x3 r3 rs3 rv3 => ?_
      have xx := x2.trans x3
      have eq : f2 h.n = q := by rw [xx.eq _ (Nat.lt_succ_self h.n)]; exact ext1_at
      split at p
      · rename_i ks g ek
        obtain ⟨b', eb, hb⟩ := keyT_at (rv2.mono x3) ek
        subst eb
        cases r3.obj _ _ g with
        | dT g1 g2 g3 =>
          cases g2
          obtain ⟨r4, x4⟩ := r3.writeT (kvs' := [(ks, z)]) (ws := [(kT ks, y2)]) g (.cons rv3 .nil) ⟨rfl, trivial⟩
          rw [eq] at g1 r4 x4
          refine ⟨g1, kT ks, b', rfl, hb, ?_⟩
          have zz := RV.ref (c := c) (f := f2) (n := h2.n) (H := upd H2 q (.dT [(kT ks, y2)])) (get_lt g)
          rw [eq] at zz
          exact p _ _ ((x1.trans xx).trans x4) r4 _ zz
      · exact p.elim
theorem rd_emp {κ κ' : Type} {ek : κ → κ'} {f : Nat → Addr} {n : Nat} {H : Hp} {r : List (κ × PV)} {s : List (κ' × V)} (h : RD ek c f n H r s) : s.isEmpty = r.isEmpty := by
  cases h <;> rfl
theorem rd_isE : ∀ σ H Q, tE c (eIsE rec ca) σ H Q → tOp rEqEmp (tE c (rec ca)) tDNewT σ H Q := fun σ H Q ⟨f, h, st, r, rs, p⟩ => by
  unfold eIsE at p
  split at p
  · rename_i i h1 e1
    refine tE_of e1 r rs fun f1 H1 x x1 r1 rs1 rv1 => fun q hq => ?_
    split at p
    · rename_i kvs g
      obtain ⟨r2, x2⟩ := r1.same (same_upd (o := .dT []) hq)
      cases rv1 with
      | ref hi =>
        cases r1.obj _ _ g with
        | dT h1 h2 h3 =>
          refine ⟨_, q, _, rfl, rfl, .inl (same_upd hq _ _ h1), upd_same, ?_⟩
          rw [rd_emp h2]
          exact p _ _ (x1.trans x2) r2 _ (.bl _)
    · exact p.elim
  · exact p.elim
theorem s_isE {p2 : Pos} (hu : X.A.units + 65 < cLine) (hm : behindInMarks .Eq (.Dict [] [] p2) = false) (ha : PE X a (tE c (rec ca))) : PE X (.Compare a [.Eq] [.Dict [] [] p2] pos) (tE c (eIsE rec ca)) :=
  pe_w (pe_cmpR (op_eq_emp (by omega)) ha pe_dnewT hm) rd_isE
theorem b_isE {p2 : Pos} (hu : X.A.units + 65 < cLine) (hm : behindInMarks .Eq (.Dict [] [] p2) = false) (ha : PE X a (tE c (rec ca))) : PT X (.Compare a [.Eq] [.Dict [] [] p2] pos) (tTest (tOp rEqEmp (tE c (rec ca)) tDNewT)) :=
  pt_cmpR (op_eq_emp (by omega)) ha pe_dnewT hm
theorem kI_back : ∀ (ks : List Int), intsV ((kT ks).map kV) = ks := fun ks => by
  rw [kT_map]
  exact intsV_map ks
theorem isKeys_keys {f : Nat → Addr} {n : Nat} {H : Hp} : ∀ {kvs : List (List Int × PV)} {ws : List (List L2.Key × V)} {bs : List Addr}, RD kT c f n H kvs ws → IsKeys H ws bs → (bs.map V.ref).map (kOf H) = kvs.map (·.1)
  | _, _, bs, .nil, ik => by cases ik; rfl
  | _, _, bs, .cons (k := k) hv t, ik => by
    cases ik with
    | cons e ik =>
      rename_i b bs
      rw [List.map_cons, List.map_cons, List.map_cons, isKeys_keys t ik]
      congr 1
      show (match H b with | some (.tup us) => intsV us | _ => []) = k
      have e : H b = some (.tup ((kT k).map kV)) := e
      rw [e]
      exact kI_back k
theorem rd_mem {f : Nat → Addr} {n : Nat} {H : Hp} : ∀ {kvs : List (List Int × PV)} {ws : List (List L2.Key × V)}, RD kT c f n H kvs ws → ∀ x ∈ ws, ∃ y ∈ kvs, x.1 = kT y.1
  | _, _, .nil, x, hx => nomatch hx
  | _, _, .cons hv t, x, hx => by
    rcases List.mem_cons.mp hx with e | hx
    · subst e
      exact ⟨_, List.mem_cons_self, rfl⟩
    · obtain ⟨y, hy, e⟩ := rd_mem t x hx
      exact ⟨y, List.mem_cons_of_mem _ hy, e⟩
def rSortAny (w : World) : List V → Hp → VK → Prop := fun vs H Q => rSortKT vs H Q ∨ rSortKK vs H Q ∨ rSortKN w vs H Q
theorem cr_sortAny (hc : X.calm = true) : CallR X (.builtin "sorted") (rSortAny X.w) := fun pins s σ H vs us Q I r h => h.elim (cr_sortKT hc pins s σ H vs us Q I r) fun h => h.elim (cr_sortKK hc pins s σ H vs us Q I r) (cr_sortKN hc pins s σ H vs us Q I r)
theorem rdI_keys {f : Nat → Addr} {n : Nat} {H : Hp} : ∀ {kvs : List (Int × PV)} {ws : List (L2.Key × V)}, RD kI c f n H kvs ws → ws.map (·.1) = (kvs.map (·.1)).map Sum.inl
  | _, _, .nil => rfl
  | _, _, .cons _ t => by rw [List.map_cons, List.map_cons, List.map_cons, rdI_keys t]; rfl
theorem rn_pks {f : Nat → Addr} {n : Nat} {H : Hp} : ∀ {kvs : List (NestedKey × PV)} {nes : List NE} {qs : List PK}, RN c f n H kvs nes → pksOf kvs = some qs → KPs H nes qs
  | _, _, _, .nil, e => by cases e; exact .nil
  | _, _, _, .cons (k := k) (r := r) _ _ kx _ t, e => by
    unfold pksOf at e
    split at e
    · rename_i q qs' e1 e2
      cases e
      exact .cons (kx q e1) (rn_pks t e2)
    · cases e
theorem kps_ii {H : Hp} : ∀ {nes : List NE} {qs : List PK} {ls : List (List Int)}, KPs H nes qs → iiOf qs = some ls → KIs H nes ls
  | _, _, _, .nil, e => by cases e; exact .nil
  | _, _, _, .cons (b := q) h t, e => by
    obtain ⟨o, j⟩ := q
    unfold iiOf at e
    split at e
    · rename_i z; cases z
    · rename_i i j' r z
      cases z
      split at e
      · rename_i l el
        cases e
        exact .cons ⟨h, fun z => nomatch z⟩ (kps_ii t el)
      · cases e
    · cases e
theorem rvs_pks {f : Nat → Addr} {n : Nat} {H : Hp} : ∀ {bs : List Addr} {qs : List PK}, Paired (fun b (q : PK) => H b = some (.tup (pkVs q))) bs qs → RVs c f n H (qs.map pkV) (bs.map V.ref)
  | _, _, .nil => .nil
  | _, _, .cons (b := q) h t => by
    obtain ⟨o, j⟩ := q
    cases o with
    | none => exact .cons (.tup h (.cons .non (.cons (.int j) .nil))) (rvs_pks t)
    | some i => exact .cons (.tup h (.cons (.int i) (.cons (.int j) .nil))) (rvs_pks t)
theorem s_skeys {p apos cpos : Pos} (hK : X.K = c.K) (hW : X.w = c.w) (hc : X.calm = true) (hb : noBase a = true) (hline : (apos.endLine == cpos.line) = true) (hg : Gl X "sorted") (hm : X.mg "sorted" = none) (ha : PE X a (tE c (rec ca))) :
    PE X (.Call (.Name "sorted" p) [.Call (.Attribute a "keys" apos) [] [] cpos] [] pos) (tE c (eSkeys rec ca)) := by
  have h1 := pe_keysA (X := X) (apos := apos) (cpos := cpos) ha (base_of hb _ _ _) hline
  refine pe_w (pe_callB (cr_sortAny hc) hg hm rfl (pa_cons h1 pa_nil rfl)) fun σ H Q ⟨f, h, st, r, rs, p⟩ => ?_
  unfold eSkeys at p
  split at p
  · rename_i i h1 e1
    refine tE_of e1 r rs fun f1 H1 x x1 r1 rs1 rv1 => ?_
    split at p
    · rename_i kvs g
      split at p
      · rename_i ene
        cases rv1 with
        | ref hi =>
          cases r1.obj _ _ g with
          | dT g1 g2 g3 =>
            rename_i ws
            refine ⟨_, rfl, .inr (.inl ⟨_, g1⟩), fun q hq => .inl ?_⟩
            obtain ⟨r2, x2⟩ := r1.same (same_upd (o := keysO q (f1 i)) hq)
            have rd2 := g2.mono x2
            refine ⟨q, f1 i, ws, kOf (upd H1 q (keysO q (f1 i))), rfl, upd_same, .inl (same_upd hq _ _ g1), fun b y hy eb => ?_, fun bs ys p3 ik h2 h3 h4 => ?_⟩
            · obtain ⟨z, hz, ez⟩ := rd_mem g2 y hy
              have ek : kOf (upd H1 q (keysO q (f1 i))) (.ref b) = z.1 := by
                show (match upd H1 q (keysO q (f1 i)) b with | some (.tup us) => intsV us | _ => []) = z.1
                rw [eb, ez]
                exact kI_back z.1
              rw [ek, ez]
              refine ⟨kT_map _, fun zz => ?_⟩
              have z1 := List.all_eq_true.mp ene z hz
              rw [zz] at z1
              cases z1
            · have e1 : ys.map (kOf (upd H1 q (keysO q (f1 i)))) = sortT (kvs.map (·.1)) := by
                refine srtT_same ?_ (List.pairwise_map.mpr h2) (sortT_srt _)
                refine ((h3.map _).trans ?_).trans (sortT_perm _).symm
                rw [isKeys_keys rd2 ik]
              have hk : ∀ v ∈ ys, ∃ t, v = V.ref t ∧ upd H1 q (keysO q (f1 i)) t = some (.tup ((kOf (upd H1 q (keysO q (f1 i))) v).map V.int)) ∧ kOf (upd H1 q (keysO q (f1 i))) v ≠ [] := fun v hv => by
                obtain ⟨b, hb2, rfl⟩ := List.mem_map.mp (h3.mem_iff.mp hv)
                obtain ⟨y, hy, eb⟩ := isKeys_mem ik b hb2
                obtain ⟨z, hz, ez⟩ := rd_mem g2 y hy
                have ek : kOf (upd H1 q (keysO q (f1 i))) (.ref b) = z.1 := by
                  show (match upd H1 q (keysO q (f1 i)) b with | some (.tup us) => intsV us | _ => []) = z.1
                  rw [eb, ez]
                  exact kI_back z.1
                rw [ek]
                refine ⟨b, rfl, ?_, fun zz => ?_⟩
                · rw [eb, ez, kT_map]
                · have z1 := List.all_eq_true.mp ene z hz
                  rw [zz] at z1
                  cases z1
              have rvs := rvs_tups (c := c) (f := f1) (n := h1.n) hk
              rw [e1] at rvs
              obtain ⟨z, k⟩ := okL_at r2 rvs ((p.mono x1).mono x2)
              exact k p3 h4
      · exact p.elim
    · rename_i kvs g
      split at p
      · rename_i few
        cases rv1 with
        | ref hi =>
          cases r1.obj _ _ g with
          | dK g1 g2 g3 =>
            rename_i ws
            refine ⟨_, rfl, .inl ⟨_, g1⟩, fun q hq => .inr (.inl ?_)⟩
            obtain ⟨r2, x2⟩ := r1.same (same_upd (o := keysO q (f1 i)) hq)
            refine ⟨q, f1 i, ws, kvs.map (·.1), rfl, upd_same, same_upd hq _ _ g1, rdI_keys g2, by rw [List.length_map]; exact Nat.le_of_ble_eq_true few, fun ys p3 h3 h4 h5 => ?_⟩
            have e1 : ys = sortI (kvs.map (·.1)) := PySem.W.ksm_same (h3.trans (sortI_perm _).symm) h4 (sortI_srt _)
            have rvs := rvs_ints (c := c) (f := f1) (n := h1.n) (H := upd H1 q (keysO q (f1 i))) ys
            rw [e1] at rvs ⊢
            obtain ⟨z, k⟩ := okL_at r2 rvs ((p.mono x1).mono x2)
            exact k p3 h5
      · exact p.elim
    · rename_i kvs g
      split at p
      · rename_i qs eqs
        split at p
        · rename_i ls els
          cases rv1 with
          | ref hi =>
            cases r1.obj _ _ g with
            | dN g1 g2 g3 =>
              rename_i nes
              refine ⟨_, rfl, .inr (.inr ⟨nes, by rw [hW]; exact g1⟩), fun q hq => .inr (.inr ?_)⟩
              obtain ⟨r2, x2⟩ := r1.same (same_upd (o := keysO q (f1 i)) hq)
              refine ⟨q, f1 i, nes, ls, rfl, upd_same, by rw [hW]; exact same_upd hq _ _ g1, kps_ii (rn_pks (g2.mono x2) eqs) els, fun ys p3 h3 h4 h5 => ?_⟩
              have rvs := rvs_tups (c := c) (f := f1) (n := h1.n) h3
              rw [h4] at rvs
              obtain ⟨z, k⟩ := okL_at r2 rvs ((p.mono x1).mono x2)
              exact k p3 h5
        · exact p.elim
      · exact p.elim
    · exact p.elim
  · exact p.elim
theorem s_skeysS {p apos cpos p2 kp : Pos} (hW : X.w = c.w) (hc : X.calm = true) (gd : X.A.guards = some []) (hu : X.A.units + 65 < cLine) (hb : noBase a = true) (hline : (apos.endLine == cpos.line) = true) (hg : Gl X "sorted") (hm : X.mg "sorted" = none) (hg2 : Gl X "str") (hm2 : X.mg "str" = none) (ha : PE X a (tE c (rec ca))) :
    PE X (.Call (.Name "sorted" p) [.Call (.Attribute a "keys" apos) [] [] cpos] [⟨some "key", .Name "str" p2, kp⟩] pos) (tE c (eSkeysS rec ca)) := by
  have h1 := pe_keysA (X := X) (apos := apos) (cpos := cpos) ha (base_of hb _ _ _) hline
  refine pe_w (pe_callBK (cr_sortStr hc gd hu) hg hm rfl (pa_cons h1 pa_nil rfl) (pk_cons (pe_ty (t := .str) (p := p2) rfl hg2 hm2) pk_nil)) fun σ H Q ⟨f, h, st, r, rs, p⟩ => ?_
  unfold eSkeysS at p
  split at p
  · rename_i i h1 e1
    refine tE_of e1 r rs fun f1 H1 x x1 r1 rs1 rv1 => ?_
    split at p
    · rename_i kvs g
      split at p
      · rename_i qs eqs
        split at p
        · rename_i okq
          cases rv1 with
          | ref hi =>
            cases r1.obj _ _ g with
            | dN g1 g2 g3 =>
              rename_i nes
              refine ⟨_, rfl, .inr (.inr ⟨nes, by rw [hW]; exact g1⟩), fun q hq => ?_⟩
              obtain ⟨r2, x2⟩ := r1.same (same_upd (o := keysO q (f1 i)) hq)
              refine ⟨q, f1 i, nes, qs, rfl, rfl, upd_same, by rw [hW]; exact same_upd hq _ _ g1, rn_pks (g2.mono x2) eqs, fun q2 hq2 => List.all_eq_true.mp okq q2 hq2, fun bs p3 h3 h5 => ?_⟩
              obtain ⟨z, k⟩ := okL_at r2 (rvs_pks (c := c) (f := f1) (n := h1.n) h3) ((p.mono x1).mono x2)
              exact k p3 h5
        · exact p.elim
      · exact p.elim
    · exact p.elim
  · exact p.elim
theorem lockP_at {f : Nat → Addr} {h : PH} {H : Hp} {st : PSt} {i a : Nat} {kvs : List (List Int × PV)} (e : lockP st h i = some (a, kvs)) : h.get a = some (.dT kvs) := by
  unfold lockP at e
  split at e
  · split at e
    · rename_i g
      cases e
      exact g
    · cases e
  · cases e
theorem unlock_at {α : Type} {f : Nat → Addr} {h : PH} {H : Hp} {a : Nat} {ws : List (List L2.Key × V)} {od : Obj} {r0 : R α} {Q : (Nat → Addr) → PH → Hp → α → Prop} (hi : a < h.n) (hw : H (f a) = some (.dT ws))
    (p : Post c f h.n H (unl a r0) Q) :
    Post c f h.n (upd H (f a) (.frz od (.dT ws))) r0 (fun f2 h2 H2 x => H2 (f a) = some (.frz od (.dT ws)) ∧ ∃ kvs2, Rel c f2 (h2.set a (.dT kvs2)) (upd H2 (f a) (.dT ws)) ∧ Q f2 (h2.set a (.dT kvs2)) (upd H2 (f a) (.dT ws)) x ∧ ∀ b vs, H2 b = some (.tup vs) → upd H2 (f a) (.dT ws) b = some (.tup vs)) := by
  cases r0 with
  | stuck => exact p
  | ok x h2 =>
    unfold unl at p
    intro f2 H2 x2 r2
    dsimp only at p
    split at p
    · rename_i kvs2 g
      have e1 : f2 a = f a := x2.eq _ hi
      have hu : H2 (f a) = some (.frz od (.dT ws)) := x2.frz _ _ _ trivial upd_same
      have r3 := r2.unlock g (od := od) (ws := ws) (by rw [e1]; exact hu)
      rw [e1] at r3
      have tm : ∀ b vs, H2 b = some (.tup vs) → upd H2 (f a) (.dT ws) b = some (.tup vs) := fun b vs q => by
        rw [upd_ne (ne_of q hu (fun z => by cases z))]
        exact q
      refine ⟨hu, kvs2, r3, p _ _ ⟨x2.le, x2.eq, fun b vs q => ?_, fun b q' q => ?_, fun b o qs dq q => ?_⟩ r3, tm⟩
      · have nb : b ≠ f a := ne_of q hw (fun z => by cases z)
        rw [upd_ne nb]
        exact x2.tup _ _ (by rw [upd_ne nb]; exact q)
      · have nb : b ≠ f a := ne_of q hw (fun z => by unfold LamX.CodeO at z; cases z)
        rw [upd_ne nb]
        exact x2.cod _ _ (by rw [upd_ne nb]; exact q)
      · have nb : b ≠ f a := ne_of q hw (fun z => by cases z)
        rw [upd_ne nb]
        exact x2.frz _ _ _ dq (by rw [upd_ne nb]; exact q)
    · exact p.elim
theorem lockK_at {f : Nat → Addr} {h : PH} {H : Hp} {st : PSt} {i a : Nat} {kvs : List (Int × PV)} (e : lockK st h i = some (a, kvs)) : h.get a = some (.dK kvs) := by
  unfold lockK at e
  split at e
  · split at e
    · rename_i g
      cases e
      exact g
    · cases e
  · cases e
theorem unlockK_at {α : Type} {f : Nat → Addr} {h : PH} {H : Hp} {a : Nat} {ws : List (L2.Key × V)} {od : Obj} {r0 : R α} {Q : (Nat → Addr) → PH → Hp → α → Prop} (hi : a < h.n) (hw : H (f a) = some (.dK ws))
    (p : Post c f h.n H (unlK a r0) Q) :
    Post c f h.n (upd H (f a) (.frz od (.dK ws))) r0 (fun f2 h2 H2 x => H2 (f a) = some (.frz od (.dK ws)) ∧ ∃ kvs2, Rel c f2 (h2.set a (.dK kvs2)) (upd H2 (f a) (.dK ws)) ∧ Q f2 (h2.set a (.dK kvs2)) (upd H2 (f a) (.dK ws)) x ∧ ∀ b vs, H2 b = some (.tup vs) → upd H2 (f a) (.dK ws) b = some (.tup vs)) := by
  cases r0 with
  | stuck => exact p
  | ok x h2 =>
    unfold unlK at p
    intro f2 H2 x2 r2
    dsimp only at p
    split at p
    · rename_i kvs2 g
      have e1 : f2 a = f a := x2.eq _ hi
      have hu : H2 (f a) = some (.frz od (.dK ws)) := x2.frz _ _ _ trivial upd_same
      have r3 := r2.unlockK g (od := od) (ws := ws) (by rw [e1]; exact hu)
      rw [e1] at r3
      have tm : ∀ b vs, H2 b = some (.tup vs) → upd H2 (f a) (.dK ws) b = some (.tup vs) := fun b vs q => by
        rw [upd_ne (ne_of q hu (fun z => by cases z))]
        exact q
      refine ⟨hu, kvs2, r3, p _ _ ⟨x2.le, x2.eq, fun b vs q => ?_, fun b q' q => ?_, fun b o qs dq q => ?_⟩ r3, tm⟩
      · have nb : b ≠ f a := ne_of q hw (fun z => by cases z)
        rw [upd_ne nb]
        exact x2.tup _ _ (by rw [upd_ne nb]; exact q)
      · have nb : b ≠ f a := ne_of q hw (fun z => by unfold LamX.CodeO at z; cases z)
        rw [upd_ne nb]
        exact x2.cod _ _ (by rw [upd_ne nb]; exact q)
      · have nb : b ≠ f a := ne_of q hw (fun z => by cases z)
        rw [upd_ne nb]
        exact x2.frz _ _ _ dq (by rw [upd_ne nb]; exact q)
    · exact p.elim
theorem s_lockE {i : Nat} (he : PE X e (tE c (rec ce))) : PE X e (tE c (eLockE rec i ce)) := by
  refine pe_w (pe_lock he) fun σ H Q ⟨f, h, st, r, rs, p⟩ => ?_
  unfold eLockE at p
  split at p
  · rename_i a kvs e1
    have g := lockP_at (f := f) (H := H) e1
    obtain ⟨ws, hw, k⟩ := r.lock g
    refine ⟨f a, .dT ws, hw, trivial, fun od => ?_⟩
    obtain ⟨r1, x1⟩ := k od
    refine ⟨f, h.set a (.lT kvs), st, r1, rs.mono x1, ?_⟩
    refine (unlock_at (od := od) (get_lt g) hw p).imp ?_
    intro f2 h2 H2 x ⟨hu, kvs2, r3, q, tm⟩ v rv
    exact ⟨hu, q v (rv.tmap tm)⟩
  · split at p
    · rename_i a kvs e1
      have g := lockK_at (f := f) (H := H) e1
      obtain ⟨ws, hw, k⟩ := r.lockK g
      refine ⟨f a, .dK ws, hw, trivial, fun od => ?_⟩
      obtain ⟨r1, x1⟩ := k od
      refine ⟨f, h.set a (.lK kvs), st, r1, rs.mono x1, ?_⟩
      refine (unlockK_at (od := od) (get_lt g) hw p).imp ?_
      intro f2 h2 H2 x ⟨hu, kvs2, r3, q, tm⟩ v rv
      exact ⟨hu, q v (rv.tmap tm)⟩
    · exact p.elim
theorem RSt.tmap {f : Nat → Addr} {k : Nat} {H H' : Hp} {st : PSt} {σ : L2.St} (e : ∀ a vs, H a = some (.tup vs) → H' a = some (.tup vs)) (r : RSt c f k H st σ) : RSt c f k H' st σ :=
  ⟨r.1, fun i x q => let ⟨v, h1, h2⟩ := r.2 i x q; ⟨v, h1, h2.tmap e⟩⟩
theorem t_lock {s : Stmt} {recS : CS → PSt → PH → R FR} {ks : CS} {i : Nat} (hs : PS X s (tS c (recS ks))) : PS X s (tS c (xLock recS i ks)) := by
  refine ps_w (ps_lock hs) fun D σ H ⟨f, h, st, r, rs, p⟩ => ?_
  unfold xLock at p
  split at p
  · rename_i a kvs e1
    have g := lockP_at (f := f) (H := H) e1
    obtain ⟨ws, hw, k⟩ := r.lock g
    refine ⟨f a, .dT ws, hw, trivial, fun od => ?_⟩
    obtain ⟨r1, x1⟩ := k od
    refine ⟨f, h.set a (.lT kvs), st, r1, rs.mono x1, ?_⟩
    refine (unlock_at (od := od) (get_lt g) hw p).imp ?_
    intro f2 h2 H2 x ⟨hu, kvs2, r3, q, tm⟩
    cases x with
    | nx st2 => exact fun σ2 rs2 => ⟨hu, q σ2 (rs2.tmap tm)⟩
    | ct st2 => exact fun σ2 rs2 => ⟨hu, q σ2 (rs2.tmap tm)⟩
    | bk st2 => exact fun σ2 rs2 => ⟨hu, q σ2 (rs2.tmap tm)⟩
    | rt v => exact fun w rw2 => ⟨hu, q w (rw2.tmap tm)⟩
  · split at p
    · rename_i a kvs e1
      have g := lockK_at (f := f) (H := H) e1
      obtain ⟨ws, hw, k⟩ := r.lockK g
      refine ⟨f a, .dK ws, hw, trivial, fun od => ?_⟩
      obtain ⟨r1, x1⟩ := k od
      refine ⟨f, h.set a (.lK kvs), st, r1, rs.mono x1, ?_⟩
      refine (unlockK_at (od := od) (get_lt g) hw p).imp ?_
      intro f2 h2 H2 x ⟨hu, kvs2, r3, q, tm⟩
      cases x with
      | nx st2 => exact fun σ2 rs2 => ⟨hu, q σ2 (rs2.tmap tm)⟩
      | ct st2 => exact fun σ2 rs2 => ⟨hu, q σ2 (rs2.tmap tm)⟩
      | bk st2 => exact fun σ2 rs2 => ⟨hu, q σ2 (rs2.tmap tm)⟩
      | rt v => exact fun w rw2 => ⟨hu, q w (rw2.tmap tm)⟩
    · exact p.elim
end
end Pyx

namespace Pyx
open PySem PySem.Spec PyProof.Rows L2
section
variable {prog : Program} {w : World} {K : Type} {d r : Addr} {xs : List (K × Addr × Value)} {es : Array DictEntry} {ep : Nat}
theorem kdl_valuesR (hx : ∀ i (hi : i < es.size), ∃ y, xs[i]? = some y ∧ es[i].key = .ref y.2.1 ∧ es[i].val = y.2.2) : PySem.W.KdlSrc prog w "dict_values" r d es.size (fun i v => ∃ y, xs[i]? = some y ∧ v = y.2.2) (fun h => h.IsValuesView r d ∧ h.DictRaw d es ep) where
  type := fun _ hm => hm.1.typeIs
  there := fun _ hm => ⟨let ⟨_, ho, _⟩ := hm.1; Heap.lt_size ho, let ⟨_, ho, _⟩ := hm.2; Heap.lt_size ho⟩
  keep := fun _ _ hm hk => ⟨let ⟨o, ho, x⟩ := hm.1; ⟨o, hk r (.inl rfl) o ho, x⟩, hm.2.at fun o e => hk d (.inr rfl) o e⟩
  notList := by decide
  notTuple := by decide
  hint := fun _ _ _ _ hm hq => PySem.W.kdl_hint_values hm.1.typeIs hq
  iter := fun _ s hh hm => ⟨_, _, (fun _ _ hq => wpAny_pyIter_values_raw hm.1 hm.2 hq), Walks.valuesH hh _ d (let ⟨_, ho, _⟩ := hm.2; Nat.ne_of_lt (Heap.lt_size ho)) es ep hx, ⟨⟨_, Heap.get?_push_size _ rfl, rfl, rfl⟩, hm.2.at fun o e => Heap.get?_push_of_some _ e⟩⟩
end
section
variable {X : Cx} {c : Rc} {call : Nat → List PV → PH → R PV} {n : Nat} {rec : CE → PSt → PH → R PV} {a b d e : Expr} {ca cb cd ce : CE} {pos : Pos}
def tLk (t : TE) : TE := fun σ H Q => t σ H fun x H1 => ∃ (d : Addr) (u : HO), H1 d = some u ∧ Mut (some u) ∧ ∀ od, Q x (upd H1 d (.frz od u))
theorem pe_lk {t : TE} (h : PE X e t) : PE X e (tLk t) := by
  refine ⟨fun pins s σ H Q I hw => ?_⟩
  refine thn (h.run pins s σ H _ I hw) fun v s1 ⟨x, H1, I1, r, d, u, hd, mu, q⟩ => ?_
  obtain ⟨od, I2⟩ := I1.lock hd mu
  exact ⟨x, _, I2, r, q od⟩
theorem s_lk (ha : PE X e (tE c (rec ca))) : PE X e (tE c (eLk rec ca)) := by
  refine pe_w (pe_lk ha) fun σ H Q ⟨f, h, st, r, rs, p⟩ => ?_
  unfold eLk at p
  split at p
  · rename_i i h1 e1
    refine tE_of e1 r rs fun f1 H1 x x1 r1 rs1 rv1 => ?_
    split at p
    · rename_i kvs g
      obtain ⟨ws, hw, k⟩ := r1.lock g
      refine ⟨f1 i, .dT ws, hw, trivial, fun od => ?_⟩
      obtain ⟨r2, x2⟩ := k od
      exact p _ _ (x1.trans x2) r2 _ (rv1.mono x2)
    · rename_i kvs g
      obtain ⟨ws, hw, k⟩ := r1.lockK g
      refine ⟨f1 i, .dK ws, hw, trivial, fun od => ?_⟩
      obtain ⟨r2, x2⟩ := k od
      exact p _ _ (x1.trans x2) r2 _ (rv1.mono x2)
    · exact p.elim
  · exact p.elim
def tListVals2 (td : TE) : TE := fun σ H Q => td σ H fun x H1 => ∃ (a : Addr) (vs : List V), x = V.ref a ∧ ((∃ kvs : List (L2.Key × V), H1 a = some (.dK kvs) ∧ vs = kvs.map (·.2)) ∨ ∃ kvs : List (List L2.Key × V), H1 a = some (.dT kvs) ∧ vs = kvs.map (·.2)) ∧ ∀ q, H1 q = none → Q (.ref q) (upd H1 q (.lst vs))
theorem kv_vals {kvs : List (L2.Key × V)} {vs : List (L2.Key × Value)} (r : KV kvs vs) : Vals (kvs.map (·.2)) (vs.map (·.2)) := by
  induction r with
  | nil => exact .nil
  | cons h _ ih => exact .cons h.2 ih
theorem kt_vals {H : Hp} {kvs : List (List L2.Key × V)} {xs : List (List L2.Key × Addr × Value)} (r : KT H kvs xs) : Vals (kvs.map (·.2)) (xs.map fun y => y.2.2) := by
  induction r with
  | nil => exact .nil
  | cons h _ ih => exact .cons h.2.2 ih
theorem pe_listVals2 {p apos mpos : Pos} {td : TE} (hc : X.calm = true) (hg : Gl X "list") (hm : X.mg "list" = none) (hd : PE X a td) (hbase : attributeBase a "values" X.env (eval a X.env) = eval a X.env := by rfl) (hline : (apos.endLine == mpos.line) = true := by rfl)
    (hse : starEach [Expr.Call (.Attribute a "values" apos) [] [] mpos] X.env = (false, eval (Expr.Call (.Attribute a "values" apos) [] [] mpos) X.env) :: starEach [] X.env := by rfl) :
    PE X (.Call (.Name "list" p) [.Call (.Attribute a "values" apos) [] [] mpos] [] pos) (tListVals2 td) := by
  refine ⟨fun pins s σ H Q I h => ?_⟩
  refine wpAny_Call_Name_kw (ld_blt I hg hm (u := .type "list") (by first | rfl | decide +kernel) ?_)
  refine PyProof.Rows.callWith_type1 ?_ hse rfl
  rw [hse]
  show wpAny _ _ (spliced ((false, eval (.Call (.Attribute a "values" apos) [] [] mpos) X.env) :: backTo pos (starEach [] X.env))) _ _ s
  refine Calls.spliced_cons ?_
  refine wpAny_Call_method0_late hbase hline (thn (hd.run pins s σ H _ I h) fun v s1 ⟨x, H1, I1, r1, a, ws, ex, ha, q⟩ => ?_)
  subst ex
  obtain rfl : v = Value.ref a := r1
  rcases ha with ⟨kvs, ha, rfl⟩ | ⟨kvs, ha, rfl⟩
  · obtain ⟨hz, hsys, vs, rel, dof⟩ := dk_of I1.hok ha
    obtain ⟨ep, dat⟩ := dof.dictAt
    have dat' := dat
    obtain ⟨ob, es, ho, ex, hdat, hko, hpr, hnd⟩ := dat'
    refine ⟨"dict", "dict.values", F.plainAttrs_dict, F.slot_dict_values, F.type_dict_values, ⟨ob, ho, ex.1⟩, fun b e => ?_, Calls.callWith_builtin rfl (PySem.evalArgs_none ?_)⟩
    · cases e
      exact ⟨ob, ho, ex.2.1⟩
    refine call_meetsIn F.slot_dict_values ⟨ob, ho, ex.1⟩ F.entry_dict_values (F.args_dict_values_1 _) (meets_dict_values (mixKind X.prog X.w) a hsys) ⟨⟨vs, dof⟩, ?_⟩
    have I2 : Inv X pins σ H1 { s1 with heap := s1.heap.push { cls := .type "dict_values", data := .fields #[.ref a] } } := I1.kept (t' := s1.toks) fun b ob q => Heap.get?_push_of_some _ q
    refine Calls.spliced_nil ?_
    have lk : kvs.length = vs.length := Paired.length rel
    refine PySem.W.kdl_call (PySem.W.kdl_values (knd := mixKind X.prog X.w) (kvs := vs) (ep := ep) (d := a) (r := s1.heap.objs.size)) (I1.ok.hd hc) ⟨⟨_, Heap.get?_push_size _ rfl, rfl, rfl⟩, dat.push _⟩ (by omega) fun h' tk acc c' hk hS hi => ?_
    have ev : acc.toList = vs.map (·.2) := PySem.W.kdl_vals_eq acc.toList (by rw [Array.length_toList]; exact hi.1) fun j v e => hi.2 j v (by rw [← Array.getElem?_toList]; exact e)
    refine ⟨.ref _, upd H1 _ (.lst (kvs.map (·.2))), I2.laid hk (Nat.le_refl _) ⟨by rw [List.length_map]; exact hz, acc.toList, c', by rw [ev]; exact kv_vals rel, by rw [Array.toArray_toList]; exact hS⟩, rfl, q _ (I2.hok.fresh (Nat.le_refl _))⟩
  · obtain ⟨hz, hsys, xs, rel, dof⟩ := dt_of I1.hok ha
    obtain ⟨es, ep, dat, hsz, hx⟩ := dof.raw
    have dat' := dat
    obtain ⟨ob, ho, ex, hdat⟩ := dat'
    refine ⟨"dict", "dict.values", F.plainAttrs_dict, F.slot_dict_values, F.type_dict_values, ⟨ob, ho, ex.1⟩, fun b e => ?_, Calls.callWith_builtin rfl (PySem.evalArgs_none ?_)⟩
    · cases e
      exact ⟨ob, ho, ex.2.1⟩
    refine call_meetsIn F.slot_dict_values ⟨ob, ho, ex.1⟩ F.entry_dict_values (F.args_dict_values_1 _) (meets_dict_values_raw a hsys) ⟨⟨es, ep, dat⟩, ?_⟩
    have I2 : Inv X pins σ H1 { s1 with heap := s1.heap.push { cls := .type "dict_values", data := .fields #[.ref a] } } := I1.kept (t' := s1.toks) fun b ob q => Heap.get?_push_of_some _ q
    refine Calls.spliced_nil ?_
    have lk : kvs.length = xs.length := Paired.length rel
    refine PySem.W.kdl_call (kdl_valuesR (xs := xs) (es := es) (ep := ep) (d := a) (r := s1.heap.objs.size) fun i hi => let ⟨y, h1, h2, h3, _⟩ := hx i hi; ⟨y, h1, h2, h3⟩) (I1.ok.hd hc) ⟨⟨_, Heap.get?_push_size _ rfl, rfl, rfl⟩, dat.at fun o e => Heap.get?_push_of_some _ e⟩ (by omega) fun h' tk acc c' hk hS hi => ?_
    have ev : acc.toList = xs.map fun y => y.2.2 := by
      refine List.ext_getElem? fun j => ?_
      rw [Array.getElem?_toList, List.getElem?_map]
      by_cases hj : j < acc.size
      · obtain ⟨y, h1, h2⟩ := hi.2 j acc[j] (Array.getElem?_eq_getElem hj)
        rw [Array.getElem?_eq_getElem hj, h1, h2]
        rfl
      · have h1 := hi.1
        rw [Array.getElem?_eq_none_iff.mpr (by omega), List.getElem?_eq_none_iff.mpr (by omega)]
        rfl
    refine ⟨.ref _, upd H1 _ (.lst (kvs.map (·.2))), I2.laid hk (Nat.le_refl _) ⟨by rw [List.length_map]; exact hz, acc.toList, c', by rw [ev]; exact kt_vals rel, by rw [Array.toArray_toList]; exact hS⟩, rfl, q _ (I2.hok.fresh (Nat.le_refl _))⟩
theorem rv_vals {κ κ' : Type} {ek : κ → κ'} {f : Nat → Addr} {k : Nat} {H : Hp} : ∀ {kvs : List (κ × PV)} {ws : List (κ' × V)}, RD ek c f k H kvs ws → RVs c f k H (kvs.map (·.2)) (ws.map (·.2))
  | _, _, .nil => .nil
  | _, _, .cons hv t => .cons hv (rv_vals t)
theorem s_vals {p apos cpos : Pos} (hc : X.calm = true) (hb : noBase a = true) (hline : (apos.endLine == cpos.line) = true) (hg : Gl X "list") (hm : X.mg "list" = none) (ha : PE X a (tE c (rec ca))) :
    PE X (.Call (.Name "list" p) [.Call (.Attribute a "values" apos) [] [] cpos] [] pos) (tE c (eVals rec ca)) := by
  refine pe_w (pe_listVals2 hc hg hm ha (base_of hb _ _ _) hline) fun σ H Q ⟨f, h, st, r, rs, p⟩ => ?_
  unfold eVals at p
  split at p
  · rename_i i h1 e1
    refine tE_of e1 r rs fun f1 H1 x x1 r1 rs1 rv1 => ?_
    split at p
    · rename_i kvs g
      cases rv1 with
      | ref hi =>
        cases r1.obj _ _ g with
        | dK g1 g2 g3 =>
          obtain ⟨_, k⟩ := okL_at r1 (rv_vals g2) (p.mono x1)
          exact ⟨_, _, rfl, .inl ⟨_, g1, rfl⟩, k⟩
    · rename_i kvs g
      cases rv1 with
      | ref hi =>
        cases r1.obj _ _ g with
        | dT g1 g2 g3 =>
          obtain ⟨_, k⟩ := okL_at r1 (rv_vals g2) (p.mono x1)
          exact ⟨_, _, rfl, .inr ⟨_, g1, rfl⟩, k⟩
    · exact p.elim
  · exact p.elim
end
end Pyx

namespace Pyx
open PySem PySem.Spec PyProof.Rows L2
structure ClF (c : Rc) (K : PySem.W.Frag) (fl : List Str) : Prop where
  cls : ∀ i, c.isC i = true → Cls K (c.L i)
  na : ∀ i x, c.isC i = true → fl.contains x = true → NoAttr K (c.L i) x
def MtF (c : Rc) (call : Nat → List PV → PH → R PV) (X : Cx) (k ar : Nat) : Prop := ∃ fd ps lvl, PySem.W.keepIn X.K (.ref (c.F k)) = true ∧ Binds X.K fd ps [] ∧ Room lvl X.A ∧ FnQ c.gd X.prog X.w X.K X.mg X.base (L2.CX X.prog X.w) lvl (c.F k) fd ps (spB c call k ar)
section
variable {X : Cx} {c : Rc} {call : Nat → List PV → PH → R PV} {rec : CE → PSt → PH → R PV}
theorem insAt_is {v : PV} {h : PH} {i cl : Nat} {fs : List (Str × PV)} (e : insAt v h = some (i, cl, fs)) : v = .ref i ∧ h.get i = some (.ins cl fs) := by
  unfold insAt at e
  split at e
  · split at e
    · rename_i g
      cases e
      exact ⟨rfl, g⟩
    · cases e
  · cases e
theorem ins_rel {f : Nat → Addr} {h : PH} {H : Hp} {i cl : Nat} {fs : List (Str × PV)} (r : Rel c f h H) (g : h.get i = some (.ins cl fs)) : ∃ dx ws, H (f i) = some (.ins (c.L cl) dx ws) ∧ RD kS c f h.n H fs ws ∧ c.isC cl = true := by
  cases r.obj i _ g with
  | ins h1 h2 h3 => exact ⟨_, _, h1, h2, h3⟩
theorem s_fld {a : Expr} {ca : CE} {x : Str} {pos : Pos} {fl : List Str} (hK : X.K = c.K) (CF : ClF c X.K fl) (hx : fl.contains x = true) (hb : noBase a = true) (ha : PE X a (tE c (rec ca))) : PE X (.Attribute a x pos) (tE c (eFld rec ca x)) := by
  refine pe_w (pe_fld ha (base_of hb _ _ _)) fun σ H Q ⟨f, h, st, r, rs, p⟩ => ?_
  unfold eFld at p
  split at p
  · exact p.elim
  · rename_i v h1 e1
    refine tE_of e1 r rs fun f1 H1 w x1 r1 rs1 rv1 => ?_
    split at p
    · rename_i y e2
      unfold fldP at e2
      split at e2
      · rename_i i cl fs e3
        obtain ⟨ev, g⟩ := insAt_is e3
        subst ev
        cases rv1 with
        | ref hi =>
          obtain ⟨dx, ws, hH, rd, hc⟩ := ins_rel r1 g
          rcases rd.look x with ⟨z, _⟩ | ⟨y', u, z1, z2, z3⟩
          · rw [z] at e2; cases e2
          · rw [z1] at e2
            cases e2
            exact ⟨_, _, dx, ws, u, rfl, hH, CF.cls cl hc, CF.na cl x hc hx, z2, p _ _ x1 r1 _ z3⟩
      · cases e2
    · exact p.elim
theorem pes_len {es : List Expr} {ces : List CE} (q : PEs X c rec es ces) : ∀ {st : PSt} {vs : List PV} {h h1 : PH}, evL rec ces st h = .ok vs h1 → vs.length = es.length := by
  induction q with
  | nil =>
    intro st vs h h1 e
    cases e
    rfl
  | cons _ _ _ ih =>
    intro st vs h h1 e
    unfold evL at e
    split at e
    · cases e
    · split at e
      · cases e
      · rename_i e2
        cases e
        rw [List.length_cons, List.length_cons, ih e2]
theorem s_mk {cl k ar lvl : Nat} {fd : FuncData} {ps : List Str} {x : Str} {es : List Expr} {ces : List CE} {p pos : Pos} (hgd : c.gd = true → X.A.guards = some []) (M : Mk X.K (c.L cl) (c.F k)) (hcl : c.isC cl = true) (F : FnQ c.gd X.prog X.w X.K X.mg X.base (L2.CX X.prog X.w) lvl (c.F k) fd ps (spF c call k ar)) (hl : es.length + 1 = ar) (hr : Room (lvl + 1) X.A)
    (hg : Gl X x) (hm : X.mg x = some (.ref (c.L cl))) (hb : Binds X.K fd ps []) (hdb : (x == ("__debug__" : Str)) = false) (h : PEs X c rec es ces) : PE X (.Call (.Name x p) es [] pos) (tE c (eMk call rec cl k ces)) := by
  have key : ∀ σ H Q, tE c (eMk call rec cl k ces) σ H Q → tMake (c.L cl) (spF c call k ar) [] E0 (tA c (evL rec ces)) σ H Q := fun σ H Q ⟨f, h', st, r, rs, p⟩ => by
    unfold eMk at p
    split at p
    · exact p.elim
    · rename_i vs h1 e1
      refine tA_of e1 r rs fun f1 H1 ws x1 r1 rs1 rv1 => fun xa dx hxa hdx hne => ?_
      obtain ⟨r2, x2⟩ := r1.same (same_upd (o := .own xa) hdx)
      have hxa2 : upd H1 dx (.own xa) xa = none := by rw [upd_ne (Ne.symm hne)]; exact hxa
      obtain ⟨r3, x3⟩ := r2.lays (o := .ins cl []) (u := .ins (c.L cl) dx []) hxa2 (.ins upd_same .nil hcl)
      have rz := RV.ref (c := c) (f := ext1 f1 h1.n xa) (n := h1.n + 1) (H := upd (upd H1 dx (.own xa)) xa (.ins (c.L cl) dx [])) (Nat.lt_succ_self h1.n)
      have e0 : ext1 f1 h1.n xa h1.n = xa := ext1_at
      rw [e0] at rz
      have x23 := x2.trans x3
      have p := p.mono x1
      refine ⟨?_, ext1 f1 h1.n xa, h1.push (.ins cl []), .ref h1.n :: vs, r3, ?_, ?_⟩
      · rw [List.append_nil, List.length_cons, ← rv1.length, pes_len h e1, hl]
      · rw [List.append_nil]
        exact .cons rz (rv1.mono x23)
      · cases ec : call k (.ref h1.n :: vs) (h1.push (.ins cl [])) with
        | stuck => rw [ec] at p; exact p.elim
        | ok u h2 =>
          rw [ec] at p
          cases u with
          | non =>
            intro f4 H4 x4 r4 w rw4
            cases rw4
            refine ⟨rfl, ?_⟩
            have q := RV.ref (c := c) (f := f4) (n := h2.n) (H := H4) (Nat.lt_of_lt_of_le (Nat.lt_succ_self h1.n) x4.le)
            have e4 : f4 h1.n = xa := (x4.eq _ (Nat.lt_succ_self h1.n)).trans e0
            rw [e4] at q
            exact p _ _ (x23.trans x4) r4 _ q
          | _ => exact p.elim
  cases h with
  | nil =>
    refine pe_w (pe_qmake0 M F hr hgd hg hm hb passL hdb) fun σ H Q q => ?_
    obtain ⟨f, h', st, r, rs, p⟩ := (show tE c (eMk call rec cl k []) σ H Q from q)
    have z := key σ H Q ⟨f, h', st, r, rs, p⟩
    obtain ⟨f2, h2, st2, r2, rs2, p2⟩ := z
    exact p2 _ _ .refl r2 _ .nil
  | cons hs he ht =>
    exact pe_w (pe_qmake M F hr hgd hg hm hb passL (pa_of (.cons hs he ht)) hdb (star_of hs _ X.env) (plain_args ht _ X.env)) key
def tMethD (gq : Bool) (X : Cx) (m : Str) (ta : TE) (t : TA) : TE := fun σ H Q => ta σ H fun x H1 => ∃ a C dx fs g sp fd ps lvl, x = .ref a ∧ H1 a = some (.ins C dx fs) ∧ Cls X.K C ∧ Meth X.K C m g ∧ fs.lookup m = none ∧
  FnQ gq X.prog X.w X.K X.mg X.base (L2.CX X.prog X.w) lvl g fd ps sp ∧ Room lvl X.A ∧ Binds X.K fd ps [] ∧ t σ H1 fun vs H2 => sp (x :: vs) H2 Q E0
theorem call_attr {M : Model} {A : Around} {E : Value → Shared → Prop} {s : Shared} {env : Env} {o : Expr} {m : Str} {apos pos : Pos} {args : List Expr} {Q : Value → Shared → Prop} (hb : noBase o = true)
    (few : methodCallForm (args.length + 0) (backTo pos (starEach args env)) (backToKw pos (keywordEach [] env)) = true) (hline : (apos.endLine == pos.line) = true)
    (h : wpAny M A (eval o env) (fun ov s1 => ∀ pl, wpAny M A (getMethod ov m pl) (fun q s2 => wpAny M A (callWith pos q.1 q.2 (backTo pos (starEach args env)) []) Q E s2) E s1) E s) :
    wpAny M A (eval (.Call (.Attribute o m apos) args [] pos) env) Q E s := by
  rw [arm_eval_Call, base_of hb]
  refine wpAny_bind (wpAny_mono h (fun ov s1 h1 => wpAny_bind (wpAny_standAt ?_)) fun _ _ e => e)
  have hp : methodCallPos true o env apos pos = pure pos := by
    unfold methodCallPos
    rw [hline]
    rfl
  unfold methodCall
  rw [show (args.length + ([] : List Keyword).length) = args.length + 0 from rfl, few]
  refine wpAny_bind (wpAny_holding (wpAny_mono (h1 _) (fun q s2 h2 => ?_) fun _ _ e => e))
  exact wpAny_bind (wpAny_of_eq hp h2)
theorem pe_methD0 {gq : Bool} {o : Expr} {m : Str} {apos pos : Pos} {ta : TE} (gd : gq = true → X.A.guards = some []) (hb : noBase o = true) (hline : (apos.endLine == pos.line) = true) (he : PE X o ta) : PE X (.Call (.Attribute o m apos) [] [] pos) (tMethD gq X m ta tNil) := by
  refine ⟨fun pins s σ H Q I h => ?_⟩
  refine call_attr hb rfl hline (thn (he.run pins s σ H _ I h) fun u s1 ⟨x, H1, I1, rx, a, C, dx, fs, g, sp, fd, ps, lvl, ex, ea, cc, hm, l, F, hr, hbd, q⟩ => ?_)
  subst ex
  obtain rfl : u = Value.ref a := rx
  intro pl
  refine getmeth_ok I1 ea cc hm l ?_
  exact PySem.W.callWith_K0 (first := [.ref a]) I1.kIn hm.kp (run_q (us := [.ref a]) (vs := [.ref a]) F hr gd hbd I1 (fun er s' z => passL _ _ _ _ er s' I1 z) (.cons rfl .nil) q)
theorem pe_methD {gq : Bool} {o e : Expr} {es : List Expr} {m : Str} {apos pos : Pos} {ta : TE} {t : TA} (gd : gq = true → X.A.guards = some []) (hb : noBase o = true) (few : methodCallForm ((e :: es).length + 0) (backTo pos (starEach (e :: es) X.env)) (backToKw pos (keywordEach [] X.env)) = true) (hline : (apos.endLine == pos.line) = true) (he : PE X o ta) (ha : PA X (e :: es) t)
    (hst : starEach (e :: es) X.env = (false, eval e X.env) :: starEach es X.env) (hpl : (backTo pos (starEach es X.env)).any (·.1) = false) : PE X (.Call (.Attribute o m apos) (e :: es) [] pos) (tMethD gq X m ta t) := by
  refine ⟨fun pins s σ H Q I h => ?_⟩
  refine call_attr hb few hline (thn (he.run pins s σ H _ I h) fun u s1 ⟨x, H1, I1, rx, a, C, dx, fs, g, sp, fd, ps, lvl, ex, ea, cc, hm, l, F, hr, hbd, q⟩ => ?_)
  subst ex
  obtain rfl : u = Value.ref a := rx
  intro pl
  refine getmeth_ok I1 ea cc hm l ?_
  refine PySem.W.callWith_K (first := [.ref a]) (h₀ := X.base) I1.ok.mod.kin hm.kp (thn (ha.run pos pins s1 σ H1 _ I1 q) fun us s2 ⟨vs, H2, I2, r, q2⟩ => ⟨I2.kIn, ?_⟩) hst hpl
  exact run_q (us := .ref a :: us) (vs := .ref a :: vs) F hr gd hbd I2 (fun er s' z => passL _ _ _ _ er s' I2 z) (.cons rfl r) q2
theorem t_setfld {ev : CE → PSt → PH → R PV} {recS : CS → PSt → PH → R FR} {n : Nat} {o e : Expr} {co ce : CE} {x : Str} {pos tpos : Pos} {fl : List Str} (CF : ClF c X.K fl) (hx : fl.contains x = true) (ho : PE X o (tE c (ev co))) (he : PE X e (tE c (ev ce))) :
    PS X (.Assign [.Attribute o x tpos] e pos) (tS c (xSetfld n ev recS co x ce)) := by
  refine ps_w (ps_fld ho he (by cases e <;> rfl)) fun D σ H ⟨f, h, st, r, rs, p⟩ => ?_
  unfold xSetfld at p
  split at p
  · exact p.elim
  · rename_i v h1 e1
    refine tE_of e1 r rs fun f1 H1 y x1 r1 rs1 rv1 => ?_
    split at p
    · exact p.elim
    · rename_i a h2 e2
      refine tE_of e2 r1 rs1 fun f2 H2 w x2 r2 rs2 rv2 => ?_
      split at p
      · rename_i h3 e3
        unfold setF at e3
        split at e3
        · rename_i i cl fs e4
          obtain ⟨ev', g⟩ := insAt_is e4
          subst ev'
          split at e3
          · rename_i hb
            cases e3
            cases rv2 with
            | ref hi =>
              obtain ⟨dx, ws, hH, rd, hc⟩ := ins_rel r2 g
              obtain ⟨r3, x3⟩ := r2.writeF g hH hc (rd.putF x (rv1.mono x2))
              refine ⟨_, _, dx, ws, rfl, hH, CF.cls cl hc, CF.na cl x hc hx, ?_, ?_⟩
              · rw [← rd.length]
                exact Nat.le_of_ble_eq_true hb
              · exact p _ _ ((x1.trans x2).trans x3) r3 _ (rs2.mono x3)
          · cases e3
        · cases e3
      · exact p.elim
theorem few_of {es : List Expr} {env : Env} {pos : Pos} (hp : (backTo pos (starEach es env)).any (·.1) = false) (hn : es.length < 30) : methodCallForm (es.length + 0) (backTo pos (starEach es env)) (backToKw pos (keywordEach [] env)) = true := by
  unfold methodCallForm
  have e1 : (backTo pos (starEach es env)).all (fun q => !q.1) = true := by
    rw [List.all_eq_not_any_not]
    have : (fun q : Bool × Sem Value => !!q.1) = fun q => q.1 := funext fun q => Bool.not_not _
    rw [this, hp]
    rfl
  rw [e1, Bool.true_and]
  show (true && decide (es.length + 0 + 0 < 30)) = true
  rw [Bool.true_and]
  exact decide_eq_true hn
theorem s_meth {o : Expr} {co : CE} {es : List Expr} {ces : List CE} {m : Str} {tab : List (Nat × Nat)} {apos pos : Pos} {fl : List Str} (hgd : c.gd = true → X.A.guards = some []) (CF : ClF c X.K fl) (hT : ∀ cl k, tab.lookup cl = some k → c.isC cl = true → Meth X.K (c.L cl) m (c.F k) ∧ MtF c call X k (es.length + 1))
    (hb : noBase o = true) (hline : (apos.endLine == pos.line) = true) (hn : es.length < 30) (ho : PE X o (tE c (rec co))) (h : PEs X c rec es ces) : PE X (.Call (.Attribute o m apos) es [] pos) (tE c (eMeth call rec tab m co ces)) := by
  have key : ∀ σ H Q, tE c (eMeth call rec tab m co ces) σ H Q → tMethD c.gd X m (tE c (rec co)) (tA c (evL rec ces)) σ H Q := fun σ H Q ⟨f, h', st, r, rs, p⟩ => by
    unfold eMeth at p
    split at p
    · exact p.elim
    · rename_i v h1 e1
      refine tE_of e1 r rs fun f1 H1 w x1 r1 rs1 rv1 => ?_
      split at p
      · rename_i i cl fs e3
        obtain ⟨ev, g⟩ := insAt_is e3
        subst ev
        split at p
        · rename_i k ek em
          cases rv1 with
          | ref hi =>
            obtain ⟨dx, ws, hH, rd, hc⟩ := ins_rel r1 g
            obtain ⟨hm, fd, ps, lvl, _, hbd, hr, F⟩ := hT cl k ek hc
            have hl : ws.lookup m = none := by
              rcases rd.look m with ⟨_, z⟩ | ⟨y', u, z1, _, _⟩
              · exact z
              · rw [z1] at em; cases em
            refine ⟨_, _, dx, ws, _, _, fd, ps, lvl, rfl, hH, CF.cls cl hc, hm, hl, F.imp fun _ _ _ _ z => .inl z, hr, hbd, ?_⟩
            have p := p.mono x1
            split at p
            · exact p.elim
            · rename_i vs h2 e2
              refine tA_of e2 r1 rs1 fun f2 H2 us x2 r2 rs2 rv2 => ?_
              refine ⟨?_, f2, h2, .ref i :: vs, r2, .cons ((RV.ref hi).mono x2) rv2, p.mono x2⟩
              rw [List.length_cons, ← rv2.length, pes_len h e2]
        · exact p.elim
      · exact p.elim
  cases h with
  | nil =>
    refine pe_w (pe_methD0 hgd hb hline ho) fun σ H Q q => ?_
    obtain ⟨f, h', st, r, rs, p⟩ := key σ H Q q
    refine ⟨f, h', st, r, rs, ?_⟩
    have e : ∀ {R : R PV} {Q1 Q2 : (Nat → Addr) → PH → Hp → PV → Prop}, (∀ a b d e, Q1 a b d e → Q2 a b d e) → Post c f h'.n H R Q1 → Post c f h'.n H R Q2 := fun {R Q1 Q2} hq pp => by
      cases R with
      | stuck => exact pp
      | ok x hh => exact fun f' H' a b => hq _ _ _ _ (pp f' H' a b)
    refine e (fun a b d e z v rv => ?_) p
    obtain ⟨A1, A2, A3, A4, A5, A6, A7, A8, A9, B1, B2, B3, B4, B5, B6, B7, B8, B9⟩ := z v rv
    refine ⟨A1, A2, A3, A4, A5, A6, A7, A8, A9, B1, B2, B3, B4, B5, B6, B7, B8, ?_⟩
    obtain ⟨f2, h2, st2, r2, rs2, p2⟩ := B9
    exact p2 _ _ .refl r2 _ .nil
  | cons hs he ht =>
    have pl := plain_args ht pos X.env
    exact pe_w (pe_methD hgd hb (few_of (plain_args (.cons hs he ht) pos X.env) hn) hline ho (pa_of (.cons hs he ht)) (star_of hs _ X.env) pl) key
theorem s_mk0 {cl : Nat} {x : Str} {p pos : Pos} (M : Mk0 X.K (c.L cl)) (hcl : c.isC cl = true) (hg : Gl X x) (hm : X.mg x = some (.ref (c.L cl))) (hdb : (x == ("__debug__" : Str)) = false) : PE X (.Call (.Name x p) [] [] pos) (tE c fun _ h => .ok (.ref h.n) (h.push (.ins cl []))) := by
  refine pe_w (pe_made0 M hg hm hdb) fun σ H Q ⟨f, h', st, r, rs, p⟩ => fun xa dx hxa hdx hne => ?_
  obtain ⟨r2, x2⟩ := r.same (same_upd (o := .own xa) hdx)
  have hxa2 : upd H dx (.own xa) xa = none := by rw [upd_ne (Ne.symm hne)]; exact hxa
  obtain ⟨r3, x3⟩ := r2.lays (o := .ins cl []) (u := .ins (c.L cl) dx []) hxa2 (.ins upd_same .nil hcl)
  have rz := RV.ref (c := c) (f := ext1 f h'.n xa) (n := h'.n + 1) (H := upd (upd H dx (.own xa)) xa (.ins (c.L cl) dx [])) (Nat.lt_succ_self h'.n)
  have e0 : ext1 f h'.n xa h'.n = xa := ext1_at
  rw [e0] at rz
  exact p _ _ (x2.trans x3) r3 _ rz
end
end Pyx

namespace Pyx
open PySem PySem.Spec PyProof.Rows L2
section
variable {X : Cx} {c : Rc} {rec : CE → PSt → PH → R PV}
def gFld (K : PySem.W.Frag) (i : Nat) (f : Str) : TG := fun v σ H Q => ∃ a C dx fs, σ[i]? = some (some (.ref a)) ∧ H a = some (.ins C dx fs) ∧ Cls K C ∧ NoAttr K C f ∧ fs.length < 1000 ∧ Q σ (upd H a (.ins C dx (putF f v fs)))
theorem pg_fld {i : Nat} {x f : Str} {p pos : Pos} (hN : X.N[i]? = some x) (hv : Vis X.env.scope x) (d1 : (x == ("__debug__" : Str)) = false) (d2 : (x == ("__classdict__" : Str)) = false) : PG X (.Attribute (.Name x p) f pos) (gFld X.K i f) := by
  refine ⟨fun pins s σ H v u Q I r ⟨a, C, dx, fs, e1, e2, cc, na, l, q⟩ => ?_⟩
  rw [arm_assign_Attribute]
  refine wpAny_bind (wpAny_holding (thn ((pe_var (pos := p) hN hv d1 d2).run pins s σ H (fun w H1 => w = .ref a ∧ H1 = H) I ⟨_, e1, rfl, rfl⟩) fun ov s1 ⟨w, H1, I1, r1, q1⟩ => ?_))
  rw [q1.1] at r1
  rw [q1.2] at I1
  obtain rfl : ov = Value.ref a := r1
  refine wpAny_bind (wpAny_standAt ?_)
  refine wpAny_bind (wpAny_holding (setattr_ok I1 e2 cc na l r fun s2 I2 => ?_))
  exact wpAny_release' ⟨σ, _, I2, q⟩
inductive PFs (X : Cx) (c : Rc) (i : Nat) : List Expr → List (Nat ⊕ Str) → Prop where
  | nil : PFs X c i [] []
  | nm {j : Nat} {x : Str} {p : Pos} {es : List Expr} {ts : List (Nat ⊕ Str)} : X.N[j]? = some x → Loc X.env.scope x → (X.fn x = true ∨ X.env.scope.names.lookup x = some .local) → PFs X c i es ts → PFs X c i (.Name x p :: es) (.inl j :: ts)
  | at {o f : Str} {p pos : Pos} {es : List Expr} {ts : List (Nat ⊕ Str)} : X.N[i]? = some o → Vis X.env.scope o → (o == ("__debug__" : Str)) = false → (o == ("__classdict__" : Str)) = false → (∀ cl, c.isC cl = true → Cls X.K (c.L cl) ∧ NoAttr X.K (c.L cl) f) → PFs X c i es ts → PFs X c i (.Attribute (.Name o p) f pos :: es) (.inr f :: ts)
theorem PFs.shape {i : Nat} {es : List Expr} {ts : List (Nat ⊕ Str)} (h : PFs X c i es ts) (env : Env) : (assignEach es env).length = es.length ∧ (assignEach es env).findIdx? (·.1) = none ∧ es.length = ts.length := by
  induction h with
  | nil => exact ⟨rfl, rfl, rfl⟩
  | nm _ _ _ _ ih =>
    rw [aeach_of rfl]
    refine ⟨congrArg (· + 1) ih.1, ?_, congrArg (· + 1) ih.2.2⟩
    rw [List.findIdx?_cons, ih.2.1]
    rfl
  | «at» _ _ _ _ _ _ ih =>
    rw [aeach_of rfl]
    refine ⟨congrArg (· + 1) ih.1, ?_, congrArg (· + 1) ih.2.2⟩
    rw [List.findIdx?_cons, ih.2.1]
    rfl
def tFs (c : Rc) (i : Nat) (ts : List (Nat ⊕ Str)) : TGs := fun ws σ H Q => ∃ f h st xs st' h', Rel c f h H ∧ RSt c f h.n H st σ ∧ RVs c f h.n H xs ws ∧ asgFs i ts xs st h = some (st', h') ∧ ∀ f1 H1 σ1, Ext f h.n H f1 h'.n H1 → Rel c f1 h' H1 → RSt c f1 h'.n H1 st' σ1 → Q σ1 H1
theorem fs_of (hN : X.N.Nodup) {i : Nat} : ∀ {es : List Expr} {ts : List (Nat ⊕ Str)}, PFs X c i es ts → PGs X es (tFs c i ts)
  | [], [], .nil => pgs_w pgs_nil fun ws σ H Q ⟨f, h, st, xs, st', h', r, rs, rv, e, q⟩ => by
    cases rv with
    | nil =>
      unfold asgFs at e
      cases e
      exact ⟨rfl, q _ _ _ .refl r rs⟩
    | cons _ _ => unfold asgFs at e; cases e
  | _, _, .nm (j := j) hj hl hf ht => by
    refine pgs_w (pgs_cons (pg_name hN hj hl hf) (fs_of hN ht) (by rw [aeach_of rfl]; rfl)) fun ws σ H Q ⟨f, h, st, xs, st', h', r, rs, rv, e, q⟩ => ?_
    cases rv with
    | nil => unfold asgFs at e; cases e
    | cons rv1 rvs =>
      unfold asgFs at e
      exact ⟨_, _, rfl, f, h, _, _, st', h', r, rs.set j rv1, rvs, e, q⟩
  | _, _, .at hi hv d1 d2 hc ht => by
    refine pgs_w (pgs_cons (pg_fld hi hv d1 d2) (fs_of hN ht) (by rw [aeach_of rfl]; rfl)) fun ws σ H Q ⟨f, h, st, xs, st', h', r, rs, rv, e, q⟩ => ?_
    cases rv with
    | nil => unfold asgFs at e; cases e
    | cons rv1 rvs =>
      unfold asgFs at e
      split at e
      · rename_i o e0
        split at e
        · rename_i h3 e3
          unfold setF at e3
          split at e3
          · rename_i k cl fs e4
            obtain ⟨ev', g⟩ := insAt_is e4
            subst ev'
            split at e3
            · rename_i hb
              cases e3
              obtain ⟨w, e5, rw5⟩ := rs.2 _ _ e0
              cases rw5 with
              | ref hi2 =>
                obtain ⟨dx, ws2, hH, rd, hcl⟩ := ins_rel r g
                obtain ⟨r3, x3⟩ := r.writeF g hH hcl (rd.putF _ rv1)
                refine ⟨_, _, rfl, _, _, dx, ws2, e5, hH, (hc cl hcl).1, (hc cl hcl).2, ?_, ?_⟩
                · rw [← rd.length]
                  exact Nat.le_of_ble_eq_true hb
                · exact ⟨_, _, st, _, st', h', r3, rs.mono x3, rvs.mono x3, e, fun f1 H1 σ1 x r1 rs1 => q f1 H1 σ1 (x3.trans x) r1 rs1⟩
            · cases e3
          · cases e3
        · cases e
      · cases e
theorem asgFs_len {i : Nat} : ∀ {ts : List (Nat ⊕ Str)} {xs : List PV} {st : PSt} {h : PH} {r : PSt × PH}, asgFs i ts xs st h = some r → ts.length = xs.length
  | [], [], _, _, _, _ => rfl
  | .inl _ :: ts, x :: xs, st, h, r, e => by
    unfold asgFs at e
    rw [List.length_cons, List.length_cons, asgFs_len e]
  | .inr _ :: ts, x :: xs, st, h, r, e => by
    unfold asgFs at e
    split at e
    · split at e
      · rw [List.length_cons, List.length_cons, asgFs_len e]
      · cases e
    · cases e
  | [], _ :: _, _, _, _, e => by unfold asgFs at e; cases e
  | .inl _ :: _, [], _, _, _, e => by unfold asgFs at e; cases e
  | .inr _ :: _, [], _, _, _, e => by unfold asgFs at e; cases e
theorem t_asgF {ev : CE → PSt → PH → R PV} {recS : CS → PSt → PH → R FR} {n i k : Nat} {es : List Expr} {ts : List (Nat ⊕ Str)} {e : Expr} {ce : CE} {pos tpos : Pos} (hK : X.K = c.K) (hc : X.calm = true) (hN : X.N.Nodup) (h : PFs X c i es ts) (he : PE X e (tE c (ev ce))) (hs : swapsWithSole [.Tuple es k tpos] e pos.line X.env = pure false) (hw : swappedStores [.Tuple es k tpos] e X.env = pure none) :
    PS X (.Assign [.Tuple es k tpos] e pos) (tS c (xAsgF n ev recS i ts ce)) := by
  obtain ⟨z1, z2, z3⟩ := h.shape X.env
  refine ps_w (ps_asg he (pg_tup (n := es.length) hc (fs_of hN h) z1 z2) hs hw rfl) fun D σ H ⟨f, h, st, r, rs, p⟩ => ?_
  unfold xAsgF at p
  split at p
  · rename_i xs h1 e1
    refine tE_of e1 r rs fun f1 H1 y x1 r1 rs1 rv1 => ?_
    split at p
    · rename_i st2 h2 e2
      cases rv1 with
      | tup a1 a2 =>
        rw [hK]
        refine ⟨_, _, rfl, SqT.of a1, ?_, f1, h1, st, _, st2, h2, r1, rs1, a2, e2, fun f3 H3 σ3 x3 r3 rs3 => p _ _ (x1.trans x3) r3 _ rs3⟩
        rw [← a2.length, ← asgFs_len e2, ← z3]
    · exact p.elim
  · exact p.elim
end
end Pyx

namespace Pyx
open PySem PySem.Spec PyProof.Rows L2
structure DefR where
  x : Str
  st : Stmt
  N : List Str
  ps : List Str
  g : Str := x
  q : Str := x
  m : Bool := false
structure CEnv where
  N : List Str
  names : List (Str × NameKind)
  fns : List (Str × (Nat × Nat))
  consts : List (Str × PV)
  nob : List Str
  dts : List Nat
  excs : List (Str × Nat) := []
  exb : Str := ""
  rsn : List Str := []
  lam : Bool := false
  tolds : List (Str × (Nat × DefR)) := []
  cls : List (Str × (Nat × Nat × Nat)) := []
  mts : List (Str × (List (Nat × Nat) × Nat)) := []
  flds : List Str := []
  ks : Bool := false
  cls0 : List (Str × Nat) := []
def gd {α : Type} (b : Bool) (o : Option α) : Option α := match b with
  | true => o
  | false => none
def bd {α β : Type} (o : Option α) (f : α → Option β) : Option β := match o with
  | some a => f a
  | none => none
theorem gd_is {α : Type} {b : Bool} {o : Option α} {r : α} (h : gd b o = some r) : b = true ∧ o = some r := by
  cases b with
  | true => exact ⟨rfl, h⟩
  | false => cases h
theorem bd_is {α β : Type} {o : Option α} {f : α → Option β} {r : β} (h : bd o f = some r) : ∃ a, o = some a ∧ f a = some r := by
  cases o with
  | some a => exact ⟨a, rfl, h⟩
  | none => cases h
def ixOf (x : Str) : List Str → Nat → Option Nat
  | [], _ => none
  | y :: r, i => match decide (y = x) with
    | true => some i
    | false => ixOf x r (i + 1)
theorem ixOf_is {x : Str} : ∀ {N : List Str} {i j : Nat}, ixOf x N i = some j → i ≤ j ∧ N[j - i]? = some x
  | [], _, _, h => by cases h
  | y :: r, i, j, h => by
    unfold ixOf at h
    split at h
    · rename_i e
      cases h
      have e := of_decide_eq_true e
      subst e
      exact ⟨Nat.le_refl _, by rw [Nat.sub_self]; rfl⟩
    · obtain ⟨h1, h2⟩ := ixOf_is h
      refine ⟨Nat.le_of_succ_le h1, ?_⟩
      rw [show j - i = (j - (i + 1)) + 1 by omega, List.getElem?_cons_succ]
      exact h2
def isVis : Option NameKind → Bool
  | some .local => true
  | some .cell => true
  | some .free => true
  | _ => false
def isLoc : Option NameKind → Bool
  | some .local => true
  | some .cell => true
  | _ => false
def isGl : Option NameKind → Bool
  | some .globalImplicit => true
  | _ => false
def okName (x : Str) : Bool := !(x == ("__debug__" : Str)) && !(x == ("__classdict__" : Str))
def cVar (Γ : CEnv) (x : Str) : Option Nat := gd (okName x && isVis (Γ.names.lookup x)) (ixOf x Γ.N 0)
def cLoc (Γ : CEnv) (x : Str) : Option Nat := gd (isLoc (Γ.names.lookup x)) (ixOf x Γ.N 0)
def bltin (Γ : CEnv) (x : Str) : Bool := isGl (Γ.names.lookup x) && Γ.nob.contains x
def bopOf : Operator → Option Bop
  | .Add => some .add
  | .Sub => some .sub
  | .Mult => some .mul
  | .FloorDiv => some .fdiv
  | .Mod => some .mod
  | .Pow => some .pow
  | _ => none
def three (p q r : Cop) (x y z u : CE) : Option CB := match y with
  | .var i => match z with
    | .var j => some (.and (.bl (.cmp p x (.var i))) (.and (.bl (.cmp q (.var i) (.var j))) (.bl (.cmp r (.var j) u))))
    | _ => none
  | _ => none
def copOf : CmpOp → Expr → Option Cop
  | .Eq, _ => some .eq
  | .NotEq, _ => some .ne
  | .Lt, _ => some .lt
  | .LtE, _ => some .le
  | .Gt, _ => some .gt
  | .GtE, _ => some .ge
  | .Is, _ => some .is
  | .IsNot, _ => some .nis
  | _, _ => none
def tyOf (x : Str) : Option Ty := match decide (x = tyS .int) with
  | true => some .int
  | false => match decide (x = tyS .bool) with
    | true => some .bool
    | false => match decide (x = tyS .str) with
      | true => some .str
      | false => match decide (x = tyS .tuple) with
        | true => some .tuple
        | false => match decide (x = tyS .list) with
          | true => some .list
          | false => none
theorem tyOf_is {x : Str} {t : Ty} (h : tyOf x = some t) : x = tyS t := by
  unfold tyOf at h
  repeat' split at h
  all_goals first | (cases h; done) | (cases h; rename_i e; exact of_decide_eq_true e)
def biOf (x : Str) : Option Bi := [Bi.len, .min, .max, .sum, .sorted, .abs, .list, .tuple, .int, .set, .dict].find? fun b => decide (x = biN b)
theorem biOf_is {x : Str} {b : Bi} (h : biOf x = some b) : x = biN b := by
  have q := List.find?_some (p := fun b => decide (x = biN b)) h
  exact of_decide_eq_true q
def mtOf (x : Str) : Option Mt := [Mt.append, .pop, .count, .index].find? fun m => decide (x = mtN m)
theorem mtOf_is {x : Str} {m : Mt} (h : mtOf x = some m) : x = mtN m := by
  have q := List.find?_some (p := fun m => decide (x = mtN m)) h
  exact of_decide_eq_true q
def ownOf (Γ : CEnv) (scope : Scope) : List (Str × Nat) := scope.names.filterMap fun y => match isLoc (some y.2) with
  | true => (ixOf y.1 Γ.N 0).map fun i => (y.1, i)
  | false => none
def fkS (names : List (Str × NameKind)) : Scope := { kind := .function, names := names, isGenerator := false, isCoroutine := false }
structure Cmp where
  E : CEnv → Expr → Option CE
  B : CEnv → Expr → Option CB
def cEs (f : Expr → Option CE) : List Expr → Option (List CE)
  | [] => some []
  | e :: es => bd (f e) fun c => bd (cEs f es) fun cs => some (c :: cs)
def cAnds (f : Expr → Option CE) : List Expr → Option CE
  | [] => none
  | [a] => f a
  | a :: b :: r => bd (f a) fun x => bd (cAnds f (b :: r)) fun y => some (.and x y)
def cOrs (f : Expr → Option CE) : List Expr → Option CE
  | [] => none
  | [a] => f a
  | a :: b :: r => bd (f a) fun x => bd (cOrs f (b :: r)) fun y => some (.or x y)
def bAnds (f : Expr → Option CB) : List Expr → Option CB
  | [] => none
  | [a] => f a
  | a :: b :: r => bd (f a) fun x => bd (bAnds f (b :: r)) fun y => some (.and x y)
def bOrs (f : Expr → Option CB) : List Expr → Option CB
  | [] => none
  | [a] => f a
  | a :: b :: r => bd (f a) fun x => bd (bOrs f (b :: r)) fun y => some (.or x y)
def cOpt (f : Expr → Option CE) : Option Expr → Option (Option CE)
  | none => some none
  | some e => bd (f e) fun c => some (some c)
def cTgts (f : Expr → Option CT) : List Expr → Option (List CT)
  | [] => some []
  | e :: es => gd (noStar e) (bd (f e) fun c => bd (cTgts f es) fun cs => some (c :: cs))
def cTgt : Nat → CEnv → Expr → Option CT
  | 0, _, _ => none
  | n + 1, Γ, e => match e with
    | .Name x _ => bd (cLoc Γ x) fun i => some (.nm i)
    | .Tuple es _ _ => bd (cTgts (cTgt n Γ) es) fun ts => some (.tup ts)
    | _ => none
def isTupT : Expr → Bool
  | .Tuple _ _ _ => true
  | _ => false
def cIt (C : Cmp) (Γ : CEnv) (tg it : Expr) : Option CI := match it with
  | .Call (.Name x _) [a] [] _ => match decide (x = "range") && bltin Γ x with
    | true => gd (noStar a) (bd (C.E Γ a) fun ca => some (.rng1 ca))
    | false => match decide (x = "enumerate") && bltin Γ x && isTupT tg with
      | true => gd (noStar a) (bd (C.E Γ a) fun ca => some (.enum ca))
      | false => bd (C.E Γ it) fun c => some (.over c)
  | .Call (.Name x _) [a, b] [] _ => match decide (x = "range") && bltin Γ x with
    | true => gd (noStar a && noStar b) (bd (C.E Γ a) fun ca => bd (C.E Γ b) fun cb => some (.rng2 ca cb))
    | false => match decide (x = "zip") && bltin Γ x && isTupT tg with
      | true => gd (noStar a && noStar b) (bd (C.E Γ a) fun ca => bd (C.E Γ b) fun cb => some (.zip ca cb))
      | false => bd (C.E Γ it) fun c => some (.over c)
  | .Call (.Name x _) [a, b, d] [] _ => match decide (x = "zip") && bltin Γ x && isTupT tg with
    | true => gd (noStar a && noStar b && noStar d) (bd (C.E Γ a) fun ca => bd (C.E Γ b) fun cb => bd (C.E Γ d) fun cd => some (.zip3 ca cb cd))
    | false => bd (C.E Γ it) fun c => some (.over c)
  | .Call (.Attribute a m apos) [] [] cpos => match decide (m = "keys") with
    | true => gd ((apos.endLine == cpos.line) && noBase a) (bd (C.E Γ a) fun ca => some (.keys (.lk ca)))
    | false => bd (C.E Γ it) fun c => some (.over c)
  | _ => bd (C.E Γ it) fun c => some (.over c)
def cIfs (C : Cmp) (Γ : CEnv) : List Expr → Option (Option CB)
  | [] => some none
  | [b] => bd (C.B Γ b) fun c => some (some c)
  | _ => none
def cLcG (C : Cmp) (Γ : CEnv) (fi : Expr → Expr → Option CI) (elt : Expr) (gens : List Comprehension) (scope : Scope) : Option CE := match gens with
  | [⟨tg, iter, ifs, 0⟩] =>
    gd (blkC Γ.N (fkS Γ.names) scope (ownOf Γ scope) && noSet iter) (bd (fi tg iter) fun ci =>
      bd (cTgt 9 { Γ with names := scope.names } tg) fun ct => bd (cIfs C { Γ with names := scope.names } ifs) fun co =>
        bd (C.E { Γ with names := scope.names } elt) fun ce => some (.lc ci ct ((ownOf Γ scope).map (·.2)) co ce))
  | _ => none
def cLc (C : Cmp) (Γ : CEnv) (elt : Expr) (gens : List Comprehension) (scope : Scope) : Option CE := cLcG C Γ (cIt C Γ) elt gens scope
def kyOf (it : Expr) : Option (Str × Bool) := match it with
  | .Name x _ => some (x, false)
  | .Call (.Attribute (.Name x _) m apos) [] [] cpos => match decide (m = "keys") && (apos.endLine == cpos.line) with
    | true => some (x, true)
    | false => none
  | _ => none
theorem kyOf_is {it : Expr} {x : Str} {b : Bool} (h : kyOf it = some (x, b)) : (∃ p, it = .Name x p) ∨ ∃ p apos cpos, it = .Call (.Attribute (.Name x p) "keys" apos) [] [] cpos ∧ (apos.endLine == cpos.line) = true := by
  unfold kyOf at h
  split at h
  · cases h; exact .inl ⟨_, rfl⟩
  · split at h
    · rename_i e
      cases h
      rw [Bool.and_eq_true] at e
      have e1 := of_decide_eq_true e.1
      subst e1
      exact .inr ⟨_, _, _, rfl, e.2⟩
    · cases h
  · cases h
def cItK (Γ : CEnv) (it : Expr) : Option (Nat × CI) := bd (kyOf it) fun p => bd (cVar Γ p.1) fun i => some (i, .keys (.var i))
def cLcK (C : Cmp) (Γ : CEnv) (elt : Expr) (gens : List Comprehension) (scope : Scope) : Option CE := match gens with
  | [⟨_, iter, _, _⟩] => bd (cItK Γ iter) fun p => bd (cLcG C Γ (fun _ it => bd (cItK Γ it) fun q => some q.2) elt gens scope) fun ce => some (.lockE p.1 ce)
  | _ => none
def ctSl : CT → List Nat
  | .nm i => [i]
  | .tup _ => []
def cLc2 (C : Cmp) (Γ : CEnv) (elt : Expr) (gens : List Comprehension) (scope : Scope) : Option CE := match gens with
  | [⟨tg, iter, [], 0⟩, ⟨tg1, iter1, [], 0⟩] =>
    gd (blkC Γ.N (fkS Γ.names) scope (ownOf Γ scope) && noSet iter && noSet iter1) (bd (cIt C Γ tg iter) fun ci =>
      bd (cTgt 9 { Γ with names := scope.names } tg) fun ct => bd (cIt C { Γ with names := scope.names } tg1 iter1) fun ci1 => bd (cTgt 9 { Γ with names := scope.names } tg1) fun ct1 =>
        bd (C.E { Γ with names := scope.names } elt) fun ce => gd ((ctSl ct1).all fun i => ((ownOf Γ scope).map (·.2)).contains i) (some (.lc2 ci ct ci1 ct1 ((ownOf Γ scope).map (·.2)) (ctSl ct1) ce)))
  | _ => none
def cIsi (C : Cmp) (Γ : CEnv) (es : List Expr) : Option CE := match es with
  | [a, .Name t _] => gd (noStar a && bltin Γ t) (bd (tyOf t) fun ty => bd (C.E Γ a) fun ca => some (.isi ca ty))
  | [a, .Tuple [.Name t _, .Name u _] _ _] => gd (noStar a && bltin Γ t && bltin Γ u) (bd (tyOf t) fun ty => bd (tyOf u) fun uy => bd (C.E Γ a) fun ca => some (.isis ca ty uy))
  | _ => none
def lrgOf (x : Str) (es : List Expr) : Option (Expr × Expr) := match decide (x = "list") with
  | true => match es with
    | [.Call (.Name y _) [a, b] [] _] => match decide (y = "range") with
      | true => some (a, b)
      | false => none
    | _ => none
  | false => none
theorem lrgOf_is {x : Str} {es : List Expr} {a b : Expr} (h : lrgOf x es = some (a, b)) : x = "list" ∧ ∃ p q, es = [.Call (.Name "range" p) [a, b] [] q] := by
  unfold lrgOf at h
  split at h
  · rename_i e
    split at h
    · split at h
      · rename_i e2
        cases h
        have e2 := of_decide_eq_true e2
        subst e2
        exact ⟨of_decide_eq_true e, _, _, rfl⟩
      · cases h
    · cases h
  · cases h
def lrg1Of (x : Str) (es : List Expr) : Option Expr := match decide (x = "list") with
  | true => match es with
    | [.Call (.Name y _) [b] [] _] => match decide (y = "range") with
      | true => some b
      | false => none
    | _ => none
  | false => none
theorem lrg1Of_is {x : Str} {es : List Expr} {b : Expr} (h : lrg1Of x es = some b) : x = "list" ∧ ∃ p q, es = [.Call (.Name "range" p) [b] [] q] := by
  unfold lrg1Of at h
  split at h
  · rename_i e
    split at h
    · split at h
      · rename_i e2
        cases h
        have e2 := of_decide_eq_true e2
        subst e2
        exact ⟨of_decide_eq_true e, _, _, rfl⟩
      · cases h
    · cases h
  · cases h
def skOf (x : Str) (es : List Expr) : Option Expr := match decide (x = "sorted") with
  | true => match es with
    | [.Call (.Attribute a m apos) [] [] cpos] => match decide (m = "keys") && (apos.endLine == cpos.line) && noBase a with
      | true => some a
      | false => none
    | _ => none
  | false => none
theorem skOf_is {x : Str} {es : List Expr} {a : Expr} (h : skOf x es = some a) : x = "sorted" ∧ ∃ apos cpos, es = [.Call (.Attribute a "keys" apos) [] [] cpos] ∧ (apos.endLine == cpos.line) = true ∧ noBase a = true := by
  unfold skOf at h
  split at h
  · rename_i e
    split at h
    · split at h
      · rename_i e2
        cases h
        rw [Bool.and_eq_true, Bool.and_eq_true] at e2
        have e3 := of_decide_eq_true e2.1.1
        subst e3
        exact ⟨of_decide_eq_true e, _, _, rfl, e2.1.2, e2.2⟩
      · cases h
    · cases h
  · cases h
def vlOf (x : Str) (es : List Expr) : Option Expr := match decide (x = "list") with
  | true => match es with
    | [.Call (.Attribute a m apos) [] [] cpos] => match decide (m = "values") && (apos.endLine == cpos.line) && noBase a with
      | true => some a
      | false => none
    | _ => none
  | false => none
theorem vlOf_is {x : Str} {es : List Expr} {a : Expr} (h : vlOf x es = some a) : x = "list" ∧ ∃ apos cpos, es = [.Call (.Attribute a "values" apos) [] [] cpos] ∧ (apos.endLine == cpos.line) = true ∧ noBase a = true := by
  unfold vlOf at h
  split at h
  · rename_i e
    split at h
    · split at h
      · rename_i e2
        cases h
        rw [Bool.and_eq_true, Bool.and_eq_true] at e2
        have e3 := of_decide_eq_true e2.1.1
        subst e3
        exact ⟨of_decide_eq_true e, _, _, rfl, e2.1.2, e2.2⟩
      · cases h
    · cases h
  · cases h
def trg3Of (x : Str) (es : List Expr) : Option (Expr × Expr × Expr) := match decide (x = "tuple") with
  | true => match es with
    | [.Call (.Name y _) [a, b, d] [] _] => match decide (y = "range") with
      | true => some (a, b, d)
      | false => none
    | _ => none
  | false => none
theorem trg3Of_is {x : Str} {es : List Expr} {a b d : Expr} (h : trg3Of x es = some (a, b, d)) : x = "tuple" ∧ ∃ p q, es = [.Call (.Name "range" p) [a, b, d] [] q] := by
  unfold trg3Of at h
  split at h
  · rename_i e
    split at h
    · split at h
      · rename_i e2
        cases h
        have e2 := of_decide_eq_true e2
        subst e2
        exact ⟨of_decide_eq_true e, _, _, rfl⟩
      · cases h
    · cases h
  · cases h
def trgOf (x : Str) (es : List Expr) : Option Expr := match decide (x = "tuple") with
  | true => match es with
    | [.Call (.Name y _) [b] [] _] => match decide (y = "range") with
      | true => some b
      | false => none
    | _ => none
  | false => none
theorem trgOf_is {x : Str} {es : List Expr} {b : Expr} (h : trgOf x es = some b) : x = "tuple" ∧ ∃ p q, es = [.Call (.Name "range" p) [b] [] q] := by
  unfold trgOf at h
  split at h
  · rename_i e
    split at h
    · split at h
      · rename_i e2
        cases h
        have e2 := of_decide_eq_true e2
        subst e2
        exact ⟨of_decide_eq_true e, _, _, rfl⟩
      · cases h
    · cases h
  · cases h
def cCallV (C : Cmp) (Γ : CEnv) (x : Str) (es : List Expr) : Option CE := gd (es.all noStar && !es.isEmpty) (bd (cVar Γ x) fun i => bd (cEs (C.E Γ) es) fun cs => some (.callv i cs))
def cCall (C : Cmp) (Γ : CEnv) (x : Str) (es : List Expr) : Option CE := match isVis (Γ.names.lookup x) with
 | true => cCallV C Γ x es
 | false => match Γ.fns.lookup x with
  | some (k, ar) => gd (isGl (Γ.names.lookup x) && !(x == ("__debug__" : Str)) && es.all noStar && decide (es.length = ar)) (bd (cEs (C.E Γ) es) fun cs => some (.call k cs))
  | none => gd (bltin Γ x) (match decide (x = "isinstance") with
    | true => cIsi C Γ es
    | false => match lrgOf x es with
      | some (a, b) => gd (bltin Γ "range" && noStar a && noStar b) (bd (C.E Γ a) fun ca => bd (C.E Γ b) fun cb => some (.lrg ca cb))
      | none => match lrg1Of x es with
      | some b => gd (bltin Γ "range" && noStar b) (bd (C.E Γ b) fun cb => some (.lrg1 cb))
      | none => match trgOf x es with
      | some b => gd (bltin Γ "range" && noStar b) (bd (C.E Γ b) fun cb => some (.trg cb))
      | none => match trg3Of x es with
      | some (a, b, d) => gd (bltin Γ "range" && (noStar a && (noStar b && noStar d))) (bd (C.E Γ a) fun ca => bd (C.E Γ b) fun cb => bd (C.E Γ d) fun cd => some (.trg3 ca cb cd))
      | none => match skOf x es with
      | some a => bd (C.E Γ a) fun ca => some (.skeys ca)
      | none => match vlOf x es with
      | some a => bd (C.E Γ a) fun ca => some (.vals ca)
      | none => gd (es.all noStar && !es.isEmpty) (bd (biOf x) fun b => bd (cEs (C.E Γ) es) fun cs => some (.bi b cs)))
def cGlob (Γ : CEnv) (x : Str) : Option CE := match Γ.consts.lookup x with
  | some v => some (.val v)
  | none => bd (Γ.fns.lookup x) fun p => some (.val (.fn p.1))
def keysOf : List (Option Expr) → Option (List Expr)
  | [] => some []
  | some k :: r => bd (keysOf r) fun ks => some (k :: ks)
  | none :: _ => none
def cDisp (C : Cmp) (Γ : CEnv) (ks : List (Option Expr)) (vs : List Expr) : Option CE := gd (Nat.ble ks.length 15 && !ks.isEmpty) (bd (keysOf ks) fun ks => bd (cEs (C.E Γ) ks) fun cks => bd (cEs (C.E Γ) vs) fun cvs => gd (decide (ks.length = vs.length)) (some (.disp cks cvs)))
def posN (p : Pos) : Nat := p.line * 1000 + p.col
def cDict (C : Cmp) (Γ : CEnv) (ks : List (Option Expr)) (vs : List Expr) (p : Pos) : Option CE := match ks, vs with
  | [], [] => match Γ.dts.contains (1000000000 + posN p) with
    | true => some .dnewN
    | false => some (.dnew (Γ.dts.contains (posN p)))
  | [some k], [v] => match Γ.dts.contains (posN p) with
    | true => bd (C.E Γ k) fun ck => bd (C.E Γ v) fun cv => some (.dispT ck cv)
    | false => cDisp C Γ [some k] [v]
  | ks, vs => cDisp C Γ ks vs
def isEmD (op : CmpOp) (b : Expr) : Bool := match op, b with
  | .Eq, .Dict [] [] _ => true
  | _, _ => false
theorem isEmD_is {op : CmpOp} {b : Expr} (h : isEmD op b = true) : op = .Eq ∧ ∃ p, b = .Dict [] [] p := by
  unfold isEmD at h
  split at h
  · exact ⟨rfl, _, rfl⟩
  · cases h
def isOne : Expr → Bool
  | .UnaryOp .USub (.Constant (.int 1) _ _) _ => true
  | _ => false
def isGlD (Γ : CEnv) (x : Str) : Bool := isGl (Γ.names.lookup x) && !(x == ("__debug__" : Str))
def xCall (C : Cmp) (Γ : CEnv) (e : Expr) : Option (Nat × List CE) := match e with
  | .Call (.Name x _) es [] _ => match Γ.fns.lookup x with
    | some (k, ar) => gd (isGlD Γ x && es.all noStar && decide (es.length = ar) && !es.isEmpty && Γ.rsn.contains x) (bd (cEs (C.E Γ) es) fun cs => some (k, cs))
    | none => none
  | _ => none
def hval : Nat → CEnv → Str → Nat → Expr → Option PV
  | 0, _, _, _, _ => none
  | m + 1, Γ, n, i, e => match e with
    | .Constant (.bool b) _ _ => some (.bl b)
    | .Constant (.str s) _ _ => some (.str s)
    | .Call (.Name f _) [.Name y _, .Name D _] [] _ => gd (decide (f = "isinstance") && bltin Γ f && decide (y = n) && isGlD Γ D) (bd (Γ.excs.lookup D) fun j => some (.bl (decide (i = j))))
    | .IfExp t a b _ => gd (plainT t) (match hval m Γ n i t with
      | some (.bl true) => hval m Γ n i a
      | some (.bl false) => hval m Γ n i b
      | _ => none)
    | _ => none
def hAll (Γ : CEnv) (n : Str) (e : Expr) : List (Str × Nat) → Option (List (Nat × PV))
  | [] => some []
  | p :: r => bd (hval 9 Γ n p.2 e) fun v => bd (hAll Γ n e r) fun t => some ((p.2, v) :: t)
def isFnK : ScopeKind → Bool
  | .function => true
  | _ => false
structure Told where
  a : Str
  x : Str
  n : Str
  e : Expr
  aft : Option Bool
def toldOf (st : Stmt) : Option Told := match defBody st with
  | [.Try [.Return (some (.Call (.Name a _) [] [] _)) _] [.ExceptHandler (some (.Name x _)) (some n) [.Return (some e) _] _] [] [] _] => some ⟨a, x, n, e, none⟩
  | [.Try [.Expr (.Call (.Name a _) [] [] _) _] [.ExceptHandler (some (.Name x _)) (some n) [.Return (some e) _] _] [] [] _, .Return (some (.Constant (.bool b) _ _)) _] => some ⟨a, x, n, e, some b⟩
  | _ => none
def gEnv (Γ : CEnv) (d : DefR) : CEnv := { N := d.N, names := (defScope d.st).names, fns := [], consts := [], nob := Γ.nob, dts := [], excs := Γ.excs, exb := Γ.exb }
def lEnv (Γ : CEnv) (scope : Scope) : CEnv := { Γ with names := scope.names, lam := false, cls := [], mts := [], flds := [], ks := false, cls0 := [] }
def lamOf : List Expr → Option (Arguments × Expr × Scope)
  | [.Lambda params body scope _] => some (params, body, scope)
  | _ => none
theorem lamOf_is {es : List Expr} {p : Arguments} {b : Expr} {sc : Scope} (h : lamOf es = some (p, b, sc)) : ∃ q, es = [.Lambda p b sc q] := by
  unfold lamOf at h
  split at h
  · cases h; exact ⟨_, rfl⟩
  · cases h
def noPar (p : Arguments) : Bool := match p with
  | ⟨[], [], none, [], [], none, []⟩ => true
  | _ => false
theorem noPar_is {p : Arguments} (h : noPar p = true) : p = ⟨[], [], none, [], [], none, []⟩ := by
  unfold noPar at h
  split at h
  · rfl
  · cases h
def isCF : Option NameKind → Bool
  | some .cell => true
  | some .free => true
  | _ => false
def scB (Γ : CEnv) (scope : Scope) : Bool := isFnK scope.kind && !scope.isCoroutine && !scope.isGenerator && scope.names.all fun y => !isLoc (some y.2) && (match y.2 with | .free => isCF (Γ.names.lookup y.1) | _ => true)
def parOf (p : Arguments) : Option (Arg × Int × Nat × Pos) := match p with
  | ⟨[], [ar], none, [], [], none, [.Constant (.int i) kd kp]⟩ => some (ar, i, kd, kp)
  | _ => none
theorem parOf_is {p : Arguments} {ar : Arg} {i : Int} {kd : Nat} {kp : Pos} (h : parOf p = some (ar, i, kd, kp)) : p = ⟨[], [ar], none, [], [], none, [.Constant (.int i) kd kp]⟩ := by
  unfold parOf at h
  split at h
  · cases h; rfl
  · cases h
def scP (Γ : CEnv) (scope : Scope) (a : Str) : Bool := isFnK scope.kind && !scope.isCoroutine && !scope.isGenerator && decide (scope.names.lookup a = some .local) && !(Γ.N.contains a) && scope.names.all fun y => (!isLoc (some y.2) || (decide (y.1 = a) && decide (y.2 = .local))) && (match y.2 with | .free => isCF (Γ.names.lookup y.1) | _ => true)
def lamSc (Γ : CEnv) (params : Arguments) (scope : Scope) : Bool := match parOf params with
  | some q => scP Γ scope q.1.arg
  | none => noPar params && scB Γ scope
def tChk (Γ : CEnv) (d : DefR) (t : Told) : Bool := decide (t.x = Γ.exb) && isGlD (gEnv Γ d) t.x && decide ((gEnv Γ d).names.lookup t.n = some .local) && okName t.n && decide (d.ps = [t.a]) && decide (d.N[0]? = some t.a) && isVis ((gEnv Γ d).names.lookup t.a) && okName t.a
def cLam (C : Cmp) (Γ : CEnv) (x : Str) (params : Arguments) (body : Expr) (scope : Scope) : Option CE :=
  gd (Γ.lam && !Γ.excs.isEmpty && isGlD Γ x && lamSc Γ params scope) (bd (Γ.tolds.lookup x) fun p => bd (toldOf p.2.st) fun t => gd (tChk Γ p.2 t) (bd (ixOf t.n p.2.N 0) fun _ => bd (C.E (lEnv Γ scope) body) fun cb => bd (xCall C (lEnv Γ scope) body) fun px => bd (hAll (gEnv Γ p.2) t.n t.e Γ.excs) fun hs => some (.lam cb (.call (xbig + px.1) px.2) hs t.aft)))
def mtAt (Γ : CEnv) (m : Str) (n : Nat) : Option (List (Nat × Nat)) := match Γ.mts.lookup m with
  | some (tab, ar) => match decide (n + 1 = ar) with
    | true => some tab
    | false => none
  | none => none
theorem mtAt_is {Γ : CEnv} {m : Str} {n : Nat} {tab : List (Nat × Nat)} (h : mtAt Γ m n = some tab) : Γ.mts.lookup m = some (tab, n + 1) := by
  unfold mtAt at h
  split at h
  · rename_i e
    split at h
    · rename_i e2
      cases h
      rw [of_decide_eq_true e2]
      exact e
    · cases h
  · cases h
def cKey (C : Cmp) (Γ : CEnv) (x : Str) (es : List Expr) (kw : Str) (y : Str) : Option CE := gd (Γ.ks && decide (kw = "key") && decide (y = "str") && bltin Γ x && bltin Γ y) (bd (skOf x es) fun a => bd (C.E Γ a) fun ca => some (.skeysS ca))
def mk0Of (Γ : CEnv) (x : Str) (es : List Expr) : Option Nat := match es with
  | [] => Γ.cls0.lookup x
  | _ => none
theorem mk0Of_is {Γ : CEnv} {x : Str} {es : List Expr} {cl : Nat} (h : mk0Of Γ x es = some cl) : es = [] ∧ Γ.cls0.lookup x = some cl := by
  unfold mk0Of at h
  split at h
  · exact ⟨rfl, h⟩
  · cases h
def stepC (C : Cmp) : Cmp where
  E := fun Γ e => match e with
    | .Name x _ => match isVis (Γ.names.lookup x) with
      | true => bd (cVar Γ x) fun i => some (.var i)
      | false => gd (isGl (Γ.names.lookup x) && okName x) (cGlob Γ x)
    | .Constant (.int i) _ _ => some (.val (.int i))
    | .Constant (.bool b) _ _ => some (.val (.bl b))
    | .Constant .none _ _ => some (.val .non)
    | .Constant (.str s) _ _ => some (.val (.str s))
    | .BinOp a op b _ => bd (bopOf op) fun o => bd (C.E Γ a) fun x => bd (C.E Γ b) fun y => some (.bin o x y)
    | .UnaryOp .USub a _ => bd (C.E Γ a) fun x => some (.neg x)
    | .UnaryOp .Not a _ => bd (C.E Γ a) fun x => some (.not x)
    | .Compare a [op] [b] _ => match isEmD op b with
     | true => bd (C.E Γ a) fun x => some (.isE x)
     | false => match op with
      | .In => gd (noSet b) (bd (C.E Γ a) fun x => bd (C.E Γ b) fun y => some (.isin false x y))
      | .NotIn => gd (noSet b) (bd (C.E Γ a) fun x => bd (C.E Γ b) fun y => some (.isin true x y))
      | _ => gd (noSet b) (bd (copOf op b) fun o => bd (C.E Γ a) fun x => bd (C.E Γ b) fun y => some (.cmp o x y))
    | .Compare a [o1, o2] [b, d] _ => gd (noSet d) (bd (copOf o1 b) fun p => bd (copOf o2 d) fun q => bd (C.E Γ a) fun x => bd (C.E Γ b) fun y => bd (C.E Γ d) fun z => some (.chain p q x y z))
    | .BoolOp .And es _ => cAnds (C.E Γ) es
    | .BoolOp .Or es _ => cOrs (C.E Γ) es
    | .IfExp t a b _ => bd (C.B Γ t) fun x => bd (C.E Γ a) fun y => bd (C.E Γ b) fun z => some (.ite x y z)
    | .Tuple es _ _ => gd (es.all noStar) (bd (cEs (C.E Γ) es) fun cs => some (.tup cs))
    | .List es _ => gd (es.all noStar) (bd (cEs (C.E Γ) es) fun cs => some (.lst cs))
    | .Call (.Name x _) es [] _ => match lamOf es with
      | some q => cLam C Γ x q.1 q.2.1 q.2.2
      | none => match Γ.cls.lookup x with
        | some (cl, k, ar) => gd (isGlD Γ x && es.all noStar && decide (es.length + 1 = ar)) (bd (cEs (C.E Γ) es) fun cs => some (.mk cl k cs))
        | none => match mk0Of Γ x es with
          | some cl => gd (isGlD Γ x) (some (.mk0 cl))
          | none => cCall C Γ x es
    | .Call (.Name x _) es [⟨some kw, .Name y _, _⟩] _ => cKey C Γ x es kw y
    | .Call (.Attribute o m apos) es [] cpos => gd (noBase o && (apos.endLine == cpos.line)) (match mtAt Γ m es.length with
     | some tab => gd (es.all noStar && Nat.blt es.length 30) (bd (C.E Γ o) fun co => bd (cEs (C.E Γ) es) fun cs => some (.meth tab m co cs))
     | none => match decide (m = "get") with
     | true => (match es with
      | [k, x] => gd (noStar k && noStar x) (bd (C.E Γ o) fun co => bd (C.E Γ k) fun ck => bd (C.E Γ x) fun cx => some (.get2 co ck cx))
      | _ => none)
     | false => bd (mtOf m) fun mt => match mt, es with
      | .append, [a] => gd (noStar a) (bd (C.E Γ o) fun co => bd (C.E Γ a) fun ca => some (.mt .append co [ca]))
      | .count, [a] => gd (noStar a) (bd (C.E Γ o) fun co => bd (C.E Γ a) fun ca => some (.mt .count co [ca]))
      | .index, [a] => gd (noStar a) (bd (C.E Γ o) fun co => bd (C.E Γ a) fun ca => some (.mt .index co [ca]))
      | .pop, [] => bd (C.E Γ o) fun co => some (.mt .pop co [])
      | _, _ => none)
    | .Attribute a f _ => gd (noBase a && Γ.flds.contains f) (bd (C.E Γ a) fun x => some (.fld x f))
    | .Subscript a (.Slice lo hi none _) _ => bd (C.E Γ a) fun x => bd (cOpt (C.E Γ) lo) fun l => bd (cOpt (C.E Γ) hi) fun h => some (.sl x l h)
    | .Subscript a (.Slice none none (some st) _) _ => gd (isOne st) (bd (C.E Γ a) fun x => some (.rev x))
    | .Dict ks vs p => cDict C Γ ks vs p
    | .Subscript a b _ => gd (noSlice b) (bd (C.E Γ a) fun x => bd (C.E Γ b) fun y => some (.ix x y))
    | .ListComp elt gens scope p => match Γ.dts.contains (posN p) with
     | true => cLcK C Γ elt gens scope
     | false => match gens with
      | [_, _] => cLc2 C Γ elt gens scope
      | _ => cLc C Γ elt gens scope
    | _ => none
  B := fun Γ e => match e with
    | .UnaryOp .Not a _ => bd (C.B Γ a) fun x => some (.not x)
    | .BoolOp .And es _ => bAnds (C.B Γ) es
    | .BoolOp .Or es _ => bOrs (C.B Γ) es
    | .Compare a [op] [b] _ => match isEmD op b with
     | true => bd (C.E Γ a) fun x => some (.bl (.isE x))
     | false => match op with
      | .In => gd (noSet b) (bd (C.E Γ a) fun x => bd (C.E Γ b) fun y => some (.bl (.isin false x y)))
      | .NotIn => gd (noSet b) (bd (C.E Γ a) fun x => bd (C.E Γ b) fun y => some (.bl (.isin true x y)))
      | _ => gd (noSet b) (bd (copOf op b) fun o => bd (C.E Γ a) fun x => bd (C.E Γ b) fun y => some (.bl (.cmp o x y)))
    | .Compare a [o1, o2] [b, d] _ => gd (noSet d) (bd (copOf o1 b) fun p => bd (copOf o2 d) fun q => bd (C.E Γ a) fun x => bd (C.E Γ b) fun y => bd (C.E Γ d) fun z => some (.bl (.chain p q x y z)))
    | .Compare a [o1, o2, o3] [b, d, e2] _ => gd (noSet e2) (bd (copOf o1 b) fun p => bd (copOf o2 d) fun q => bd (copOf o3 e2) fun r => bd (C.E Γ a) fun x => bd (C.E Γ b) fun y => bd (C.E Γ d) fun z => bd (C.E Γ e2) fun u => three p q r x y z u)
    | _ => gd (plainT e) (bd (C.E Γ e) fun x => some (.val x))
def cmpN : Nat → Cmp
  | 0 => ⟨fun _ _ => none, fun _ _ => none⟩
  | n + 1 => stepC (cmpN n)
end Pyx

namespace Pyx
open PySem PySem.Spec PyProof.Rows L2
def FnIn (c : Rc) (call : Nat → List PV → PH → R PV) (X : Cx) (x : Str) (k ar : Nat) : Prop := ∃ fd ps lvl, X.mg x = some (.ref (c.F k)) ∧ PySem.W.keepIn X.K (.ref (c.F k)) = true ∧ Binds X.K fd ps [] ∧ Room lvl X.A ∧
  FnQ c.gd X.prog X.w X.K X.mg X.base (L2.CX X.prog X.w) lvl (c.F k) fd ps (spB c call k ar)
structure ExF (c : Rc) (K : PySem.W.Frag) (mg : Str → Option Value) (x : Str) (i : Nat) : Prop where
  mg : mg x = some (.ref (c.C i))
  keep : PySem.W.keepIn K (.ref (c.C i)) = true
  exc : ∃ (B newId initId : String) (bmB : List Value), ExcBaseFacts B newId initId bmB ∧ PySem.W.excIn K (c.C i) bmB newId = true
  sub : PySem.W.subIn K (.ref (c.C i)) (.type "BaseException") = some true
  ty : PySem.W.typeIn K (.ref (c.C i)) = some (.type "type")
  is : ExcC K (c.C i)
structure ExAll (c : Rc) (K : PySem.W.Frag) (mg : Str → Option Value) (xs : List (Str × Nat)) (xb : Str) : Prop where
  one : ∀ x i, (x, i) ∈ xs → ExF c K mg x i
  kit : ∀ x i y j, (x, i) ∈ xs → (y, j) ∈ xs → PySem.W.kitOne K (.ref (c.C i)) (.ref (c.C j)) = some (decide (i = j))
  base : xs ≠ [] → ∃ CB, mg xb = some (.ref CB) ∧ ∀ x i, (x, i) ∈ xs → PySem.W.exmOne K (.ref (c.C i)) (.ref CB) = some true
structure LamG (c : Rc) (call : Nat → List PV → PH → R PV) (Γ : CEnv) (X : Cx) : Prop where
  ng : c.gd = false
  code : X.env.code = .ref c.cd
  tab : LamX.TabB X.base X.mg c.cd c.tb
  qual : X.env.qual ++ "<lambda>" = c.lq
  lvl : ∃ m, Room (m + 2) X.A ∧ (∀ x k ar, Γ.fns.lookup x = some (k, ar) → ∃ fd ps, X.mg x = some (.ref (c.F k)) ∧ PySem.W.keepIn X.K (.ref (c.F k)) = true ∧ Binds X.K fd ps [] ∧ FnOk X.prog X.w X.K X.mg X.base (L2.CX X.prog X.w) m (c.F k) fd ps (spB c call k ar)) ∧
    (∀ k vs h, call k vs h ≠ .stuck → k < xbig → ∃ fd ps, PySem.W.keepIn X.K (.ref (c.F k)) = true ∧ Binds X.K fd ps [] ∧ FnOk X.prog X.w X.K X.mg X.base (L2.CX X.prog X.w) m (c.F k) fd ps (spB c call k vs.length))
  told : ∀ x k d, Γ.tolds.lookup x = some (k, d) → d.x = x ∧ X.mg x = some (.ref (c.F k)) ∧ ∃ fd, Fun X.K d.x d.x d.st (c.F k) fd ∧ Binds X.K fd d.ps [] ∧ FnScope d.N d.ps (defScope d.st)
structure Good (c : Rc) (call : Nat → List PV → PH → R PV) (Γ : CEnv) (X : Cx) : Prop where
  K : X.K = c.K
  W : X.w = c.w
  calm : X.calm = true
  nd : X.N.Nodup
  N : X.N = Γ.N
  xe : X.xe = fun _ _ => False
  vis : ∀ x, isVis (Γ.names.lookup x) = true → Vis X.env.scope x
  loc : ∀ x, isLoc (Γ.names.lookup x) = true → Loc X.env.scope x ∧ (X.fn x = true ∨ X.env.scope.names.lookup x = some .local)
  fr : ∀ x, (Γ.names.lookup x = some .cell ∨ Γ.names.lookup x = some .free) → (X.env.scope.names.lookup x = some .cell ∨ X.env.scope.names.lookup x = some .free)
  gl : ∀ x, isGl (Γ.names.lookup x) = true → Gl X x
  fns : ∀ x k ar, Γ.fns.lookup x = some (k, ar) → FnIn c call X x k ar
  fnv : ∀ k vs h, call k vs h ≠ .stuck → k < xbig → MtF c call X k vs.length
  consts : ∀ x v, Γ.consts.lookup x = some v → ∃ u w, X.mg x = some u ∧ RelV w u ∧ ∀ f n H, RV c f n H v w
  nob : ∀ x, Γ.nob.contains x = true → X.mg x = none
  units : X.A.units + 65 < cLine
  exs : ExAll c X.K X.mg Γ.excs Γ.exb
  lams : Γ.lam = true → LamG c call Γ X
  cl : ClF c X.K Γ.flds
  cls : ∀ x cl k ar, Γ.cls.lookup x = some (cl, k, ar) → c.isC cl = true ∧ X.mg x = some (.ref (c.L cl)) ∧ Mk X.K (c.L cl) (c.F k) ∧ ∃ fd ps lvl, Binds X.K fd ps [] ∧ Room (lvl + 1) X.A ∧ FnQ c.gd X.prog X.w X.K X.mg X.base (L2.CX X.prog X.w) lvl (c.F k) fd ps (spB c call k ar)
  mts : ∀ m tab ar, Γ.mts.lookup m = some (tab, ar) → ∀ cl k, tab.lookup cl = some k → c.isC cl = true → Meth X.K (c.L cl) m (c.F k) ∧ MtF c call X k ar
  gd : c.gd = true → X.A.guards = some []
  ks : Γ.ks = true → c.gd = true
  cls0 : ∀ x cl, Γ.cls0.lookup x = some cl → c.isC cl = true ∧ X.mg x = some (.ref (c.L cl)) ∧ Mk0 X.K (c.L cl)
section
variable {c : Rc} {call : Nat → List PV → PH → R PV} {Γ : CEnv} {X : Cx}
theorem bltin_is (G : Good c call Γ X) {x : Str} (h : bltin Γ x = true) : Gl X x ∧ X.mg x = none := by
  unfold bltin at h
  rw [Bool.and_eq_true] at h
  exact ⟨G.gl x h.1, G.nob x h.2⟩
theorem okName_is {x : Str} (h : okName x = true) : (x == ("__debug__" : Str)) = false ∧ (x == ("__classdict__" : Str)) = false := by
  unfold okName at h
  rw [Bool.and_eq_true, Bool.not_eq_true', Bool.not_eq_true'] at h
  exact h
theorem cVar_is (G : Good c call Γ X) {x : Str} {i : Nat} (h : cVar Γ x = some i) : X.N[i]? = some x ∧ Vis X.env.scope x ∧ (x == ("__debug__" : Str)) = false ∧ (x == ("__classdict__" : Str)) = false := by
  obtain ⟨h1, h2⟩ := gd_is h
  rw [Bool.and_eq_true] at h1
  obtain ⟨h3, h4⟩ := okName_is h1.1
  have q := (ixOf_is h2).2
  rw [Nat.sub_zero, ← G.N] at q
  exact ⟨q, G.vis x h1.2, h3, h4⟩
theorem cLoc_is (G : Good c call Γ X) {x : Str} {i : Nat} (h : cLoc Γ x = some i) : X.N[i]? = some x ∧ Loc X.env.scope x ∧ (X.fn x = true ∨ X.env.scope.names.lookup x = some .local) := by
  obtain ⟨h1, h2⟩ := gd_is h
  have q := (ixOf_is h2).2
  rw [Nat.sub_zero, ← G.N] at q
  exact ⟨q, G.loc x h1⟩
theorem lookup_mapk {g : Str → NameKind → NameKind} : ∀ (l : List (Str × NameKind)) (x : Str), (l.map fun p => (p.1, g p.1 p.2)).lookup x = (l.lookup x).map (g x)
  | [], _ => rfl
  | (n, k) :: r, x => by
    rw [List.map_cons, List.lookup_cons, List.lookup_cons]
    cases h : x == n with
    | true =>
      have e : x = n := by simpa using h
      subst e
      rfl
    | false => exact lookup_mapk r x
theorem relabel_look (scope : Scope) (env : Env) (x : Str) : (relabel scope env).names.lookup x = (scope.names.lookup x).map fun k => if (k == .free && env.scope.kind == .function && env.kindOf x == some .cell) = true then .cell else k := by
  have e : (relabel scope env).names = scope.names.map fun p => (p.1, if (p.2 == .free && env.scope.kind == .function && env.kindOf p.1 == some .cell) = true then .cell else p.2) := by
    unfold relabel
    refine List.map_congr_left fun p _ => ?_
    obtain ⟨n, k⟩ := p
    dsimp only
    split
    · rename_i h; rfl
    · rename_i h; rfl
  rw [e, lookup_mapk (g := fun n k => if (k == .free && env.scope.kind == .function && env.kindOf n == some .cell) = true then .cell else k)]
theorem good_blk (G : Good c call Γ X) (s : Shared) (H : Hp) (scope : Scope) (C : Addr) (cl : List (Str × Addr)) (fp : List Addr) : Good c call { Γ with names := scope.names } (X.blk s H scope (compEnvC scope cl C X.env) fp) where
  K := G.K
  W := G.W
  calm := G.calm
  nd := G.nd
  N := G.N
  xe := rfl
  vis := fun x h => by
    show Vis (relabel scope X.env) x
    unfold Vis
    rw [relabel_look]
    cases e : scope.names.lookup x with
    | none => have h : isVis (scope.names.lookup x) = true := h; rw [e] at h; cases h
    | some k =>
      have h : isVis (scope.names.lookup x) = true := h
      rw [e] at h
      rw [Option.map_some]
      split
      · exact .inr (.inl rfl)
      · cases k <;> first | (cases h; done) | exact .inl rfl | exact .inr (.inl rfl) | exact .inr (.inr rfl)
  loc := fun x h => by
    have h : isLoc (scope.names.lookup x) = true := h
    show Loc (relabel scope X.env) x ∧ ((scope.names.lookup x == some .cell) = true ∨ (relabel scope X.env).names.lookup x = some .local)
    unfold L2.Loc
    rw [relabel_look]
    cases e : scope.names.lookup x with
    | none => rw [e] at h; cases h
    | some k =>
      rw [e] at h
      cases k <;> first | (cases h; done) | exact ⟨.inl rfl, .inr rfl⟩ | exact ⟨.inr rfl, .inl rfl⟩
  fr := fun x h => by
    have h : scope.names.lookup x = some .cell ∨ scope.names.lookup x = some .free := h
    show (relabel scope X.env).names.lookup x = some .cell ∨ (relabel scope X.env).names.lookup x = some .free
    rw [relabel_look]
    rcases h with h | h
    · rw [h]; exact .inl rfl
    · rw [h, Option.map_some]
      split
      · exact .inl rfl
      · exact .inr rfl
  gl := fun x h => by
    have h : isGl (scope.names.lookup x) = true := h
    show (relabel scope X.env).names.lookup x = some .globalImplicit
    rw [relabel_look]
    cases e : scope.names.lookup x with
    | none => rw [e] at h; cases h
    | some k =>
      rw [e] at h
      cases k <;> first | (cases h; done) | rfl
  fns := G.fns
  fnv := G.fnv
  consts := G.consts
  nob := G.nob
  exs := G.exs
  units := G.units
  lams := fun h => (let L := G.lams h; ⟨L.ng, L.code, L.tab, L.qual, L.lvl, L.told⟩)
  cl := G.cl
  cls := G.cls
  mts := G.mts
  gd := G.gd
  ks := G.ks
  cls0 := G.cls0
theorem blk_of (G : Good c call Γ X) {scope : Scope} {own : List (Str × Nat)} (h : blkC Γ.N (fkS Γ.names) scope own = true) : BlkOk X.N X.env.scope scope own := by
  have B := blkOk_by h
  rw [G.N]
  exact ⟨B.kind, B.uniq, B.ix, fun y hy e => G.fr _ (B.free y hy e), B.own⟩
structure COk (c : Rc) (call : Nat → List PV → PH → R PV) (C : Cmp) : Prop where
  E : ∀ Γ X, Good c call Γ X → ∀ e ce, C.E Γ e = some ce → ∀ n, PE X e (tE c (evE call n ce))
  B : ∀ Γ X, Good c call Γ X → ∀ e cb, C.B Γ e = some cb → ∀ n, PT X e (tB' c (evB (evE call n) cb))
theorem pes_of {f : Expr → Option CE} {rec : CE → PSt → PH → R PV} (hf : ∀ e ce, f e = some ce → PE X e (tE c (rec ce))) : ∀ {es : List Expr} {cs : List CE}, es.all noStar = true → cEs f es = some cs → PEs X c rec es cs
  | [], cs, _, h => by cases h; exact .nil
  | e :: es, cs, hs, h => by
    rw [List.all_cons, Bool.and_eq_true] at hs
    obtain ⟨ce, h1, h⟩ := bd_is h
    obtain ⟨ces, h2, h⟩ := bd_is h
    cases h
    exact .cons hs.1 (hf e ce h1) (pes_of hf hs.2 h2)
theorem stuck0 {e : Expr} {ce : CE} : PE X e (tE c (evE call 0 ce)) := s_stuck fun _ _ => rfl
theorem evB0 : ∀ (cb : CB) (st : PSt) (h : PH), evB (evE call 0) cb st h = .stuck
  | .val e, st, h => rfl
  | .bl e, st, h => rfl
  | .not b, st, h => by unfold evB; rw [evB0 b]
  | .and a b, st, h => by unfold evB; rw [evB0 a]
  | .or a b, st, h => by unfold evB; rw [evB0 a]
theorem stuckB0 {e : Expr} {cb : CB} : PT X e (tB' c (evB (evE call 0) cb)) := ⟨fun pins s σ H Q I ⟨f, h, st, r, r', p⟩ => by rw [evB0] at p; exact p.elim⟩
theorem tgts_of {f : Expr → Option CT} (hf : ∀ e t, f e = some t → PG X e (tT c t)) : ∀ {es : List Expr} {ts : List CT}, cTgts f es = some ts → PTgs X c es ts
  | [], ts, h => by cases h; exact .nil
  | e :: es, ts, h => by
    obtain ⟨hs, h⟩ := gd_is h
    obtain ⟨t, h1, h⟩ := bd_is h
    obtain ⟨ts', h2, h⟩ := bd_is h
    cases h
    exact .cons hs (hf e t h1) (tgts_of hf h2)
theorem tgt_of : ∀ (m : Nat) {Γ : CEnv} {X : Cx}, Good c call Γ X → ∀ e t, cTgt m Γ e = some t → PG X e (tT c t)
  | 0, _, _, _, _, _, h => by cases h
  | m + 1, Γ, X, G, e, t, h => by
    unfold cTgt at h
    split at h
    · obtain ⟨i, h1, h⟩ := bd_is h
      cases h
      obtain ⟨q1, q2, q3⟩ := cLoc_is G h1
      exact g_nm G.nd q1 q2 q3
    · obtain ⟨ts, h1, h⟩ := bd_is h
      cases h
      exact g_tup G.K G.calm (tgts_of (tgt_of m G) h1)
    · cases h
end
end Pyx

namespace Pyx
open PySem PySem.Spec PyProof.Rows L2
section
variable {X : Cx}
theorem pa_nox {es : List Expr} {t : TA} (h : PA X.nox es t) : PA X es t := ⟨fun pos pins s σ H Q I hw =>
  wpAny_mono (h.run pos pins s σ H Q (I.wish _) hw) (fun _ _ ⟨v, H', I', r, q⟩ => ⟨v, H', I'.unwish, r, q⟩) fun _ _ z => False.elim z⟩
theorem ps_nox {s : Stmt} {t : TS} (h : PS X.nox s t) : PS X s t := ⟨fun pins s σ H D I hw =>
  wpAny_mono (h.run pins s σ H D (I.wish _) hw) (fun _ _ q => q.unwish) fun _ _ z => False.elim z⟩
theorem ps_alt {s : Stmt} {t u : TS} (h1 : PS X s t) (h2 : PS X s u) : PS X s (fun D σ H => t D σ H ∨ u D σ H) := ⟨fun pins s σ H D I hw => by
  rcases hw with hw | hw
  · exact h1.run pins s σ H D I hw
  · exact h2.run pins s σ H D I hw⟩
theorem pmk_none {C : Addr} {bmB : List Value} {B newId initId : String} {x : Str} {p pos : Pos} (F : ExcBaseFacts B newId initId bmB) (q : PySem.W.excIn X.K C bmB newId = true) (gC : X.mg x = some (.ref C)) (kC : PySem.W.keepIn X.K (.ref C) = true) (r : Raises X (.ref C))
    (hg : Gl X x) (hdb : (x == ("__debug__" : Str)) = false) : PMk X (.Call (.Name x p) [] [] pos) (fun _ H Q => Q (.ref C) none H) := by
  intro pins s σ H Q I h
  refine wpAny_Call_Name_kw (ld_glob I hg gC ?_ hdb)
  refine PySem.W.callWith_K0 I.kIn kC ?_
  show wpAny _ _ (call (.ref C) []) _ _ _
  obtain ⟨bm, N, nm, qn, bs, hdct, sn, sub, ab, col, dd, k0, k1, k2, k3, k5, mN, hC, hN, hni, T⟩ := exc_obj I.kIn q
  refine wpAny_call_exc_subT F T hC hN hni (fun h' e hm => ?_) (by show 0 ≤ sizeLine; exact Nat.zero_le _)
  exact mk_of I hm r h (I.hok.gone hm.new)
end
def tXe (c : Rc) (W : WX) (ev : PSt → PH → R PV) : TE := fun σ H _ => ∃ f h st, Rel c f h H ∧ RSt c f h.n H st σ ∧ Post c f h.n H (ev st h) (fun _ _ H' x => ∃ i : Nat, x = .int (i : Nat) ∧ W (.ref (c.C i)) none σ H')
def tXs (c : Rc) (W : WX) (ev : PSt → PH → R PV) : TS := fun _ σ H => tXe c W ev σ H fun _ _ => False
def tX (c : Rc) (E : XK) (ev : PSt → PH → R PV) : TS := tXs c (fun cls d _ H => E cls d H) ev
section
variable {c : Rc} {call : Nat → List PV → PH → R PV} {Γ : CEnv} {X : Cx} {C : Cmp}
theorem isGlD_is (G : Good c call Γ X) {x : Str} (h : isGlD Γ x = true) : Gl X x ∧ (x == ("__debug__" : Str)) = false := by
  unfold isGlD at h
  rw [Bool.and_eq_true, Bool.not_eq_true'] at h
  exact ⟨G.gl x h.1, h.2⟩
def xOf : Option (Nat × List CE) → XS
  | some p => .call p.1 p.2
  | none => .no
def xStmt (C : Cmp) (Γ : CEnv) (s : Stmt) : Option (Nat × List CE) := match s with
  | .Expr e _ => gd (noComp e) (xCall C Γ e)
  | .Return (some e) _ => xCall C Γ e
  | .Assign [.Name y _] e _ => gd (noComp e) (bd (cLoc Γ y) fun _ => xCall C Γ e)
  | _ => none
theorem xe_call (K : COk c call C) {W : WX} (G : Good c call Γ X.nox) (tk : Takes X W) {e : Expr} {k : Nat} {ces : List CE} (h : xCall C Γ e = some (k, ces)) (n : Nat) : PE X e (tXe c W (evE call n (.call (xbig + k) ces))) := by
  unfold xCall at h
  split at h
  · rename_i x p es ps
    split at h
    · rename_i k' ar e1
      obtain ⟨h1, h⟩ := gd_is h
      simp only [Bool.and_eq_true, Bool.not_eq_true', decide_eq_true_eq] at h1
      obtain ⟨cs, h2, h⟩ := bd_is h
      cases h
      cases n with
      | zero => exact ⟨fun pins s σ H Q I ⟨f, h', st, r, rs, p⟩ => p.elim⟩
      | succ n =>
        obtain ⟨fd, ps, lvl, a1, a2, a3, a4, a5⟩ := G.fns _ _ _ e1
        obtain ⟨g1, g2⟩ := isGlD_is G h1.1.1.1.1
        have hp := pes_of (X := X.nox) (rec := evE call n) (fun e ce q => K.E Γ X.nox G e ce q n) h1.1.1.1.2 h2
        have hl : ar = es.length := h1.1.1.2.symm
        cases hp with
        | nil => have z := h1.1.2; cases z
        | @cons e0 ce0 es0 ces0 hs he ht =>
          refine pe_w (pe_qcallS (X := X) (CX := L2.CX X.prog X.w) (Es := WE W) a5 a4 G.gd g1 a1 a2 a3 (fun σ => passAt tk σ) (pa_nox (pa_of (.cons hs he ht))) g2 (star_of hs _ X.env) (plain_args ht _ X.env)) fun σ H Q ⟨f, h', st, r, rs, p⟩ => ?_
          have pp : Post c f h'.n H (eCall call (evE call n) (xbig + k) (ce0 :: ces0) st h') _ := p
          unfold eCall at pp
          split at pp
          · exact pp.elim
          · rename_i vs hh e2
            refine tA_of e2 r rs fun f1 H1 ws x1 r1 rs1 rv1 => .inr ⟨?_, f1, hh, vs, r1, rv1, pp.mono x1⟩
            rw [← rv1.length, hl]
            have len : ∀ {es : List Expr} {ces : List CE} {vs : List PV} {h h1 : PH}, PEs X.nox c (evE call n) es ces → evL (evE call n) ces st h = .ok vs h1 → vs.length = es.length := by
              intro es
              induction es with
              | nil =>
                intro ces vs h h1 q e
                cases q
                cases e
                rfl
              | cons e es ih =>
                intro ces vs h h1 q e
                cases q with
                | cons _ _ t =>
                  unfold evL at e
                  split at e
                  · cases e
                  · split at e
                    · cases e
                    · rename_i e2
                      cases e
                      rw [List.length_cons, List.length_cons, ih t e2]
            exact len (.cons hs he ht) e2
    · cases h
  · cases h
theorem xs_stmt (K : COk c call C) {W : WX} (G : Good c call Γ X.nox) (tk : Takes X W) {s : Stmt} {k : Nat} {ces : List CE} (h : xStmt C Γ s = some (k, ces)) (n : Nat) : PS X s (tXs c W (evE call n (.call (xbig + k) ces))) := by
  unfold xStmt at h
  split at h
  · obtain ⟨h0, h⟩ := gd_is h
    exact ps_w (ps_expr (xe_call K G tk h n) (comp_of h0 _ _ _)) fun D σ H q => q
  · exact ps_w (ps_ret (xe_call K G tk h n)) fun D σ H q => q
  · rename_i y py e pos
    obtain ⟨h0, h⟩ := gd_is h
    obtain ⟨i, h1, h⟩ := bd_is h
    obtain ⟨q1, q2, q3⟩ := cLoc_is G h1
    refine ps_w (ps_asg (xe_call K G tk h n) (pg_name G.nd q1 q2 q3) (comp_of h0 (some (.Name y py)) pos.line X.env) ?_ rfl) fun D σ H q => q
    cases e <;> first | rfl | (cases h0; done)
  · cases h
def vOf : PV → V
  | .bl b => .bl b
  | .str s => .str s
  | _ => .non
theorem hval_rv {c : Rc} {f : Nat → Addr} {N : Nat} {H : Hp} {n : Str} {i : Nat} : ∀ (m : Nat) (e : Expr) (v : PV), hval m Γ n i e = some v → RV c f N H v (vOf v)
  | 0, _, _, h => by cases h
  | m + 1, e, v, h => by
    unfold hval at h
    split at h
    · cases h; exact .bl _
    · cases h; exact .str _
    · obtain ⟨_, h⟩ := gd_is h
      obtain ⟨_, _, h⟩ := bd_is h
      cases h; exact .bl _
    · obtain ⟨_, h⟩ := gd_is h
      split at h
      · exact hval_rv m _ v h
      · exact hval_rv m _ v h
      · cases h
    · cases h
def tH (j : Nat) (a : Addr) (w : V) : TE := fun σ H Q => σ[j]? = some (some (.ref a)) ∧ Q w H
theorem hval_ok (G : Good c call Γ X) {a : Addr} {oe : Obj} {pn : List (Addr × Obj)} {n : Str} {i j : Nat} {xi : Str} (hi : (xi, i) ∈ Γ.excs) (hz : Zc (.ref (c.C i)) none oe) (hf : ∃ vs, oe.data = .fields vs) (hN : X.N[j]? = some n) (hv : Vis X.env.scope n)
    (hd : (n == ("__debug__" : Str)) = false) (hcd : (n == ("__classdict__" : Str)) = false) : ∀ (m : Nat) (e : Expr) (v : PV), hval m Γ n i e = some v → PE (X.suite a ((a, oe) :: pn)) e (tH j a (vOf v))
  | 0, _, _, h => by cases h
  | m + 1, e, v, h => by
    have D := (G.exs.one xi i hi)
    unfold hval at h
    split at h
    · cases h; exact pe_w pe_bl fun σ H Q q => q.2
    · cases h; exact pe_w pe_str fun σ H Q q => q.2
    · rename_i fx p1 y p2 dx p3 p4
      obtain ⟨h1, h⟩ := gd_is h
      simp only [Bool.and_eq_true, decide_eq_true_eq] at h1
      obtain ⟨jj, h2, h⟩ := bd_is h
      cases h
      obtain ⟨⟨⟨e1, e2⟩, e3⟩, e4⟩ := h1
      subst e1
      subst e3
      obtain ⟨g1, g2⟩ := bltin_is G e2
      obtain ⟨g3, g4⟩ := isGlD_is G e4
      have h2 := PySem.mem_of_lookup h2
      have kt := G.exs.kit _ _ _ _ hi h2
      have D2 := G.exs.one _ _ h2
      have hA : PA (X.suite a ((a, oe) :: pn)) [.Name y p2, .Name dx p3] _ := pa_cons (pe_var (i := j) hN hv hd hcd) (pa_cons (pe_glob (v := .ref (c.C jj)) g3 D2.mg rfl g4) pa_nil rfl) rfl
      refine pe_w (pe_callB (call_isE D.is hz hf) g1 g2 boot_isinstance hA (by decide) (by decide) rfl rfl) fun σ H Q q => ?_
      exact ⟨_, q.1, .ref (c.C jj), .ref (c.C jj), _, rfl, fun u r => r, kt, q.2⟩
    · rename_i t ea eb p
      obtain ⟨h1, h⟩ := gd_is h
      have ht : ∀ k : Bool, hval m Γ n i t = some (.bl k) → PT (X.suite a ((a, oe) :: pn)) t (fun σ H Q => σ[j]? = some (some (.ref a)) ∧ Q k H) := fun k hk =>
        pt_w (pt_truth (hval_ok G hi hz hf hN hv hd hcd m t _ hk) (fun whole => plain_of h1 _ whole)) fun σ H Q q => ⟨q.1, k, (by cases k <;> rfl), q.2⟩
      split at h
      · rename_i hk
        have ha := hval_ok (a := a) (pn := pn) G hi hz hf hN hv hd hcd m ea v h
        refine pe_w (pe_ifExp (ht true hk) ha (⟨fun _ _ _ _ _ _ z => z.elim⟩ : PE (X.suite a ((a, oe) :: pn)) eb fun _ _ _ => False)) fun σ H Q q => ⟨q.1, ?_⟩
        show (if true = true then tH j a (vOf v) σ H Q else False)
        rw [if_pos rfl]
        exact q
      · rename_i hk
        have hb := hval_ok (a := a) (pn := pn) G hi hz hf hN hv hd hcd m eb v h
        refine pe_w (pe_ifExp (ht false hk) (⟨fun _ _ _ _ _ _ z => z.elim⟩ : PE (X.suite a ((a, oe) :: pn)) ea fun _ _ _ => False) hb) fun σ H Q q => ⟨q.1, ?_⟩
        show (if false = true then False else tH j a (vOf v) σ H Q)
        rw [if_neg Bool.false_ne_true]
        exact q
      · cases h
    · cases h
def hTgt (Γ : CEnv) (hd : Stmt) : Option (Option Nat × Expr) := match hd with
  | .Return (some e) _ => some (none, e)
  | .Assign [.Name y _] e _ => gd (noComp e) (bd (cLoc Γ y) fun i => some (some i, e))
  | _ => none
theorem hAll_at {n : Str} {e : Expr} {k : Int} {v : PV} : ∀ {xs : List (Str × Nat)} {hs : List (Nat × PV)}, hAll Γ n e xs = some hs → hvAt k hs = some v → ∃ x i, k = (i : Nat) ∧ (x, i) ∈ xs ∧ hval 9 Γ n i e = some v
  | [], hs, h, q => by cases h; cases q
  | p :: r, hs, h, q => by
    obtain ⟨w, h1, h⟩ := bd_is h
    obtain ⟨t, h2, h⟩ := bd_is h
    cases h
    unfold hvAt at q
    split at q
    · rename_i e1
      cases q
      exact ⟨p.1, p.2, of_decide_eq_true e1, List.mem_cons_self .., h1⟩
    · obtain ⟨x, i, h3, h4, h5⟩ := hAll_at h2 q
      exact ⟨x, i, h3, List.mem_cons_of_mem _ h4, h5⟩
def cTry (C : Cmp) (Γ : CEnv) (kb : CS) (x n : Str) (b hd : Stmt) : Option CS :=
  gd (decide (x = Γ.exb) && isGlD Γ x && decide (Γ.names.lookup n = some .local) && okName n) (bd (ixOf n Γ.N 0) fun j => bd (xStmt C Γ b) fun p => bd (hTgt Γ hd) fun q => gd (decide (q.1 ≠ some j)) (bd (hAll Γ n q.2 Γ.excs) fun hs => some (.tryx kb (.call (xbig + p.1) p.2) j q.1 hs)))
def tsH (c : Rc) (Γ : CEnv) (n : Str) (j : Nat) (e : Expr) (tgt : Option Nat) (a : Addr) (cls : Value) (d : Option Addr) : TS := fun D σ H =>
  ∃ (x : Str) (i : Nat) (v : PV), d = none ∧ cls = .ref (c.C i) ∧ (x, i) ∈ Γ.excs ∧ hval 9 Γ n i e = some v ∧ σ[j]? = some (some (.ref a)) ∧ (match tgt with | none => D.rt (vOf v) H | some t => D.nx (σ.set t (some (vOf v))) H)
theorem ts_ok (G : Good c call Γ X) {a : Addr} {oe : Obj} {cls : Value} {d : Option Addr} {pn : List (Addr × Obj)} {n : Str} {j : Nat} {hd : Stmt} {tgt : Option Nat} {e : Expr} (hz : Zc cls d oe) (hf : ∃ vs, oe.data = .fields vs) (hN : X.N[j]? = some n) (hv : Vis X.env.scope n)
    (hdn : (n == ("__debug__" : Str)) = false) (hcd : (n == ("__classdict__" : Str)) = false) (ht : hTgt Γ hd = some (tgt, e)) : PSs (X.suite a ((a, oe) :: pn)) [hd] (tsH c Γ n j e tgt a cls d) := by
  refine ⟨fun pins s σ H D I ⟨x, i, v, e1, e2, hi, hw, hs, q⟩ => ?_⟩
  subst e1
  subst e2
  have he := hval_ok (a := a) (pn := pn) G hi hz hf hN hv hdn hcd 9 e v hw
  unfold hTgt at ht
  split at ht
  · cases ht
    exact (pss_one (ps_ret he)).run pins s σ H D I ⟨hs, q⟩
  · rename_i y py e' pos
    obtain ⟨h0, ht⟩ := gd_is ht
    obtain ⟨t, h1, ht⟩ := bd_is ht
    have ht := Option.some.inj ht
    have e1 : tgt = some t := (congrArg Prod.fst ht).symm
    have e2 : e' = e := congrArg Prod.snd ht
    subst e1
    subst e2
    obtain ⟨q1, q2, q3⟩ := cLoc_is G h1
    have hp : PS (X.suite a ((a, oe) :: pn)) (.Assign [.Name y py] e' pos) (tAsg (tH j a (vOf v)) (gName t)) :=
      ps_asg he (pg_name G.nd q1 q2 q3) (comp_of h0 (some (.Name y py)) pos.line _) (by cases e' <;> first | rfl | (cases h0; done)) rfl
    exact (pss_one hp).run pins s σ H D I ⟨hs, q⟩
  · cases ht
theorem rst_wipe1 {f : Nat → Addr} {N : Nat} {H : Hp} {st : PSt} {σ : L2.St} (r : RSt c f N H st σ) (j : Nat) : RSt c f N H (st.set j none) (σ.set j none) := r.wipe [j]
theorem try_thru {kb : CS} {b : Stmt} {hd : ExceptHandler} {pos : Pos} (n : Nat) (hb : ∀ pn, PS (X.tr pn fun _ _ => False) b (tS c (evS call n kb))) : PS X (.Try [b] [hd] [] [] pos) (tS c (evS call (n + 1) (.ite (.val (.val (.bl true))) [kb] []))) := by
  refine ps_w (ps_try_thru0 (pss_one (hb X.pn))) fun D σ H ⟨f, h', st, r, rs, p⟩ => ⟨f, h', st, r, rs, ?_⟩
  cases n with
  | zero => exact p.elim
  | succ n =>
    have p : Post c f h'.n H (evSs (evS call (n + 1)) [kb] st h') (FQ c D) := p
    unfold evSs at p
    split at p
    · rename_i st1 h1 e
      rw [e]
      exact p
    · exact p
theorem try_ok (K : COk c call C) (G : Good c call Γ X) (hst : X.stack = X.env :: X.outer) (hfm : X.env.frame = some X.env.locals) (hnm : X.env.scope.names = Γ.names) {kb : CS} {x n : Str} {b hd : Stmt} {k : CS} {np p1 p2 : Pos} (h : cTry C Γ kb x n b hd = some k) (m : Nat)
    (hb : ∀ pn, PS (X.tr pn fun _ _ => False) b (tS c (evS call m kb))) : PS X (.Try [b] [.ExceptHandler (some (.Name x np)) (some n) [hd] p1] [] [] p2) (tS c (evS call (m + 1) k)) := by
  unfold cTry at h
  obtain ⟨h1, h⟩ := gd_is h
  simp only [Bool.and_eq_true, decide_eq_true_eq] at h1
  obtain ⟨⟨⟨ex, hx⟩, hn⟩, hok⟩ := h1
  obtain ⟨j, h2, h⟩ := bd_is h
  obtain ⟨p, h3, h⟩ := bd_is h
  obtain ⟨q, h4, h⟩ := bd_is h
  obtain ⟨h5, h⟩ := gd_is h
  obtain ⟨hs, h6, h⟩ := bd_is h
  cases h
  obtain ⟨k', ces⟩ := p
  obtain ⟨tgt, e⟩ := q
  have h5 : tgt ≠ some j := of_decide_eq_true h5
  subst ex
  obtain ⟨g1, g2⟩ := isGlD_is G hx
  obtain ⟨o1, o2⟩ := okName_is hok
  have hj : X.N[j]? = some n := by
    have q := (ixOf_is h2).2
    rw [Nat.sub_zero, ← G.N] at q
    exact q
  by_cases hne : Γ.excs = []
  · -- nothing is caught: the body alone
    refine ps_w (ps_try_thru0 (pss_one (hb X.pn))) fun D σ H ⟨f, h', st, r, rs, pp⟩ => ⟨f, h', st, r, rs, ?_⟩
    have p : Post c f h'.n H (xTry m (evE call m) (evS call m) kb (.call (xbig + k') ces) j tgt hs st h') (FQ c D) := pp
    unfold xTry at p
    split at p
    · split at p
      · rename_i v e1
        rw [hne] at h6
        cases h6
        cases e1
      · exact p.elim
    · exact p
    · exact p.elim
  obtain ⟨CB, b1, b2⟩ := G.exs.base hne
  have hX : ∀ (pn : List (Addr × Obj)) (xe : Value → Shared → Prop), Good c call Γ (X.tr pn xe).nox := fun pn xe =>
    { K := G.K, W := G.W, calm := G.calm, nd := G.nd, N := G.N, xe := rfl, vis := G.vis, loc := G.loc, fr := G.fr, gl := G.gl, fns := G.fns, fnv := G.fnv, consts := G.consts, nob := G.nob, units := G.units, exs := G.exs, cl := G.cl, cls := G.cls, mts := G.mts, gd := G.gd, ks := G.ks, cls0 := G.cls0, lams := fun h => (let L := G.lams h; ⟨L.ng, L.code, L.tab, L.qual, L.lvl, L.told⟩) }
  have base := ps_try_as (X := X) (x := Γ.exb) (n := n) (c := .ref CB) (i := j) (body := [b]) (b₀ := hd) (suite := []) (np := np) (pos' := p1) (pos := p2) (Wout := fun _ _ _ _ => False)
    (tb := fun W D σ H => tSeq (fun D σ H => tS c (evS call m kb) D σ H ∨ tXs c W (evE call m (.call (xbig + k') ces)) D σ H) tNext D σ H) (ts := tsH c Γ n j e tgt) hst hfm G.nd hj (by show X.env.kindOf n = _; exact (show X.env.scope.names.lookup n = some .local by rw [hnm]; exact hn)) ⟨g1, g2, .inl b1⟩ takes0
    (fun W pn xe tk _ => pss_cons (ps_alt (ps_nox (hb pn)) (xs_stmt K (hX pn xe) tk h3 m)) pss_nil)
    (fun a oe cls d pn hz hf => ts_ok G hz hf hj (.inl (by rw [hnm]; exact hn)) o1 o2 h4)
  refine ⟨fun pins s σ H D I qq => base.run pins s σ H D I ?_⟩
  obtain ⟨f, h', st, r, rs, pp⟩ := qq
  have p : Post c f h'.n H (xTry m (evE call m) (evS call m) kb (.call (xbig + k') ces) j tgt hs st h') (FQ c D) := pp
  have hlen : j < σ.length := by
    rw [I.len]
    exact (List.getElem?_eq_some_iff.mp hj).1
  unfold xTry at p
  split at p
  · rename_i kk h1 e1
    refine .inr ⟨f, h', st, r, rs, ?_⟩
    rw [e1]
    split at p
    · rename_i v e2
      obtain ⟨xi, i, ei, hi, hv⟩ := hAll_at h6 e2
      subst ei
      intro f1 H1 x1 r1
      refine ⟨i, rfl, true, b2 _ _ hi, fun _ a na => ⟨xi, i, v, rfl, rfl, hi, hv, List.getElem?_set_self hlen, ?_⟩, fun z => nomatch z⟩
      cases tgt with
      | none => exact p _ _ x1 r1 _ (hval_rv 9 e v hv)
      | some t =>
        have htj : t ≠ j := fun z => h5 (by rw [z])
        have q := p _ _ x1 r1
        refine q _ ?_
        have e3 : ((σ.set j (some (V.ref a))).set t (some (vOf v))).set j none = (σ.set j none).set t (some (vOf v)) := by
          rw [List.set_comm _ _ htj, List.set_set]
        rw [e3]
        exact (rst_wipe1 (rs.mono x1) j).set t (hval_rv 9 e v hv)
    · exact p.elim
  · refine .inl ⟨f, h', st, r, rs, ?_⟩
    cases z : evS call m kb st h' with
    | stuck => rw [z] at p; exact p.elim
    | ok r1 h1 =>
      rw [z] at p
      cases r1 with
      | nx st1 => exact p
      | rt v => exact p
      | bk st1 => exact p
      | ct st1 => exact p
  · exact p.elim
end
end Pyx

namespace Pyx
open PySem PySem.Spec PyProof.Rows L2
def fuD (q : Str) (ps : Arguments) (body : Expr) (sc : Scope) (cl : List (Str × Addr)) (mn cv ct dv : Value) : FuncData := { PySem.W.kla_fn "<lambda>" q ps body sc cl mn cv ct with defaults := dv }
section
variable {X : Cx} {pins : List (Addr × Obj)} {σ : L2.St} {H : Hp} {s : Shared}
theorem codeD {T : List (Addr × Str)} {c P : Addr} {q : Str} {ps : Arguments} {body : Expr} {sc : Scope} {pos : Pos} {M : Model} {A : Around} {E Q : Value → Shared → Prop} (I : L2.Inv X pins σ H s) (B : LamX.TabB X.base X.mg c P) (ec : X.env.code = .ref c)
    (inT : (P, q) ∈ T) (one : ∀ p ∈ T, p.1 = P → p.2 = q) (tT : LamX.Tabs T H)
    (k : ∀ (c' : Addr) (H1 : Hp) (s1 : Shared), L2.Inv X pins σ H1 s1 → LamX.ExtN H H1 → LamX.Tabs T H1 → (∀ b o, b ≠ P → s.heap.get? b = some o → s1.heap.get? b = some o) → H1 c' = some (LamX.CodeO c' q) → (∀ b, H b = none → b < s.heap.objs.size → H1 b = none) → s.heap.objs.size ≤ s1.heap.objs.size → Q (.ref c') s1) :
    wpAny M A (functionCode X.env pos pos.line "<lambda>" q ps sc (.expr body)) Q E s := by
  obtain ⟨tab, hP, tri, old⟩ := tT _ inT
  have oP := I.hok P _ hP
  have hd : s.heap.get? P = some { cls := .none, data := .fields tab } := oP
  have CH := B.code.keeps I.bk
  cases found : codeAmong pos tab.toList with
  | some cv =>
    obtain ⟨c', rfl, known⟩ := old pos cv found
    exact wpAny_functionCode_hit ec (CH.code hd tri) found (k c' H s I (LamX.ExtN.refl H) tT (fun _ _ _ e => e) known (fun _ e _ => e) (Nat.le_refl _))
  | none =>
    refine wpAny_functionCodeX ec (CH.code hd tri) (CH.tab hd) found fun c' h' tk ext ge lt _ rec tb _ => ?_
    obtain ⟨_, oc, vs, t, ee, go, gd, gv⟩ := rec
    cases ee
    have fr : H c' = none := I.hok.fresh ge
    have atP : h'.get? P = some { cls := .none, data := .fields (tab ++ #[rawInt pos.line, rawInt pos.col, .ref c']) } := tb.2
    have J := LamX.inv_table (t' := tk) (more := #[rawInt pos.line, rawInt pos.col, .ref c']) I hP ext atP ge ⟨oc, vs, t, go, gd, gv⟩
    have keep : LamX.ExtN H (upd (upd H P (.tbl (tab ++ #[rawInt pos.line, rawInt pos.col, .ref c']))) c' (LamX.CodeO c' q)) := fun b o eb nt => by
      have b1 : b ≠ c' := fun z => by rw [z, fr] at eb; cases eb
      have b2 : b ≠ P := fun z => by rw [z, hP] at eb; exact nt tab (Option.some.inj eb).symm
      rw [upd_ne b1, upd_ne b2]
      exact eb
    have here : upd (upd H P (.tbl (tab ++ #[rawInt pos.line, rawInt pos.col, .ref c']))) c' (LamX.CodeO c' q) c' = some (LamX.CodeO c' q) := upd_same
    refine k c' _ _ J keep (fun p hp => ?_) ext here (fun b e lb => ?_) (Nat.le_trans ge (Nat.le_of_lt lt))
    · by_cases same : p.1 = P
      · have sn : (tab ++ #[rawInt pos.line, rawInt pos.col, Value.ref c']).toList = tab.toList ++ [rawInt pos.line, rawInt pos.col, .ref c'] := by simp
        rw [one p hp same, same]
        refine ⟨_, (upd_ne fun z => by rw [z, fr] at hP; cases hP).trans upd_same, ?_, fun p' cv hc => ?_⟩
        · rw [sn]
          exact PySem.TriplesOk_snoc _ _ _ _ tri
        · rw [sn] at hc
          rcases LamX.among_app _ tri hc with z | z
          · obtain ⟨c0, z1, z2⟩ := old p' cv z
            exact ⟨c0, z1, keep _ _ z2 LamX.codeO_ne⟩
          · exact ⟨c', z, here⟩
      · obtain ⟨t2, y1, y2, y3⟩ := tT p hp
        refine ⟨t2, ?_, y2, fun p' cv hc => ?_⟩
        · rw [upd_ne (fun z => by rw [z, fr] at y1; cases y1), upd_ne same]
          exact y1
        · obtain ⟨c0, z1, z2⟩ := y3 p' cv hc
          exact ⟨c0, z1, keep _ _ z2 LamX.codeO_ne⟩
    · rw [upd_ne (show b ≠ c' from fun z => Nat.lt_irrefl _ (Nat.lt_of_lt_of_le (z ▸ lb) ge)), upd_ne (show b ≠ P from fun z => by rw [z, hP] at e; cases e)]
      exact e
theorem tailD {T : List (Addr × Str)} {c P td : Addr} {q : Str} {ps : Arguments} {body : Expr} {sc : Scope} {pos : Pos} {A : Around} {E Q : Value → Shared → Prop} {ot : Obj} (I : L2.Inv X pins σ H s) (B : LamX.TabB X.base X.mg c P) (ec : X.env.code = .ref c)
    (inT : (P, q) ∈ T) (one : ∀ p ∈ T, p.1 = P → p.2 = q) (tT : LamX.Tabs T H) (fre : ∀ y ∈ sc.names, y.2 = .free → ∃ c, X.env.cells.lookup y.1 = some c) (gt : s.heap.get? td = some ot) (nt : H td = none) (ntP : td ≠ P)
    (k : ∀ (f c' : Addr) (mn ct : Value) (H1 : Hp) (s1 : Shared), L2.Inv X pins σ H1 s1 → LamX.ExtN H H1 → LamX.Tabs T H1 → s1.heap.get? f = some { cls := .type "function", data := .func (fuD q ps body sc (cloFrom X.env.cells sc.names []) mn (.ref c') ct (.ref td)) } → H1 f = none → s.heap.objs.size ≤ f →
      s1.heap.get? td = some ot → H1 td = none → H1 c' = some (LamX.CodeO c' q) → Q (.ref f) s1) :
    wpAny (model X.prog X.w) A (makeTail "<lambda>" q ps (.expr body) sc X.env (.ref td) .none none pos pos.line) Q E s := by
  unfold makeTail
  rw [closure_ok fre, I.ok.glob]
  refine wpAny_bind (wpAny_pure ?_)
  -- behind the tuple of cells
  have rest : ∀ (ct : Value) (s0 : Shared), L2.Inv X pins σ H s0 → s0.heap.get? td = some ot → s.heap.objs.size ≤ s0.heap.objs.size →
      wpAny (model X.prog X.w) A (functionCode X.env pos pos.line "<lambda>" q ps sc (.expr body)) (fun cv s1 => ∃ (c' : Addr) (H1 : Hp), cv = .ref c' ∧ L2.Inv X pins σ H1 s1 ∧ LamX.ExtN H H1 ∧ LamX.Tabs T H1 ∧ s1.heap.get? td = some ot ∧ H1 td = none ∧ H1 c' = some (LamX.CodeO c' q) ∧ s.heap.objs.size ≤ s1.heap.objs.size) E s0 := fun ct s0 J g0 le =>
    codeD J B ec inT one tT fun c' H1 s1 J1 x1 t1 kp kn nn sz => ⟨c', H1, rfl, J1, x1, t1, kp td ot ntP g0, nn td nt (Heap.lt_size g0), kn, Nat.le_trans le sz⟩
  have last : ∀ (ct : Value) (s0 : Shared), L2.Inv X pins σ H s0 → s0.heap.get? td = some ot → s.heap.objs.size ≤ s0.heap.objs.size →
      wpAny (model X.prog X.w) A (do
        let code ← functionCode X.env pos pos.line "<lambda>" q ps sc (.expr body)
        let builtins ← builtinsFor mainGlobals X.env.builtins
        let mn ← nsGet mainGlobals "__name__"
        let doc ← (pure .none : Sem Value)
        newObj (.type "function") (.func { name := "<lambda>", qualname := q, params := ps, body := .expr body, scope := sc, globals := mainGlobals, closure := cloFrom X.env.cells sc.names [], closureTuple := ct, code, builtins, defaults := .ref td, kwdefaults := .none, annotations := none, pyModule := mn.getD .none, doc })) Q E s0 := fun ct s0 J g0 le => by
    refine wpAny_bind (wpAny_mono (rest ct s0 J g0 le) (fun cv s1 hq => ?_) fun _ _ z => z)
    obtain ⟨c', H1, rfl, J1, x1, t1, gt1, nt1, kn, sz⟩ := hq
    obtain ⟨bm, ob, e1, e2, _, _, e5, e6, e7, e8⟩ := B.bm.keeps J1.bk
    have gl := J1.mod.glob.keeps J1.bk
    refine wpAny_bind (wpAny_builtinsFor gl e1 e2 e5 e6 e7 e8 (wpAny_bind (wpAny_nsGet gl (wpAny_bind (wpAny_pure (wpAny_newObj_type ?_ (by size_fits)))))))
    have J2 : L2.Inv X pins σ H1 { s1 with heap := s1.heap.push { cls := .type "function", data := .func (fuD q ps body sc (cloFrom X.env.cells sc.names []) ((X.mg "__name__").getD .none) (.ref c') ct (.ref td)) } } := J1.kept (t' := s1.toks) fun b o e => Heap.get?_push_of_some _ e
    exact k s1.heap.objs.size c' _ ct H1 _ J2 x1 t1 (Heap.get?_push_size _ rfl) (J1.hok.fresh (Nat.le_refl _)) sz (Heap.get?_push_of_some _ gt1) nt1 kn
  cases cells : cloFrom X.env.cells sc.names [] with
  | nil =>
    rw [cells] at last
    exact wpAny_bind (wpAny_pure (last .none s I gt (Nat.le_refl _)))
  | cons a r =>
    rw [cells] at last
    refine wpAny_bind (wpAny_newTextTuple ?_)
    refine last _ _ (I.kept (t' := s.toks) fun b o e => Heap.get?_push_of_some _ e) (Heap.get?_push_of_some _ gt) ?_
    show _ ≤ (s.heap.push _).objs.size
    rw [Heap.size_push]
    omega
abbrev parD (ar : Arg) (i : Int) (kd : Nat) (kp : Pos) : Arguments := ⟨[], [ar], none, [], [], none, [.Constant (.int i) kd kp]⟩
theorem evalD {T : List (Addr × Str)} {c P : Addr} {ar : Arg} {i : Int} {kd : Nat} {kp : Pos} {body : Expr} {sc : Scope} {pos : Pos} {Q : Value → Shared → Prop} (I : L2.Inv X pins σ H s) (B : LamX.TabB X.base X.mg c P) (ec : X.env.code = .ref c)
    (inT : (P, X.env.qual ++ "<lambda>") ∈ T) (one : ∀ p ∈ T, p.1 = P → p.2 = X.env.qual ++ "<lambda>") (tT : LamX.Tabs T H) (fre : ∀ y ∈ sc.names, y.2 = .free → ∃ c, X.env.cells.lookup y.1 = some c)
    (k : ∀ (f c' td : Addr) (mn ct v : Value) (H1 : Hp) (s1 : Shared), L2.Inv X pins σ H1 s1 → LamX.ExtN H H1 → LamX.Tabs T H1 → s1.heap.get? f = some { cls := .type "function", data := .func (fuD (X.env.qual ++ "<lambda>") (parD ar i kd kp) body sc (cloFrom X.env.cells sc.names []) mn (.ref c') ct (.ref td)) } → H1 f = none → s.heap.objs.size ≤ f →
      s1.heap.get? td = some { cls := .type "tuple", data := .seq #[v] } → H1 td = none → s.heap.objs.size ≤ td → H1 c' = some (LamX.CodeO c' (X.env.qual ++ "<lambda>")) → RelV (.int i) v → Q (.ref f) s1) :
    wpAny (model X.prog X.w) X.A (eval (.Lambda (parD ar i kd kp) body sc pos) X.env) Q X.xe s := by
  rw [arm_eval_Lambda]
  show wpAny _ _ (do
    let dv ← (do let v ← eval (.Constant (.int i) kd kp) X.env; let r ← holding [v] (pure []); pure (v :: r))
    let kdv ← holding dv (pure [])
    makeFunction "<lambda>" (X.env.qual ++ "<lambda>") (parD ar i kd kp) (.expr body) sc X.env dv kdv [] pos pos.line) _ _ _
  refine wpAny_bind (wpAny_bind (wpAny_Constant_int ?_))
  have J : L2.Inv X pins σ H { s with toks := s.toks + 1 } := I.tok _
  have r : RelV (.int i) (.int i s.toks) := ⟨_, rfl⟩
  have le0 : s.heap.objs.size ≤ ({ s with toks := s.toks + 1 } : Shared).heap.objs.size := Nat.le_refl _
  generalize Value.int i s.toks = v at r ⊢
  generalize ({ s with toks := s.toks + 1 } : Shared) = s1 at J le0 ⊢
  refine wpAny_bind (wpAny_holding (wpAny_pure (wpAny_pure ?_)))
  refine wpAny_bind (wpAny_holding (wpAny_pure ?_))
  rw [makeFunction_eq]
  simp only [List.zip_nil_right, List.filterMap_nil, List.isEmpty_nil, List.isEmpty_cons, Bool.false_eq_true, if_false, if_true, pure_bind]
  refine wpAny_bind (wpAny_newTextTuple ?_)
  have J2 : L2.Inv X pins σ H { s1 with heap := s1.heap.push { cls := .type "tuple", data := .seq #[v] } } := J.kept (t' := s1.toks) fun b o e => Heap.get?_push_of_some _ e
  obtain ⟨tab, hP, _⟩ := tT _ inT
  have nP : s1.heap.objs.size ≠ P := fun z => by
    have := J.hok.fresh (Nat.le_refl s1.heap.objs.size)
    rw [z, hP] at this
    cases this
  refine tailD (td := s1.heap.objs.size) J2 B ec inT one tT fre (Heap.get?_push_size _ rfl) (J.hok.fresh (Nat.le_refl _)) nP fun f c' mn ct H2 s2 J3 x3 t3 gf nf sz gt nt kn => ?_
  have sp : s1.heap.objs.size + 1 ≤ f := by
    have e : (s1.heap.push { cls := .type "tuple", data := .seq #[v] }).objs.size = s1.heap.objs.size + 1 := Heap.size_push _ _
    rw [← e]
    exact sz
  exact k f c' _ mn ct v H2 s2 J3 x3 t3 gf nf (Nat.le_trans le0 (Nat.le_of_succ_le sp)) gt nt le0 kn r
theorem bindD {q : Str} {ar : Arg} {i : Int} {kd : Nat} {kp : Pos} {body : Expr} {sc : Scope} {cl : List (Str × Addr)} {mn cv ct v : Value} {td : Addr} {s : Shared} (gt : s.heap.get? td = some { cls := .type "tuple", data := .seq #[v] }) : BindsTo s (fuD q (parD ar i kd kp) body sc cl mn cv ct (.ref td)) ⟨[], []⟩ [(ar.arg, v)] := fun M A E Q k => by
  have e : ∃ g, bindArgs (fuD q (parD ar i kd kp) body sc cl mn cv ct (.ref td)) ⟨[], []⟩ = seqItems? (.ref td) >>= g ∧ g (some #[v]) = pure [(ar.arg, v)] := by
    refine ⟨_, rfl, ?_⟩
    simp [fuD]
  obtain ⟨g, e1, e2⟩ := e
  rw [e1]
  refine wpAny_bind (wpAny_seqItems gt rfl ?_)
  rw [e2]
  exact wpAny_pure k
structure LamP (sc scope : Scope) (a : Str) : Prop where
  kind : scope.kind = .function
  co : scope.isCoroutine = false
  gen : scope.isGenerator = false
  par : scope.names.lookup a = some .local
  own : ∀ y ∈ scope.names, (y.2 = .local → y.1 = a) ∧ y.2 ≠ .cell
  free : ∀ y ∈ scope.names, y.2 = .free → sc.names.lookup y.1 = some .cell ∨ sc.names.lookup y.1 = some .free
theorem LamP.fre {scope : Scope} {a : Str} (L : LamP X.env.scope scope a) (ok : X.Ok) : ∀ y ∈ scope.names, y.2 = .free → ∃ c, X.env.cells.lookup y.1 = some c := fun y hy e =>
  (L.free y hy e).elim (fun z => ok.has _ (.inl z)) fun z => ok.has _ (.inr z)
theorem startD {A : Around} {outer : List Env} {E : XK} {scope : Scope} {f c' : Addr} {g : Heap} {tk : Nat} {a : Str} {HZ : Hp} {s1 : Shared} {m : Str → Option Value} (I : L2.Inv X pins σ H s) (L : LamP X.env.scope scope a) (nN : ∀ i : Nat, X.N[i]? ≠ some a)
    (z0 : Env0 X.prog X.w X.K X.mg X.base A outer s1 HZ) (calm : A.handled = none) (un : Un (frs X.stack) [] H HZ s.heap s1.heap) (ns : g.Ns s1.heap.objs.size m) (kp : ∀ b o, s1.heap.get? b = some o → g.get? b = some o) :
    L2.Inv (LamX.lamCx X A outer s1 HZ E scope f c') [] σ HZ { s1 with heap := g, toks := tk } := by
  have fre := L.fre I.ok
  have caught : ∀ {y : Str} {c : Addr}, (cloFrom X.env.cells scope.names []).lookup y = some c → X.env.cells.lookup y = some c := fun {y c} e => by
    rcases cloFrom_mem (PySem.mem_of_lookup e) with z | ⟨z1, z2⟩
    · cases z
    · obtain ⟨c1, e1⟩ := fre _ z1 rfl
      have e1 : X.env.cells.lookup y = some c1 := e1
      rw [e1] at z2
      have z2 : c = c1 := z2
      rw [e1, z2]
  have there : ∀ {y : Str}, scope.names.lookup y = some .free → ∃ c, (cloFrom X.env.cells scope.names []).lookup y = some c := fun {y} e =>
    L2.mem_lookup (cloFrom_has (cells := X.env.cells) (acc := []) (show (y, NameKind.free) ∈ scope.names from PySem.mem_of_lookup e))
  have cellK : ∀ {c : Addr} {v : Option Value}, H c = none → s.heap.IsCell c v → g.IsCell c v := fun {c v} e ⟨o, h1, h2⟩ => by
    obtain ⟨sl, h3⟩ := un.any h1 e (by simp)
    exact ⟨_, kp _ _ h3, h2⟩
  have none' : ∀ b : Addr, b ∉ (LamX.lamCx X A outer s1 HZ E scope f c').ex := fun b z => absurd (show b ∈ ([] : List Addr) from z) (by simp)
  exact {
    ok := { mod := z0.mod, kind := L.kind, glob := rfl, blt := rfl, above := Nat.le_refl _, inj := fun y z c e1 e2 => I.ok.inj y z c (caught e1) (caught e2),
            has := fun y hy => by
              have hy : scope.names.lookup y = some .cell ∨ scope.names.lookup y = some .free := hy
              exact hy.elim (fun z => absurd rfl (L.own _ (PySem.mem_of_lookup z)).2) there,
            cab := fun y c z _ => Bool.noConfusion (show false = true from z),
            hd := fun _ => calm, frames := Around.frames_deeper z0.frames, stk := .inr ⟨rfl, rfl⟩, exf := fun b z => absurd z (none' b), bs := z0.bs, bsz := z0.bsz, noex := fun b _ _ => none' b, exfs := fun b z => absurd z (none' b), funs := z0.funs, frf := z0.frf },
    os := rfl, bare := z0.bare, base := Un.kept kp,
    loc := ⟨_, ns, fun i y v e1 e2 e3 => by
      have e3 : Vis scope y := e3
      rcases e3 with z | z | z
      · have : y = a := (L.own _ (PySem.mem_of_lookup z)).1 rfl
        rw [this] at e1
        exact absurd e1 (nN i)
      · exact absurd rfl (L.own _ (PySem.mem_of_lookup z)).2
      · obtain ⟨m0, _, look⟩ := I.loc
        have up := L.free _ (PySem.mem_of_lookup z) rfl
        obtain ⟨u, r, q⟩ := look i y v e1 e2 (up.elim (fun k => .inr (.inl k)) fun k => .inr (.inr k))
        obtain ⟨c2, l2⟩ := there z
        refine ⟨u, r, .inr ⟨.inr z, c2, l2, ?_⟩⟩
        have l1 := caught l2
        rcases q with ⟨q1, _⟩ | ⟨_, c3, q2, q3⟩
        · have q1 : X.env.scope.names.lookup y = some .local := q1
          rcases up with k | k <;> (rw [show X.env.scope.names.lookup y = _ from k] at q1; cases q1)
        · rw [l1] at q2
          cases q2
          exact cellK (I.freeC y _ l1) q3⟩,
    cell := fun y c e => by
      obtain ⟨v, o, h1, h2⟩ := I.cell y c (caught e)
      exact ⟨v, cellK (I.freeC y c (caught e)) ⟨o, h1, h2⟩⟩,
    free := z0.hok.fresh (Nat.le_refl _),
    freeC := fun y c e => by
      obtain ⟨v, o, h1, _⟩ := I.cell y c (caught e)
      exact un.free c o h1 (I.freeC y c (caught e)) (by simp),
    pin := fun q hq => absurd (show q ∈ ([] : List (Addr × Obj)) ++ [] from hq) (by simp),
    hok := z0.hok.kept kp, len := I.len }
theorem actD {CXg : CXT} {Eg : XK} {Ng : List Str} {qg : Str} {sg : Scope} {g f c' td : Addr} {cdg mn ct v : Value} {ar : Arg} {i0 : Int} {kd : Nat} {kp : Pos} {body : Expr} {scope : Scope} {k i : Nat} {a : Str} {pn : List (Addr × Obj)} {xe : Value → Shared → Prop} {W : WX} {E : XK} {tb : TE} {p1 p2 : Pos}
    (I : L2.Inv X pins σ H s) (L : LamP X.env.scope scope ar.arg) (nN : ∀ i : Nat, X.N[i]? ≠ some ar.arg)
    (of : s.heap.get? f = some { cls := .type "function", data := .func (fuD (X.env.qual ++ "<lambda>") (parD ar i0 kd kp) body scope (cloFrom X.env.cells scope.names []) mn (.ref c') ct (.ref td)) }) (nf : H f = none) (rf : f ∉ frs X.stack)
    (ot : s.heap.get? td = some { cls := .type "tuple", data := .seq #[v] }) (nt : H td = none) (rt : td ∉ frs X.stack)
    (tk : Takes ((cxOf CXg X.prog X.w X.K X.mg X.base Ng qg sg g cdg X.A X.stack s H Eg).tr pn xe) W) (hW : ∀ cls d σ' H', E cls d H' → W cls d σ' H') (rm : Room (k + 1) (X.A.deeper (envOfC qg sg s.heap.objs.size g cdg)))
    (bd : ∀ (A : Around) (outer : List Env) (s : Shared) (H : Hp), Room k (A.deeper (LamX.lamEnv X scope s.heap.objs.size f c')) → PE (LamX.lamCx X A outer s H E scope f c') body tb)
    (hN : Ng[i]? = some a) (va : Vis sg a) (d1 : (a == ("__debug__" : Str)) = false) (d2 : (a == ("__classdict__" : Str)) = false) :
    PE ((cxOf CXg X.prog X.w X.K X.mg X.base Ng qg sg g cdg X.A X.stack s H Eg).tr pn xe) (.Call (.Name a p1) [] [] p2) (fun σZ HZ Q => σZ[i]? = some (some (.ref f)) ∧ HZ c' = some (LamX.CodeO c' (X.env.qual ++ "<lambda>")) ∧ tb σ HZ Q) := by
  refine ⟨fun pz sz σz Hz Q J ⟨e1, e2, e3⟩ => ?_⟩
  have rd := (pe_var (X := (cxOf CXg X.prog X.w X.K X.mg X.base Ng qg sg g cdg X.A X.stack s H Eg).tr pn xe) (pos := p1) (i := i) hN va d1 d2).run pz sz σz Hz (fun x H1 => x = .ref f ∧ H1 = Hz) J ⟨.ref f, e1, rfl, rfl⟩
  refine wpAny_Call_Name_kw (thn rd fun u s1 hu => ?_)
  obtain ⟨x, H1, J1, r1, q1, q2⟩ := hu
  rw [q1] at r1
  rw [q2] at J1
  have r1 : u = Value.ref f := r1
  subst r1
  have noEx : ∀ b : Addr, b ∉ ([] : List Addr) := fun b z => nomatch z
  have un : Un (frs X.stack) [] H Hz s.heap s1.heap := J1.base
  have f1 := un.keep f _ of nf rf (noEx f)
  have t1 := un.keep td _ ot nt rt (noEx td)
  refine PySem.W.callWith_F0 ⟨_, _, _, _, f1⟩ (wpAny_call ?_)
  obtain ⟨⟨oc, vs, tt, h1, h2, h3⟩, _, _⟩ := J1.hok c' _ e2
  have lets : Passes (L2.CX X.prog X.w) ((cxOf CXg X.prog X.w X.K X.mg X.base Ng qg sg g cdg X.A X.stack s H Eg).tr pn xe) E := passes_call tk hW
  have run : codeAny (model X.prog X.w) (X.A.deeper (envOfC qg sg s.heap.objs.size g cdg)) (.call (.ref f) ⟨[], []⟩) (CR (L2.CX X.prog X.w) (envOfC qg sg s.heap.objs.size g cdg :: X.stack) X.prog X.w Hz s1 Q E) s1 := by
    refine PySem.W.kla_callFunE rm.depth f1 rfl L.co L.gen rfl ⟨c', oc, vs, tt, rfl, h1, h2, h3⟩ (bindD t1 _ _ _ _ ?_)
    refine wpAny_newFunctionEnv (fun y hy => (L.own y hy).2) (fun y hy => ?_) (fun g1 ns sb => ?_) L.kind
    · rw [List.mem_singleton.mp hy]
      exact L.par
    · have kept : ∀ b o, s1.heap.get? b = some o → g1.get? b = some o := fun b o e => sb.extBut b o (Nat.ne_of_lt (Heap.lt_size e)) (Heap.get?_push_of_some _ e)
      refine ⟨J1.nolimit.fresh _ sb, ?_⟩
      have K := startD (f := f) (c' := c') (tk := s1.toks + 1) (E := E) I L nN J1.env0 rm.hd un ns kept
      refine PySem.W.kla_codeExpr (wpAny_mono ((bd _ _ s1 Hz (rm.deeper _)).run [] _ _ Hz Q K e3) (fun w s2 hq => ?_) fun _ _ hq => hq)
      obtain ⟨y, H2, K2, ry, qy⟩ := hq
      exact ⟨y, H2, K2.os, K2.bare, K2.base, K2.hok, ry, qy⟩
  refine codeAny_mono run fun res s2 hq => ?_
  cases res with
  | error e => exact lets pz σz Hz s1 e s2 J1 hq
  | ok fl => cases fl <;> first | exact J1.after hq | exact False.elim hq
end
section
variable {X : Cx}
theorem lamcallD {T : List (Addr × Str)} {TT : (XK → Hp → VK → Prop) → Hp → VK → Prop} {x a : Str} {g c P : Addr} {k : Nat} {pg : Arguments} {bg : List Stmt} {sg : Scope} {dV kV doc pm cdv ct oc : Value} {an od : Option Addr} {osl : Array (Option Value)} {Ng : List Str} {ar : Arg} {i0 : Int} {kd : Nat} {kp : Pos}
    {body : Expr} {scope : Scope} {t : XK → TE} {p lpos pos : Pos} (gx : Gl X x) (mx : X.mg x = some (.ref g)) (kx : PySem.W.keepIn X.K (.ref g) = true) (lk : X.K.lookup g = some ⟨oc, od, .func (PySem.W.fnOf x x pg bg sg dV kV doc pm an cdv ct), osl⟩) (cg : PySem.W.codeIn X.K cdv x = true)
    (bn : L2.Binds X.K (PySem.W.fnOf x x pg bg sg dV kV doc pm an cdv ct) [a] []) (Sg : FnScope Ng [a] sg) (a0 : Ng[0]? = some a) (va : Vis sg a) (give : LamX.GivesTo X Ng x sg g cdv bg a (X.env.qual ++ "<lambda>") TT)
    (B : LamX.TabB X.base X.mg c P) (ec : X.env.code = .ref c) (inT : (P, X.env.qual ++ "<lambda>") ∈ T) (one : ∀ p ∈ T, p.1 = P → p.2 = X.env.qual ++ "<lambda>") (rm : Room (k + 2) X.A) (L : LamP X.env.scope scope ar.arg) (nN : ∀ i : Nat, X.N[i]? ≠ some ar.arg)
    (bd : ∀ (A : Around) (outer : List Env) (s : Shared) (H : Hp) (E : XK) (f c' : Addr), Room k (A.deeper (LamX.lamEnv X scope s.heap.objs.size f c')) → PE (LamX.lamCx X A outer s H E scope f c') body (t E))
    (b1 : (x == ("__debug__" : Str)) = false) (d1 : (a == ("__debug__" : Str)) = false) (d2 : (a == ("__classdict__" : Str)) = false) : PE X (.Call (.Name x p) [.Lambda (parD ar i0 kd kp) body scope lpos] [] pos) (LamX.tLam T TT t) := by
  refine ⟨fun pins s σ H Q I ⟨tT, h⟩ => ?_⟩
  have far : ∀ b, s.heap.objs.size ≤ b → b ∉ frs X.stack := fun b hb z => by
    rcases List.mem_cons.mp (I.stkSub _ z) with e | e
    · have lt := I.lt
      rw [← e] at lt
      exact Nat.lt_irrefl _ (Nat.lt_of_lt_of_le lt hb)
    · exact I.nofs hb e
  refine wpAny_Call_Name_kw (ld_glob I gx mx (PySem.W.callWith_K (h₀ := X.base) I.ok.mod.kin kx ?_ (by rfl) (by rfl)) b1)
  show wpAny _ _ (spliced ((false, eval (.Lambda (parD ar i0 kd kp) body scope lpos) X.env) :: backTo pos (starEach [] X.env))) _ _ s
  refine Calls.spliced_cons (evalD I B ec inT one tT (L.fre I.ok) fun f c' td mn ct' v H1 s1 J eN T1 of nf sf ot nt st kn _ => Calls.spliced_nil ⟨J.kIn, wpAny_call ?_⟩)
  have go : codeAny (model X.prog X.w) X.A (.call (.ref g) ⟨[.ref f], []⟩) (CR C8.CX0 X.stack X.prog X.w H1 s1 Q C8.E0) s1 :=
    LamX.run_ofS (N := Ng) (ps := [a]) (us := [.ref f]) (vs := [.ref f]) lk cg Sg rm J.env0 (bn s1 [.ref f] J.kIn rfl) (.cons rfl .nil) rfl fun rm2 => by
      obtain ⟨tg, g1, g2⟩ := give f c' s1 H1 Q (fun E H' Q' => t E σ H' Q') (fun W pn xe E p1 p2 tk hW => actD (i := 0) J L nN of nf (far f sf) ot nt (far td st) tk hW rm2 (fun A outer s H rm3 => bd A outer s H E f c' rm3) a0 va d1 d2) kn (h H1 eN T1)
      exact ⟨tg, g1.nox, g2⟩
  refine codeAny_mono go fun res s2 hq => ?_
  cases res with
  | error e => exact (show False from hq).elim
  | ok fl => cases fl <;> first | exact J.after hq | exact False.elim hq
end
end Pyx

namespace Pyx
open PySem PySem.Spec PyProof.Rows L2
theorem rel_lam {c : Rc} {f : Nat → Addr} {H H1 : Hp} {h : PH} (r : Rel c f h H) (e : LamX.ExtN H H1) (t : LamX.Tabs [(c.tb, c.lq)] H1) : Rel c f h H1 ∧ Ext f h.n H f h.n H1 := by
  have x : Ext f h.n H f h.n H1 := ⟨Nat.le_refl _, fun _ _ => rfl, fun a vs q => e a _ q (fun ps z => by cases z), fun a q' q => e a _ q (fun ps => LamX.codeO_ne ps), fun a o q' _ q => e a _ q (fun ps z => by cases z)⟩
  refine ⟨⟨r.len, fun i o q => ?_, r.inj, fun a q => let ⟨xs, z⟩ := r.scr a q; ⟨xs, e _ _ z (fun ps w => by cases w)⟩⟩, x⟩
  cases r.obj i o q with
  | lst h1 h2 h3 => exact .lst (e _ _ h1 (fun ps z => by cases z)) (h2.mono x) h3
  | dK h1 h2 h3 => exact .dK (e _ _ h1 (fun ps z => by cases z)) (h2.mono x) h3
  | dT h1 h2 h3 => exact .dT (e _ _ h1 (fun ps z => by cases z)) (h2.mono x) h3
  | lT h1 h2 h3 => exact .lT (e _ _ h1 (fun ps z => by cases z)) (h2.mono x) h3
  | lK h1 h2 h3 => exact .lK (e _ _ h1 (fun ps z => by cases z)) (h2.mono x) h3
  | dN h1 h2 h3 => exact .dN (e _ _ h1 (fun ps z => by unfold DictN at z; cases z)) (h2.mono x) h3
  | ins h1 h2 h3 => exact .ins (e _ _ h1 (fun ps z => by cases z)) (h2.mono x) h3
  | fz h1 h2 =>
    refine .fz ?_ (h2.mono x)
    rcases h1 with ⟨ob, h1⟩ | h1 | h1
    · exact .inl ⟨ob, e _ _ h1 (fun ps z => by cases z)⟩
    · exact .inr (.inl h1)
    · exact .inr (.inr ⟨h1.1, e _ _ h1.2 (fun ps z => by cases z)⟩)
  | set h1 a b d => exact .set (e _ _ h1 (fun ps z => by unfold SetO at z; cases z)) a b d
  | setT h1 h2 h3 h4 => exact .setT (e _ _ h1 (fun ps z => by unfold SetTO at z; cases z)) (fun p hp => x.tup _ _ (h2 p hp)) h3 h4
  | tb h1 h2 => exact .tb h1 (by rw [h1]; exact t _ (List.mem_cons_self ..))
section
variable {X : Cx}
theorem pe_alt {e : Expr} {t u : TE} (h1 : PE X e t) (h2 : PE X e u) : PE X e (fun σ H Q => t σ H Q ∨ u σ H Q) := ⟨fun pins s σ H Q I hw => by
  rcases hw with hw | hw
  · exact h1.run pins s σ H Q I hw
  · exact h2.run pins s σ H Q I hw⟩
theorem takes_len {W : WX} (t : Takes X W) : Takes X (fun cls d σ H => σ.length = X.N.length → W cls d σ H) := fun u s' ⟨a, B, sI, pins, σ, H, cls, d, e, I, nb, up, sky, na, os, ag, w⟩ =>
  t u s' ⟨a, B, sI, pins, σ, H, cls, d, e, I, nb, up, sky, na, os, ag, w I.len⟩
end
section
variable {c : Rc} {call : Nat → List PV → PH → R PV} {Γ : CEnv} {X : Cx} {C : Cmp}
def TTk (c : Rc) (Γ : CEnv) (d : DefR) (t : Told) : (XK → Hp → VK → Prop) → Hp → VK → Prop := fun tl H Q =>
  tl (fun cls dd H' => dd = none ∧ ∃ (xi : Str) (i : Nat) (v : PV), cls = .ref (c.C i) ∧ (xi, i) ∈ Γ.excs ∧ hval 9 (gEnv Γ d) t.n i t.e = some v ∧ Q (vOf v) H') H (match t.aft with | none => Q | some b => fun _ H' => Q (.bl b) H')
theorem good_g (G : Good c call Γ X) (ng : c.gd = false) {d : DefR} (S : FnScope d.N d.ps (defScope d.st)) {g : Addr} {cdg : Value} {s : Shared} {H : Hp} (hu : (X.A.deeper (envOfC d.x (defScope d.st) s.heap.objs.size g cdg)).units + 65 < cLine) :
    Good c (fun _ _ _ => .stuck) (gEnv Γ d) (cxOf C8.CX0 X.prog X.w X.K X.mg X.base d.N d.x (defScope d.st) g cdg X.A X.stack s H C8.E0).nox where
  K := G.K
  W := G.W
  calm := rfl
  nd := S.nd
  N := rfl
  xe := rfl
  vis := fun x h => by
    have h : isVis ((defScope d.st).names.lookup x) = true := h
    show Vis (defScope d.st) x
    unfold Vis
    cases e : (defScope d.st).names.lookup x with
    | none => rw [e] at h; cases h
    | some k => rw [e] at h; cases k <;> first | (cases h; done) | exact .inl rfl | exact .inr (.inl rfl) | exact .inr (.inr rfl)
  loc := fun x h => by
    have h : isLoc ((defScope d.st).names.lookup x) = true := h
    refine ⟨?_, .inl rfl⟩
    show L2.Loc (defScope d.st) x
    unfold L2.Loc
    cases e : (defScope d.st).names.lookup x with
    | none => rw [e] at h; cases h
    | some k => rw [e] at h; cases k <;> first | (cases h; done) | exact .inl rfl | exact .inr rfl
  fr := fun x h => h
  gl := fun x h => by
    have h : isGl ((defScope d.st).names.lookup x) = true := h
    show (defScope d.st).names.lookup x = some .globalImplicit
    cases e : (defScope d.st).names.lookup x with
    | none => rw [e] at h; cases h
    | some k => rw [e] at h; cases k <;> first | (cases h; done) | rfl
  fns := fun x k ar h => by cases h
  fnv := fun k vs h ns _ => absurd rfl ns
  consts := fun x v h => by cases h
  nob := G.nob
  units := hu
  exs := G.exs
  lams := fun h => by cases h
  cl := ⟨G.cl.cls, fun i x _ h => by cases h⟩
  cls := fun x cl k ar h => by cases h
  mts := fun m tab ar h => by cases h
  gd := fun z => by rw [ng] at z; cases z
  ks := fun z => by cases z
  cls0 := fun x cl h => by cases h
theorem good_lam (G : Good c call Γ X) (L : LamG c call Γ X) {m : Nat} (hf : ∀ x k ar, Γ.fns.lookup x = some (k, ar) → ∃ fd ps, X.mg x = some (.ref (c.F k)) ∧ PySem.W.keepIn X.K (.ref (c.F k)) = true ∧ Binds X.K fd ps [] ∧ FnOk X.prog X.w X.K X.mg X.base (L2.CX X.prog X.w) m (c.F k) fd ps (spB c call k ar))
    (hv : ∀ k vs h, call k vs h ≠ .stuck → k < xbig → ∃ fd ps, PySem.W.keepIn X.K (.ref (c.F k)) = true ∧ Binds X.K fd ps [] ∧ FnOk X.prog X.w X.K X.mg X.base (L2.CX X.prog X.w) m (c.F k) fd ps (spB c call k vs.length))
    {scope : Scope} (hs : ∀ y ∈ scope.names, y.2 ≠ .cell) {A : Around} {outer : List Env} {s : Shared} {H : Hp} {E : XK} {f c' : Addr} (hr : Room m (A.deeper (LamX.lamEnv X scope s.heap.objs.size f c'))) :
    Good c call (lEnv Γ scope) (LamX.lamCx X A outer s H E scope f c').nox where
  K := G.K
  W := G.W
  calm := rfl
  nd := G.nd
  N := G.N
  xe := rfl
  vis := fun x h => by
    have h : isVis (scope.names.lookup x) = true := h
    show Vis scope x
    unfold Vis
    cases e : scope.names.lookup x with
    | none => rw [e] at h; cases h
    | some k => rw [e] at h; cases k <;> first | (cases h; done) | exact .inl rfl | exact .inr (.inl rfl) | exact .inr (.inr rfl)
  loc := fun x h => by
    have h : isLoc (scope.names.lookup x) = true := h
    cases e : scope.names.lookup x with
    | none => rw [e] at h; cases h
    | some k =>
      rw [e] at h
      cases k <;> first
      | (cases h; done)
      | exact absurd rfl (hs _ (PySem.mem_of_lookup e))
      | exact ⟨by show L2.Loc scope x; unfold L2.Loc; rw [e]; exact .inl rfl, .inr e⟩
  fr := fun x h => h
  gl := fun x h => by
    have h : isGl (scope.names.lookup x) = true := h
    show scope.names.lookup x = some .globalImplicit
    cases e : scope.names.lookup x with
    | none => rw [e] at h; cases h
    | some k => rw [e] at h; cases k <;> first | (cases h; done) | rfl
  fns := fun x k ar h => let ⟨fd, ps, h1, h2, h3, h4⟩ := hf x k ar h; ⟨fd, ps, m, h1, h2, h3, hr, .of h4⟩
  fnv := fun k vs h ns lt => let ⟨fd, ps, h2, h3, h4⟩ := hv k vs h ns lt; ⟨fd, ps, m, h2, h3, hr, .of h4⟩
  consts := G.consts
  nob := G.nob
  units := by
    have z := hr.un
    show (A.deeper _).units + 65 < cLine
    omega
  exs := G.exs
  lams := fun h => by cases h
  cl := ⟨G.cl.cls, fun i x _ h => by cases h⟩
  cls := fun x cl k ar h => by cases h
  mts := fun m tab ar h => by cases h
  gd := fun z => by rw [L.ng] at z; cases z
  ks := fun z => by cases z
  cls0 := fun x cl h => by cases h
theorem lamS_of (G : Good c call Γ X) {scope : Scope} (hs : scB Γ scope = true) : LamX.LamS X.env.scope scope := by
  unfold scB at hs
  simp only [Bool.and_eq_true, List.all_eq_true, Bool.not_eq_true'] at hs
  obtain ⟨⟨⟨h1, h2⟩, h3⟩, h4⟩ := hs
  refine ⟨?_, h2, h3, fun y hy => ?_, fun y hy e => ?_⟩
  · cases e : scope.kind <;> rw [e] at h1 <;> first | rfl | (cases h1; done)
  · have q := (h4 y hy).1
    refine ⟨fun z => ?_, fun z => ?_⟩ <;> (rw [z] at q; cases q)
  · have q := (h4 y hy).2
    rw [e] at q
    have q : isCF (Γ.names.lookup y.1) = true := q
    refine G.fr _ ?_
    cases e2 : Γ.names.lookup y.1 with
    | none => rw [e2] at q; cases q
    | some k => rw [e2] at q; cases k <;> first | (cases q; done) | exact .inl rfl | exact .inr rfl
theorem lamP_of (G : Good c call Γ X) {scope : Scope} {a : Str} (hs : scP Γ scope a = true) : LamP X.env.scope scope a ∧ ∀ i : Nat, X.N[i]? ≠ some a := by
  unfold scP at hs
  simp only [Bool.and_eq_true, List.all_eq_true, Bool.not_eq_true', Bool.or_eq_true, decide_eq_true_eq] at hs
  obtain ⟨⟨⟨⟨⟨h1, h2⟩, h3⟩, h5⟩, h6⟩, h4⟩ := hs
  refine ⟨⟨?_, h2, h3, h5, fun y hy => ?_, fun y hy e => ?_⟩, fun i e => ?_⟩
  · cases e : scope.kind <;> rw [e] at h1 <;> first | rfl | (cases h1; done)
  · rcases (h4 y hy).1 with q | ⟨q1, q2⟩
    · refine ⟨fun z => ?_, fun z => ?_⟩ <;> (rw [z] at q; cases q)
    · exact ⟨fun _ => q1, fun z => by rw [z] at q2; cases q2⟩
  · have q := (h4 y hy).2
    rw [e] at q
    have q : isCF (Γ.names.lookup y.1) = true := q
    refine G.fr _ ?_
    cases e2 : Γ.names.lookup y.1 with
    | none => rw [e2] at q; cases q
    | some k => rw [e2] at q; cases k <;> first | (cases q; done) | exact .inl rfl | exact .inr rfl
  · rw [G.N] at e
    have := List.mem_of_getElem? e
    rw [List.contains_eq_mem, decide_eq_false_iff_not] at h6
    exact h6 this
theorem gives (G : Good c call Γ X) (ng : c.gd = false) (hne : Γ.excs ≠ []) {d : DefR} {t : Told} {k : Nat} {cdg : Value} {q : Str} (S : FnScope d.N d.ps (defScope d.st)) (ht : toldOf d.st = some t) (hc : tChk Γ d t = true) {j : Nat} (hj : ixOf t.n d.N 0 = some j)
    (hu : ∀ s : Shared, (X.A.deeper (envOfC d.x (defScope d.st) s.heap.objs.size (c.F k) cdg)).units + 65 < cLine) : LamX.GivesTo X d.N d.x (defScope d.st) (c.F k) cdg (defBody d.st) t.a q (TTk c Γ d t) := by
  intro f c' s H Q tl act hco h
  have Gg := good_g (g := c.F k) (cdg := cdg) (s := s) (H := H) G ng S (hu s)
  unfold tChk at hc
  simp only [Bool.and_eq_true, decide_eq_true_eq] at hc
  obtain ⟨⟨⟨⟨⟨⟨⟨c1, c2⟩, c3⟩, c4⟩, c5⟩, c6⟩, c7⟩, c8⟩ := hc
  obtain ⟨g1, g2⟩ := isGlD_is Gg c2
  obtain ⟨o1, o2⟩ := okName_is c4
  obtain ⟨CB, b1, b2⟩ := G.exs.base hne
  have hjN : d.N[j]? = some t.n := by
    have q := (ixOf_is hj).2
    rw [Nat.sub_zero] at q
    exact q
  have h0 : (L2.start d.N [V.ref f])[0]? = some (some (V.ref f)) := by
    unfold L2.start
    rfl
  have wish : ∀ (D : Ends) (hD : D.rt = Q) (cls : Value) (dd : Option Addr) (σ' : L2.St) (H' : Hp), (dd = none ∧ ∃ (xi : Str) (i : Nat) (v : PV), cls = .ref (c.C i) ∧ (xi, i) ∈ Γ.excs ∧ hval 9 (gEnv Γ d) t.n i t.e = some v ∧ Q (vOf v) H') → σ'.length = d.N.length →
      wAs X.K (.ref CB) j (tsH c (gEnv Γ d) t.n j t.e none) (fun _ _ _ _ => False) D cls dd σ' H' := fun D hD cls dd σ' H' ⟨e1, xi, i, v, e2, e3, e4, e5⟩ hl => by
    subst e1
    subst e2
    refine ⟨true, b2 _ _ e3, fun _ a na => ⟨xi, i, v, rfl, rfl, e3, e4, List.getElem?_set_self ?_, ?_⟩, fun z => nomatch z⟩
    · rw [hl]
      exact (List.getElem?_eq_some_iff.mp hjN).1
    · show D.rt (vOf v) H'
      rw [hD]
      exact e5
  obtain ⟨ta, tx, tn, te, taf⟩ := t
  dsimp only at c1 c2 c3 c4 c5 c6 c7 c8 hj hjN wish o1 o2 g1 g2 act
  unfold TTk at h
  dsimp only at h
  subst c1
  generalize hb : defBody d.st = bg at ht ⊢
  unfold toldOf at ht
  rw [hb] at ht
  split at ht
  · rename_i a p1 p2 p3 x p4 n e p5 p6 p7
    cases ht
    refine ⟨_, pss_one (ps_try_as (X := (cxOf C8.CX0 X.prog X.w X.K X.mg X.base d.N d.x (defScope d.st) (c.F k) cdg X.A X.stack s H C8.E0).nox) (x := Γ.exb) (n := tn) (c := .ref CB) (i := j) (Wout := fun _ _ _ _ => False)
      (tb := fun W D σ H => ∃ Ech : XK, (∀ cls d' σ' H', Ech cls d' H' → σ'.length = d.N.length → W cls d' σ' H') ∧ σ[0]? = some (some (.ref f)) ∧ H c' = some (LamX.CodeO c' q) ∧ tl Ech H D.rt) (ts := tsH c (gEnv Γ d) tn j te none)
      rfl rfl S.nd hjN c3 ⟨g1, g2, .inl b1⟩ takes0 (fun W pn xe tk _ => ?_) (fun a oe cls dd pn hz hf => ts_ok Gg hz hf hjN (.inl c3) o1 o2 rfl)), ?_⟩
    · refine ⟨fun pins s' σ H' D I h' => ?_⟩
      obtain ⟨Ech, hW, h1, h2, h3⟩ := h'
      have hp := act _ pn xe Ech p1 p2 (takes_len tk) hW
      have hq := pss_one (ps_ret (pos := p3) hp)
      exact hq.run pins s' σ H' D I ⟨h1, h2, h3⟩
    · exact ⟨_, fun cls d' σ' H' w hl => wish _ rfl cls d' σ' H' w hl, h0, hco, h⟩
  · rename_i a p1 p2 p3 x p4 n e p5 p6 p7 b p8 p9 p10
    cases ht
    refine ⟨_, pss_cons (ps_try_as (X := (cxOf C8.CX0 X.prog X.w X.K X.mg X.base d.N d.x (defScope d.st) (c.F k) cdg X.A X.stack s H C8.E0).nox) (x := Γ.exb) (n := tn) (c := .ref CB) (i := j) (Wout := fun _ _ _ _ => False)
      (tb := fun W D σ H => ∃ Ech : XK, (∀ cls d' σ' H', Ech cls d' H' → σ'.length = d.N.length → W cls d' σ' H') ∧ σ[0]? = some (some (.ref f)) ∧ H c' = some (LamX.CodeO c' q) ∧ tl Ech H (fun _ H' => D.nx σ H')) (ts := tsH c (gEnv Γ d) tn j te none)
      rfl rfl S.nd hjN c3 ⟨g1, g2, .inl b1⟩ takes0 (fun W pn xe tk _ => ?_) (fun a oe cls dd pn hz hf => ts_ok Gg hz hf hjN (.inl c3) o1 o2 rfl)) (pss_one (ps_ret pe_bl)), ?_⟩
    · refine ⟨fun pins s' σ H' D I h' => ?_⟩
      obtain ⟨Ech, hW, h1, h2, h3⟩ := h'
      have hp := act _ pn xe Ech p1 p2 (takes_len tk) hW
      have hq := pss_one (ps_expr (pos := p3) hp)
      exact hq.run pins s' σ H' D I ⟨h1, h2, h3⟩
    · exact ⟨_, fun cls d' σ' H' w hl => wish _ rfl cls d' σ' H' w hl, h0, hco, h⟩
  · cases ht
theorem lam_ok (K : COk c call C) (G : Good c call Γ X) {x : Str} {q : Arguments × Expr × Scope} {ce : CE} {p lp pos : Pos} (h : cLam C Γ x q.1 q.2.1 q.2.2 = some ce) (n : Nat) : PE X (.Call (.Name x p) [.Lambda q.1 q.2.1 q.2.2 lp] [] pos) (tE c (evE call (n + 1) ce)) := by
  obtain ⟨params, body, scope⟩ := q
  dsimp only at h ⊢
  unfold cLam at h
  obtain ⟨h1, h⟩ := gd_is h
  simp only [Bool.and_eq_true] at h1
  obtain ⟨⟨⟨hl, hem⟩, hx⟩, hsc⟩ := h1
  have hne : Γ.excs ≠ [] := fun z => by rw [z] at hem; cases hem
  obtain ⟨⟨k, d⟩, h2, h⟩ := bd_is h
  obtain ⟨t, h3, h⟩ := bd_is h
  obtain ⟨h4, h⟩ := gd_is h
  obtain ⟨j, h5, h⟩ := bd_is h
  obtain ⟨cb, h6, h⟩ := bd_is h
  obtain ⟨⟨kx, ces⟩, h7, h⟩ := bd_is h
  obtain ⟨hs, h8, h⟩ := bd_is h
  cases h
  dsimp only at h3 h4 h5 h8 ⊢
  have L := G.lams hl
  obtain ⟨m, hr, hf, hv⟩ := L.lvl
  obtain ⟨ex, em, fd, F, B, S⟩ := L.told x k d h2
  subst ex
  obtain ⟨oc, od, kV, doc, pm, an, cdv, ct, osl, rfl, lk, hcd⟩ := F.ex
  obtain ⟨g1, g2⟩ := isGlD_is G hx
  have hc := h4
  unfold tChk at hc
  simp only [Bool.and_eq_true, decide_eq_true_eq] at hc
  obtain ⟨⟨⟨⟨⟨⟨⟨c1, c2⟩, c3⟩, c4⟩, c5⟩, c6⟩, c7⟩, c8⟩ := hc
  obtain ⟨o1, o2⟩ := okName_is c8
  have hva : Vis (defScope d.st) t.a := by
    have h : isVis ((defScope d.st).names.lookup t.a) = true := c7
    unfold Vis
    cases e : (defScope d.st).names.lookup t.a with
    | none => rw [e] at h; cases h
    | some k => rw [e] at h; cases k <;> first | (cases h; done) | exact .inl rfl | exact .inr (.inl rfl) | exact .inr (.inr rfl)
  have rmU : ∀ s : Shared, (X.A.deeper (envOfC d.x (defScope d.st) s.heap.objs.size (c.F k) cdv)).units + 65 < cLine := fun s => by have z := (Room.deeper (k := m + 1) hr (envOfC d.x (defScope d.st) s.heap.objs.size (c.F k) cdv)).un; omega
  have base : PE X (.Call (.Name d.x p) [.Lambda params body scope lp] [] pos) (LamX.tLam [(c.tb, c.lq)] (TTk c Γ d t) (fun E σ H Q => tE c (evE call n cb) σ H Q ∨ tXe c (fun cls dd _ H => E cls dd H) (evE call n (.call (xbig + kx) ces)) σ H Q)) := by
    unfold lamSc at hsc
    cases ep : parOf params with
    | none =>
      rw [ep] at hsc
      simp only [Bool.and_eq_true] at hsc
      obtain ⟨hpar, hsc⟩ := hsc
      have hpar := noPar_is hpar
      subst hpar
      have nc : ∀ y ∈ scope.names, y.2 ≠ .cell := fun y hy => ((lamS_of G hsc).own y hy).2
      exact LamX.pe_lamcall (T := [(c.tb, c.lq)]) (TT := TTk c Γ d t) (x := d.x) (a := t.a) (g := c.F k) (c := c.cd) (P := c.tb) (k := m) (Ng := d.N) g1 em F.kp lk hcd (by rw [← c5]; exact B) (by rw [← c5]; exact S) c6 hva (gives G L.ng hne S h3 h4 h5 rmU) L.tab L.code (by rw [L.qual]; exact List.mem_cons_self ..)
        (fun p' hp' _ => by rw [L.qual]; rcases List.mem_cons.mp hp' with z | z; (rw [z]); (cases z)) hr (lamS_of G hsc) rfl (fun _ _ _ _ _ => rfl)
        (fun A outer s H E f c' hr2 => by
          have Gl' := good_lam (E := E) (f := f) (c' := c') (outer := outer) (H := H) G L hf hv nc hr2
          exact pe_alt (K.E _ _ Gl' _ _ h6 n).nox (xe_call K Gl' (takes_of rfl rfl rfl rfl) h7 n)) g2 o1 o2
    | some pq =>
      obtain ⟨ar, i0, kd, kp⟩ := pq
      rw [ep] at hsc
      have hsc : scP Γ scope ar.arg = true := hsc
      have hpar := parOf_is ep
      subst hpar
      obtain ⟨LP, nN⟩ := lamP_of G hsc
      have nc : ∀ y ∈ scope.names, y.2 ≠ .cell := fun y hy => (LP.own y hy).2
      exact lamcallD (T := [(c.tb, c.lq)]) (TT := TTk c Γ d t) (x := d.x) (a := t.a) (g := c.F k) (c := c.cd) (P := c.tb) (k := m) (Ng := d.N) g1 em F.kp lk hcd (by rw [← c5]; exact B) (by rw [← c5]; exact S) c6 hva (gives G L.ng hne S h3 h4 h5 rmU) L.tab L.code (by rw [L.qual]; exact List.mem_cons_self ..)
        (fun p' hp' _ => by rw [L.qual]; rcases List.mem_cons.mp hp' with z | z; (rw [z]); (cases z)) hr LP nN
        (fun A outer s H E f c' hr2 => by
          have Gl' := good_lam (E := E) (f := f) (c' := c') (outer := outer) (H := H) G L hf hv nc hr2
          exact pe_alt (K.E _ _ Gl' _ _ h6 n).nox (xe_call K Gl' (takes_of rfl rfl rfl rfl) h7 n)) g2 o1 o2
  refine pe_w base fun σ H Q ⟨f, h', st, r, rs, pp⟩ => ?_
  have pp : Post c f h'.n H (eLam (evE call n) cb (.call (xbig + kx) ces) hs t.aft st h') (VQ c Q) := pp
  unfold eLam at pp
  split at pp
  · rename_i e0
    have tb : LamX.TabS H c.tb c.lq := by
      cases r.obj 1 _ e0 with
      | tb z1 z2 => rw [← z1]; exact z2
    refine ⟨fun p' hp' => by rcases List.mem_cons.mp hp' with z | z; (rw [z]; exact tb); (cases z), fun H1 eN T1 => ?_⟩
    obtain ⟨r1, x1⟩ := rel_lam r eN T1
    show _ ∨ _
    split at pp
    · rename_i kk h1 e1
      split at pp
      · rename_i v e2
        obtain ⟨xi, i, ei, hi, hvv⟩ := hAll_at h8 e2
        subst ei
        refine .inr ⟨f, h', st, r1, rs.mono x1, ?_⟩
        rw [e1]
        intro f1 H2 x2 r2
        exact ⟨i, rfl, rfl, xi, i, v, rfl, hi, hvv, pp f1 H2 (x1.trans x2) r2 _ (hval_rv 9 t.e v hvv)⟩
      · exact pp.elim
    · refine .inl ⟨f, h', st, r1, rs.mono x1, ?_⟩
      split at pp
      · exact pp.elim
      · rename_i v h1 e2
        rw [e2]
        cases haft : t.aft with
        | none =>
          rw [haft] at pp
          exact Post.mono x1 pp
        | some b =>
          rw [haft] at pp
          exact fun f1 H2 x2 r2 v' rv => pp f1 H2 (x1.trans x2) r2 _ (.bl b)
    · exact pp.elim
  · exact pp.elim
end
end Pyx

namespace Pyx
open PySem PySem.Spec PyProof.Rows L2
def tT3 (r r' r'' : R2) (ta tb tc td : TE) : TT := fun σ H Q => ta σ H fun x H1 => tb σ H1 fun y H2 => r x y H2 fun z H3 => ∃ k, z = .bl k ∧
  (if k = true then tc σ H3 fun w H4 => r' y w H4 fun z2 H5 => ∃ k2, z2 = .bl k2 ∧
    (if k2 = true then td σ H5 fun u H6 => r'' w u H6 fun z3 H7 => ∃ k3, z3 = .bl k3 ∧ Q k3 H7 else Q false H5) else Q false H3)
section
variable {X : Cx} {a b d e : Expr} {ta tb tc td : TE} {pos : Pos}
theorem pt_chain3 {o1 o2 o3 : CmpOp} {r r' r'' : R2} (ho : OpR X (compareOp o1) r) (ho' : OpR X (compareOp o2) r') (ho'' : OpR X (compareOp o3) r'') (ha : PE X a ta) (hb : PE X b tb) (hd : PE X d tc) (he : PE X e td)
    (hm : lastMarks [o1, o2, o3] [b, d, e] = false) : PT X (.Compare a [o1, o2, o3] [b, d, e] pos) (tT3 r r' r'' ta tb tc td) := by
  refine ⟨fun pins s σ H Q I h => ?_⟩
  refine isTrue_chain (thn (ha.run pins s σ H _ I h) fun v s1 ⟨x, H1, I1, r1, q1⟩ => test_link (thn (hb.run pins s1 σ H1 _ I1 q1) fun u s2 ⟨y, H2, I2, r2, q2⟩ =>
    thn (ho pins s2 σ H2 x y v u _ I2 r1 r2 q2) fun d s3 ⟨z, H3, I3, r3, k, e, q3⟩ => ?_)) hm
  subst e
  cases r3
  refine wpAny_truthy_bool ?_
  cases k with
  | false => exact ite_ff ⟨H3, I3, q3⟩
  | true =>
    refine ite_tt (test_link (thn (hd.run pins s3 σ H3 _ I3 q3) fun w' s4 ⟨z', H4, I4, r4, q4⟩ => thn (ho' pins s4 σ H4 y z' u w' _ I4 r2 r4 q4) fun d' s5 ⟨z2, H5, I5, r5, k2, e2, q5⟩ => ?_))
    subst e2
    cases r5
    refine wpAny_truthy_bool ?_
    cases k2 with
    | false => exact ite_ff ⟨H5, I5, q5⟩
    | true =>
      refine ite_tt (test_last (thn (he.run pins s5 σ H5 _ I5 q5) fun w2 s6 ⟨z3, H6, I6, r6, q6⟩ => thn (ho'' pins s6 σ H6 z' z3 w' w2 _ I6 r4 r6 q6) fun d2 s7 ⟨z4, H7, I7, r7, k4, e4, q7⟩ => ?_))
      subst e4
      cases r7
      exact wpAny_truthy_bool ⟨H7, I7, q7⟩
end
section
variable {c : Rc} {call : Nat → List PV → PH → R PV} {n : Nat} {ca cd : CE}
theorem evB_blcmp (o : Cop) (x y : CE) (st : PSt) (h : PH) : evB (evE call (n + 1)) (.bl (.cmp o x y)) st h = (match evE call n x st h with
    | .stuck => .stuck
    | .ok v h1 => match evE call n y st h1 with
      | .stuck => .stuck
      | .ok w h2 => match cmpP o v w h2 with
        | some k => .ok k h2
        | none => .stuck) := by
  show (match eCmp (evE call n) o x y st h with | .ok (.bl k) h1 => (R.ok k h1 : R Bool) | _ => .stuck) = _
  unfold eCmp
  cases evE call n x st h with
  | stuck => rfl
  | ok v h1 =>
    dsimp only
    cases evE call n y st h1 with
    | stuck => rfl
    | ok w h2 =>
      dsimp only
      cases cmpP o v w h2 <;> rfl
theorem evB_and (rec : CE → PSt → PH → R PV) (x y : CB) (st : PSt) (h : PH) : evB rec (.and x y) st h = (match evB rec x st h with
    | .stuck => .stuck
    | .ok true h1 => evB rec y st h1
    | .ok false h1 => .ok false h1) := by
  rw [evB]
  all_goals
    cases evB rec x st h with
    | stuck => rfl
    | ok k h1 => cases k <;> rfl
theorem var_same {i : Nat} {st : PSt} {h h1 h2 : PH} {w : PV} (e : evE call n (.var i) st h = .ok w h1) : evE call n (.var i) st h2 = .ok w h2 := by
  cases n with
  | zero => exact nomatch e
  | succ n =>
    have e : eVar (evE call n) i st h = .ok w h1 := e
    show eVar (evE call n) i st h2 = .ok w h2
    unfold eVar at e ⊢
    cases z : st[i]? with
    | none => rw [z] at e; exact nomatch e
    | some o =>
      rw [z] at e
      cases o with
      | none => exact nomatch e
      | some v =>
        dsimp only at e ⊢
        cases e
        rfl
theorem rd_threeC (o1 o2 o3 : Cop) (i j : Nat) : ∀ σ H Q, tB' c (evB (evE call (n + 1)) (.and (.bl (.cmp o1 ca (.var i))) (.and (.bl (.cmp o2 (.var i) (.var j))) (.bl (.cmp o3 (.var j) cd))))) σ H Q → tT3 (rCmp c o1) (rCmp c o2) (rCmp c o3) (tE c (evE call n ca)) (tE c (evE call n (.var i))) (tE c (evE call n (.var j))) (tE c (evE call n cd)) σ H Q := fun σ H Q ⟨f, h, st, r, rs, p⟩ => by
  rw [evB_and, evB_blcmp] at p
  cases e1 : evE call n ca st h with
  | stuck => rw [e1] at p; exact p.elim
  | ok v h1 =>
    rw [e1] at p
    dsimp only at p
    refine tE_of e1 r rs fun f1 H1 x x1 r1 rs1 rv1 => ?_
    cases e2 : evE call n (.var i) st h1 with
    | stuck => rw [e2] at p; exact p.elim
    | ok w h2 =>
      rw [e2] at p
      dsimp only at p
      refine tE_of e2 r1 rs1 fun f2 H2 y x2 r2 rs2 rv2 => ?_
      cases e3 : cmpP o1 v w h2 with
      | none => rw [e3] at p; exact p.elim
      | some k =>
        rw [e3] at p
        refine ⟨f2, h2, v, w, k, r2, rv1.mono x2, rv2, e3, k, rfl, ?_⟩
        cases k with
        | false =>
          rw [if_neg Bool.false_ne_true]
          exact p _ _ (x1.trans x2) r2
        | true =>
          rw [if_pos rfl]
          dsimp only at p
          rw [evB_and, evB_blcmp, var_same (h2 := h2) e2] at p
          dsimp only at p
          cases e4 : evE call n (.var j) st h2 with
          | stuck => rw [e4] at p; exact p.elim
          | ok u h3 =>
            rw [e4] at p
            dsimp only at p
            refine tE_of e4 r2 rs2 fun f3 H3 z x3 r3 rs3 rv3 => ?_
            cases e5 : cmpP o2 w u h3 with
            | none => rw [e5] at p; exact p.elim
            | some k2 =>
              rw [e5] at p
              refine ⟨f3, h3, w, u, k2, r3, rv2.mono x3, rv3, e5, k2, rfl, ?_⟩
              cases k2 with
              | false =>
                rw [if_neg Bool.false_ne_true]
                exact p _ _ ((x1.trans x2).trans x3) r3
              | true =>
                rw [if_pos rfl]
                dsimp only at p
                rw [evB_blcmp, var_same (h2 := h3) e4] at p
                dsimp only at p
                cases e6 : evE call n cd st h3 with
                | stuck => rw [e6] at p; exact p.elim
                | ok t h4 =>
                  rw [e6] at p
                  dsimp only at p
                  refine tE_of e6 r3 rs3 fun f4 H4 zz x4 r4 rs4 rv4 => ?_
                  cases e7 : cmpP o3 u t h4 with
                  | none => rw [e7] at p; exact p.elim
                  | some k3 =>
                    rw [e7] at p
                    exact ⟨f4, h4, u, t, k3, r4, rv3.mono x4, rv4, e7, k3, rfl, p _ _ (((x1.trans x2).trans x3).trans x4) r4⟩
end
end Pyx

namespace Pyx
open PySem PySem.Spec PyProof.Rows L2
section
variable {c : Rc} {call : Nat → List PV → PH → R PV} {Γ : CEnv} {X : Cx}
theorem isTup_is {e : Expr} (h : isTupT e = true) : ∃ a b p, e = .Tuple a b p := by
  cases e <;> first | (cases h; done) | exact ⟨_, _, _, rfl⟩
section
variable {C : Cmp}
theorem it_of (K : COk c call C) (G : Good c call Γ X) {tg it : Expr} {ci : CI} (h : cIt C Γ tg it = some ci) (n : Nat) : PI X tg it (tI c (evI (evE call n) ci)) := by
  have over : ∀ {ci}, (bd (C.E Γ it) fun c => some (CI.over c)) = some ci → PI X tg it (tI c (evI (evE call n) ci)) := fun h => by
    obtain ⟨ce, h1, h⟩ := bd_is h
    cases h
    exact i_over G.K (K.E Γ X G _ _ h1 n)
  unfold cIt at h
  split at h
  · split at h
    · rename_i e
      rw [Bool.and_eq_true] at e
      obtain ⟨hs, h⟩ := gd_is h
      obtain ⟨ca, h1, h⟩ := bd_is h
      cases h
      have ex := of_decide_eq_true e.1
      subst ex
      obtain ⟨g1, g2⟩ := bltin_is G e.2
      exact i_rng1 g1 g2 hs (K.E Γ X G _ _ h1 n)
    · split at h
      · rename_i e
        rw [Bool.and_eq_true, Bool.and_eq_true] at e
        obtain ⟨hs, h⟩ := gd_is h
        obtain ⟨ca, h1, h⟩ := bd_is h
        cases h
        have ex := of_decide_eq_true e.1.1
        subst ex
        obtain ⟨g1, g2⟩ := bltin_is G e.1.2
        obtain ⟨_, _, _, et⟩ := isTup_is e.2
        subst et
        exact i_enum G.K g1 g2 hs (K.E Γ X G _ _ h1 n)
      · exact over h
  · split at h
    · rename_i e
      rw [Bool.and_eq_true] at e
      obtain ⟨hs, h⟩ := gd_is h
      rw [Bool.and_eq_true] at hs
      obtain ⟨ca, h1, h⟩ := bd_is h
      obtain ⟨cb, h2, h⟩ := bd_is h
      cases h
      have ex := of_decide_eq_true e.1
      subst ex
      obtain ⟨g1, g2⟩ := bltin_is G e.2
      exact i_rng2 g1 g2 hs.1 hs.2 (K.E Γ X G _ _ h1 n) (K.E Γ X G _ _ h2 n)
    · split at h
      · rename_i e
        rw [Bool.and_eq_true, Bool.and_eq_true] at e
        obtain ⟨hs, h⟩ := gd_is h
        rw [Bool.and_eq_true] at hs
        obtain ⟨ca, h1, h⟩ := bd_is h
        obtain ⟨cb, h2, h⟩ := bd_is h
        cases h
        have ex := of_decide_eq_true e.1.1
        subst ex
        obtain ⟨g1, g2⟩ := bltin_is G e.1.2
        obtain ⟨_, _, _, et⟩ := isTup_is e.2
        subst et
        exact i_zip G.K g1 g2 hs.1 hs.2 (K.E Γ X G _ _ h1 n) (K.E Γ X G _ _ h2 n)
      · exact over h
  · split at h
    · rename_i e
      rw [Bool.and_eq_true, Bool.and_eq_true] at e
      obtain ⟨hs, h⟩ := gd_is h
      rw [Bool.and_eq_true, Bool.and_eq_true] at hs
      obtain ⟨ca, h1, h⟩ := bd_is h
      obtain ⟨cb, h2, h⟩ := bd_is h
      obtain ⟨cd, h3, h⟩ := bd_is h
      cases h
      have ex := of_decide_eq_true e.1.1
      subst ex
      obtain ⟨g1, g2⟩ := bltin_is G e.1.2
      obtain ⟨_, _, _, et⟩ := isTup_is e.2
      subst et
      exact i_zip3 G.K g1 g2 hs.1.1 hs.1.2 hs.2 (K.E Γ X G _ _ h1 n) (K.E Γ X G _ _ h2 n) (K.E Γ X G _ _ h3 n)
    · exact over h
  · split at h
    · rename_i em
      obtain ⟨hs, h⟩ := gd_is h
      rw [Bool.and_eq_true] at hs
      obtain ⟨ca, h1, h⟩ := bd_is h
      cases h
      have ex := of_decide_eq_true em
      subst ex
      refine i_keys (fun td he => pi_keysMT he (base_of hs.2 _ _ _) hs.1) (fun td he => pi_keysM he (base_of hs.2 _ _ _) hs.1) ?_
      cases n with
      | zero => exact stuck0
      | succ n => exact s_lk (rec := evE call n) (K.E Γ X G _ _ h1 n)
    · exact over h
  · exact over h
theorem ifs_of (K : COk c call C) (G : Good c call Γ X) {ifs : List Expr} {co : Option CB} (h : cIfs C Γ ifs = some co) (n : Nat) : PTs X ifs (tIf' c (evE call n) co) := by
  unfold cIfs at h
  split at h
  · cases h
    exact pts_of (.inl ⟨rfl, rfl⟩)
  · obtain ⟨cb, h1, h⟩ := bd_is h
    cases h
    exact pts_of (.inr ⟨_, cb, rfl, rfl, K.B Γ X G _ _ h1 n⟩)
  · cases h
theorem itK_of (G : Good c call Γ X) {tg it : Expr} {i : Nat} {ci : CI} (h : cItK Γ it = some (i, ci)) (n : Nat) : PI X tg it (tI c (evI (evE call n) ci)) := by
  unfold cItK at h
  obtain ⟨⟨x, b⟩, h1, h⟩ := bd_is h
  obtain ⟨j, h2, h⟩ := bd_is h
  cases h
  obtain ⟨q1, q2, q3, q4⟩ := cVar_is G h2
  have hv : ∀ p, PE X (.Name x p) (tE c (evE call n (.var i))) := fun p => by
    cases n with
    | zero => exact stuck0
    | succ n => exact s_var (rec := evE call n) q1 q2 q3 q4
  rcases kyOf_is h1 with ⟨p, e⟩ | ⟨p, apos, cpos, e, hl⟩
  · subst e
    exact i_keys (fun td he => pi_keysD he) (fun td he => pi_keysDK he) (hv p)
  · subst e
    exact i_keys (e := .Name x p) (fun td he => pi_keysMT he (base_of rfl _ _ _) hl) (fun td he => pi_keysM he (base_of rfl _ _ _) hl) (hv p)
theorem lc_parts {fi : Expr → Expr → Option CI} {elt : Expr} {gens : List Comprehension} {scope : Scope} {ce : CE} (h : cLcG C Γ fi elt gens scope = some ce) : ∃ tg iter ifs ci ct co celt, gens = [⟨tg, iter, ifs, 0⟩] ∧ ce = .lc ci ct ((ownOf Γ scope).map (·.2)) co celt ∧
    blkC Γ.N (fkS Γ.names) scope (ownOf Γ scope) = true ∧ noSet iter = true ∧ fi tg iter = some ci ∧ cTgt 9 { Γ with names := scope.names } tg = some ct ∧ cIfs C { Γ with names := scope.names } ifs = some co ∧ C.E { Γ with names := scope.names } elt = some celt := by
  unfold cLcG at h
  split at h
  · obtain ⟨h1, h⟩ := gd_is h
    rw [Bool.and_eq_true] at h1
    obtain ⟨ci, h2, h⟩ := bd_is h
    obtain ⟨ct, h3, h⟩ := bd_is h
    obtain ⟨co, h4, h⟩ := bd_is h
    obtain ⟨ce', h5, h⟩ := bd_is h
    cases h
    exact ⟨_, _, _, _, _, _, _, rfl, rfl, h1.1, h1.2, h2, h3, h4, h5⟩
  · cases h
theorem lc_ok (K : COk c call C) (G : Good c call Γ X) {elt : Expr} {gens : List Comprehension} {scope : Scope} {ce : CE} {pos : Pos} (h : cLc C Γ elt gens scope = some ce) (n : Nat) : PE X (.ListComp elt gens scope pos) (tE c (evE call (n + 1) ce)) := by
  obtain ⟨tg, iter, ifs, ci, ct, co, celt, rfl, rfl, h1, h2, h3, h4, h5, h6⟩ := lc_parts h
  exact s_lc (own := ownOf Γ scope) rfl G.calm G.nd (it_of K G h3 n) (blk_of G h1) (fun s H C cl fp => tgt_of 9 (good_blk G s H scope C cl fp) _ _ h4) (fun s H C cl fp => ifs_of K (good_blk G s H scope C cl fp) h5 n)
    (fun s H C cl fp => K.E _ _ (good_blk G s H scope C cl fp) _ _ h6 n) (fun x => set_of h2 _ x)
theorem lcK_ok (K : COk c call C) (G : Good c call Γ X) {elt : Expr} {gens : List Comprehension} {scope : Scope} {ce : CE} {pos : Pos} (h : cLcK C Γ elt gens scope = some ce) (n : Nat) : PE X (.ListComp elt gens scope pos) (tE c (evE call (n + 1) ce)) := by
  unfold cLcK at h
  split at h
  · obtain ⟨⟨i, ci0⟩, h0, h⟩ := bd_is h
    obtain ⟨ce1, h1, h⟩ := bd_is h
    cases h
    refine s_lockE (rec := evE call n) ?_
    cases n with
    | zero => exact stuck0
    | succ n =>
      obtain ⟨tg, iter, ifs, ci, ct, co, celt, e1, e2, g1, h2, h3, h4, h5, h6⟩ := lc_parts h1
      cases e1
      subst e2
      obtain ⟨⟨j, ci1⟩, g3, h7⟩ := bd_is h3
      have h7 : ci1 = ci := Option.some.inj h7
      clear h3 h1
      subst h7
      exact s_lc (own := ownOf Γ scope) rfl G.calm G.nd (itK_of G g3 n) (blk_of G g1) (fun s H C cl fp => tgt_of 9 (good_blk G s H scope C cl fp) _ _ h4) (fun s H C cl fp => ifs_of K (good_blk G s H scope C cl fp) h5 n)
        (fun s H C cl fp => K.E _ _ (good_blk G s H scope C cl fp) _ _ h6 n) (fun x => set_of h2 _ x)
  · cases h
theorem lc2_parts {elt : Expr} {gens : List Comprehension} {scope : Scope} {ce : CE} (h : cLc2 C Γ elt gens scope = some ce) : ∃ tg iter tg1 iter1 ci ct ci1 ct1 celt, gens = [⟨tg, iter, [], 0⟩, ⟨tg1, iter1, [], 0⟩] ∧ ce = .lc2 ci ct ci1 ct1 ((ownOf Γ scope).map (·.2)) (ctSl ct1) celt ∧ (∀ i ∈ ctSl ct1, i ∈ (ownOf Γ scope).map (·.2)) ∧
    blkC Γ.N (fkS Γ.names) scope (ownOf Γ scope) = true ∧ noSet iter = true ∧ noSet iter1 = true ∧ cIt C Γ tg iter = some ci ∧ cTgt 9 { Γ with names := scope.names } tg = some ct ∧ cIt C { Γ with names := scope.names } tg1 iter1 = some ci1 ∧ cTgt 9 { Γ with names := scope.names } tg1 = some ct1 ∧ C.E { Γ with names := scope.names } elt = some celt := by
  unfold cLc2 at h
  split at h
  · obtain ⟨h1, h⟩ := gd_is h
    rw [Bool.and_eq_true, Bool.and_eq_true] at h1
    obtain ⟨ci, h2, h⟩ := bd_is h
    obtain ⟨ct, h3, h⟩ := bd_is h
    obtain ⟨ci1, h4, h⟩ := bd_is h
    obtain ⟨ct1, h5, h⟩ := bd_is h
    obtain ⟨ce', h6, h⟩ := bd_is h
    obtain ⟨h7, h⟩ := gd_is h
    cases h
    rw [List.all_eq_true] at h7
    exact ⟨_, _, _, _, _, _, _, _, _, rfl, rfl, fun i hi => List.mem_of_elem_eq_true (h7 i hi), h1.1.1, h1.1.2, h1.2, h2, h3, h4, h5, h6⟩
  · cases h
theorem lc2_ok (K : COk c call C) (G : Good c call Γ X) {elt : Expr} {gens : List Comprehension} {scope : Scope} {ce : CE} {pos : Pos} (h : cLc2 C Γ elt gens scope = some ce) (n : Nat) : PE X (.ListComp elt gens scope pos) (tE c (evE call (n + 1) ce)) := by
  obtain ⟨tg, iter, tg1, iter1, ci, ct, ci1, ct1, celt, rfl, rfl, hv, h1, h2, h2', h3, h4, h5, h6, h7⟩ := lc2_parts h
  exact s_lc2 (own := ownOf Γ scope) rfl hv G.calm G.nd (it_of K G h3 n) (blk_of G h1) (fun s H C cl fp => tgt_of 9 (good_blk G s H scope C cl fp) _ _ h4) (fun s H C cl fp => it_of K (good_blk G s H scope C cl fp) h5 n)
    (fun s H C cl fp => tgt_of 9 (good_blk G s H scope C cl fp) _ _ h6) (fun s H C cl fp => K.E _ _ (good_blk G s H scope C cl fp) _ _ h7 n) (fun x => set_of h2 _ x) fun env x => set_of h2' env x
theorem ands_of (K : COk c call C) (G : Good c call Γ X) {pos : Pos} : ∀ {es : List Expr} {ce : CE}, cAnds (C.E Γ) es = some ce → ∀ n, PE X (.BoolOp .And es pos) (tE c (evE call n ce))
  | [], _, h, _ => by cases h
  | [a], _, h, n => pe_one (K.E Γ X G _ _ h n)
  | a :: b :: r, _, h, n => by
    obtain ⟨x, h1, h⟩ := bd_is h
    obtain ⟨y, h2, h⟩ := bd_is h
    cases h
    cases n with
    | zero => exact stuck0
    | succ n => exact s_and (K.E Γ X G _ _ h1 n) (ands_of K G h2 n)
theorem ors_of (K : COk c call C) (G : Good c call Γ X) {pos : Pos} : ∀ {es : List Expr} {ce : CE}, cOrs (C.E Γ) es = some ce → ∀ n, PE X (.BoolOp .Or es pos) (tE c (evE call n ce))
  | [], _, h, _ => by cases h
  | [a], _, h, n => pe_one (K.E Γ X G _ _ h n)
  | a :: b :: r, _, h, n => by
    obtain ⟨x, h1, h⟩ := bd_is h
    obtain ⟨y, h2, h⟩ := bd_is h
    cases h
    cases n with
    | zero => exact stuck0
    | succ n => exact s_or (K.E Γ X G _ _ h1 n) (ors_of K G h2 n)
theorem bands_of (K : COk c call C) (G : Good c call Γ X) {pos : Pos} (n : Nat) : ∀ {es : List Expr} {cb : CB}, bAnds (C.B Γ) es = some cb → PW X (.BoolOp .And es pos) (tB' c (evB (evE call n) cb))
  | [], _, h => by cases h
  | [a], _, h => pw_and1 (K.B Γ X G _ _ h n)
  | a :: b :: r, _, h => by
    obtain ⟨x, h1, h⟩ := bd_is h
    obtain ⟨y, h2, h⟩ := bd_is h
    cases h
    exact b_and (K.B Γ X G _ _ h1 n) (bands_of K G n h2)
theorem bors_of (K : COk c call C) (G : Good c call Γ X) {pos : Pos} (n : Nat) : ∀ {es : List Expr} {cb : CB}, bOrs (C.B Γ) es = some cb → PW X (.BoolOp .Or es pos) (tB' c (evB (evE call n) cb))
  | [], _, h => by cases h
  | [a], _, h => pw_or1 (K.B Γ X G _ _ h n)
  | a :: b :: r, _, h => by
    obtain ⟨x, h1, h⟩ := bd_is h
    obtain ⟨y, h2, h⟩ := bd_is h
    cases h
    exact b_or (K.B Γ X G _ _ h1 n) (bors_of K G n h2)
theorem callv_of (K : COk c call C) (G : Good c call Γ X) {x : Str} {es : List Expr} {ce : CE} {p pos : Pos} (h : cCallV C Γ x es = some ce) (n : Nat) : PE X (.Call (.Name x p) es [] pos) (tE c (evE call (n + 1) ce)) := by
  unfold cCallV at h
  obtain ⟨h1, h⟩ := gd_is h
  rw [Bool.and_eq_true, Bool.not_eq_true'] at h1
  obtain ⟨i, h2, h⟩ := bd_is h
  obtain ⟨cs, h3, h⟩ := bd_is h
  cases h
  obtain ⟨q1, q2, q3, q4⟩ := cVar_is G h2
  have hp := pes_of (fun e ce q => K.E Γ X G e ce q n) h1.1 h3
  refine ⟨fun pins s σ H Q I ⟨f, h', st, r, rs, p⟩ => ?_⟩
  have pp : Post c f h'.n H (eCallV call (evE call n) i cs st h') (VQ c Q) := p
  clear p
  unfold eCallV at pp
  split at pp
  · rename_i k e0
    obtain ⟨w, e2, rv⟩ := rs.2 _ _ e0
    cases rv
    split at pp
    · rename_i hlt
      split at pp
      · exact pp.elim
      · rename_i vs hh1 e1
        have hns : call k vs hh1 ≠ .stuck := fun z => by rw [z] at pp; exact pp
        obtain ⟨fd, ps, lvl, a2, a3, a4, a5⟩ := G.fnv k vs hh1 hns (Nat.le_of_ble_eq_true hlt)
        cases hp with
        | nil => have z := h1.2; cases z
        | cons hs he ht =>
          refine (pe_qcallL (i := i) (a5.imp fun _ _ _ _ z => .inl z) a4 G.gd q1 q2 a2 a3 passL (pa_of (.cons hs he ht)) q3 q4 (star_of hs _ X.env) (plain_args ht _ X.env)).run pins s σ H Q I ⟨e2, tA_of e1 r rs fun f1 H1 ws x1 r1 rs1 rv1 => ?_⟩
          refine ⟨?_, f1, hh1, vs, r1, ?_, pp.mono x1⟩
          · rw [List.append_nil]; exact rv1.length.symm
          · rw [List.append_nil]; exact rv1
    · exact pp.elim
  · exact pp.elim
theorem keysOf_is : ∀ {ks : List (Option Expr)} {es : List Expr}, keysOf ks = some es → ks = es.map some
  | [], es, h => by cases h; rfl
  | some k :: r, es, h => by
    obtain ⟨ks, h1, h⟩ := bd_is h
    cases h
    rw [keysOf_is h1]
    rfl
  | none :: r, es, h => by cases h
theorem pds_of {rec : CE → PSt → PH → R PV} {f : Expr → Option CE} (hf : ∀ e ce, f e = some ce → PE X e (tE c (rec ce))) : ∀ {ks vs : List Expr} {cks cvs : List CE}, ks.length = vs.length → cEs f ks = some cks → cEs f vs = some cvs → PDs X c rec (ks.map some) vs cks cvs
  | [], [], _, _, _, h1, h2 => by cases h1; cases h2; exact .nil
  | [], _ :: _, _, _, h, _, _ => by cases h
  | _ :: _, [], _, _, h, _, _ => by cases h
  | k :: ks, v :: vs, _, _, h, h1, h2 => by
    obtain ⟨a, a1, h1⟩ := bd_is h1
    obtain ⟨b, a2, h1⟩ := bd_is h1
    cases h1
    obtain ⟨d, a3, h2⟩ := bd_is h2
    obtain ⟨e, a4, h2⟩ := bd_is h2
    cases h2
    exact .cons (hf _ _ a1) (hf _ _ a3) (pds_of hf (Nat.succ.inj h) a2 a4)
theorem disp_of (K : COk c call C) (G : Good c call Γ X) {ks : List (Option Expr)} {vs : List Expr} {ce : CE} {pos : Pos} (h : cDisp C Γ ks vs = some ce) (n : Nat) : PE X (.Dict ks vs pos) (tE c (evE call (n + 1) ce)) := by
  unfold cDisp at h
  obtain ⟨h1, h⟩ := gd_is h

  rw [Bool.and_eq_true, Bool.not_eq_true'] at h1
  obtain ⟨es, h2, h⟩ := bd_is h
  obtain ⟨cks, h3, h⟩ := bd_is h
  obtain ⟨cvs, h4, h⟩ := bd_is h
  obtain ⟨h5, h⟩ := gd_is h
  cases h
  have e := keysOf_is h2
  subst e
  refine s_disp (pds_of (fun e ce q => K.E Γ X G e ce q n) (of_decide_eq_true h5) h3 h4) (fun z => ?_) (Nat.le_of_ble_eq_true h1.1)
  rw [z] at h1
  cases h1.2
theorem dict_of (K : COk c call C) (G : Good c call Γ X) {ks : List (Option Expr)} {vs : List Expr} {ce : CE} {pos : Pos} (h : cDict C Γ ks vs pos = some ce) (n : Nat) : PE X (.Dict ks vs pos) (tE c (evE call (n + 1) ce)) := by
  unfold cDict at h
  split at h
  · split at h
    · cases h
      exact s_dnewN G.W
    · cases h
      exact s_dnew
  · split at h
    · obtain ⟨ck, h1, h⟩ := bd_is h
      obtain ⟨cv, h2, h⟩ := bd_is h
      cases h
      exact s_dispT G.units (K.E Γ X G _ _ h1 n) (K.E Γ X G _ _ h2 n)
    · exact disp_of K G h n
  · exact disp_of K G h n
theorem isOne_is {e : Expr} (h : isOne e = true) : ∃ k p1 p2, e = .UnaryOp .USub (.Constant (.int 1) k p1) p2 := by
  unfold isOne at h
  split at h
  · exact ⟨_, _, _, rfl⟩
  · cases h
theorem call_of (K : COk c call C) (G : Good c call Γ X) {x : Str} {es : List Expr} {ce : CE} {p pos : Pos} (h : cCall C Γ x es = some ce) (n : Nat) : PE X (.Call (.Name x p) es [] pos) (tE c (evE call (n + 1) ce)) := by
  unfold cCall at h
  split at h
  · exact callv_of K G h n
  split at h
  · rename_i k ar e
    obtain ⟨h1, h⟩ := gd_is h
    simp only [Bool.and_eq_true, Bool.not_eq_true', decide_eq_true_eq] at h1
    obtain ⟨cs, h2, h⟩ := bd_is h
    cases h
    obtain ⟨fd, ps, lvl, a1, a2, a3, a4, a5⟩ := G.fns _ _ _ e
    exact s_call G.gd (a5.imp fun _ _ _ _ z => .inl z) h1.2 a4 (G.gl _ h1.1.1.1) a1 a2 a3 h1.1.1.2 (pes_of (fun e ce q => K.E Γ X G e ce q n) h1.1.2 h2)
  · obtain ⟨hb, h'⟩ := gd_is h
    clear h
    have h := h'
    clear h'
    obtain ⟨g1, g2⟩ := bltin_is G hb
    split at h
    · rename_i e
      have e := of_decide_eq_true e
      subst e
      unfold cIsi at h
      split at h
      · obtain ⟨h1, h⟩ := gd_is h
        rw [Bool.and_eq_true] at h1
        obtain ⟨ty, h2, h⟩ := bd_is h
        obtain ⟨ca, h3, h⟩ := bd_is h
        cases h
        obtain ⟨g3, g4⟩ := bltin_is G h1.2
        exact s_isi G.K h1.1 (K.E Γ X G _ _ h3 n) (tyOf_is h2) g3 g4 g1 g2
      · obtain ⟨h1, h⟩ := gd_is h
        rw [Bool.and_eq_true, Bool.and_eq_true] at h1
        obtain ⟨ty, h2, h⟩ := bd_is h
        obtain ⟨uy, h4, h⟩ := bd_is h
        obtain ⟨ca, h3, h⟩ := bd_is h
        cases h
        obtain ⟨g3, g4⟩ := bltin_is G h1.1.2
        obtain ⟨g5, g6⟩ := bltin_is G h1.2
        exact s_isis G.K h1.1.1 (K.E Γ X G _ _ h3 n) (tyOf_is h2) g3 g4 (tyOf_is h4) g5 g6 g1 g2
      · cases h
    · split at h
      · rename_i aa bb e
        obtain ⟨ex, p2, q2, ees⟩ := lrgOf_is e
        subst ex
        subst ees
        obtain ⟨h1, h⟩ := gd_is h
        rw [Bool.and_eq_true, Bool.and_eq_true] at h1
        obtain ⟨ca, h2, h⟩ := bd_is h
        obtain ⟨cb, h3, h⟩ := bd_is h
        cases h
        obtain ⟨g3, g4⟩ := bltin_is G h1.1.1
        exact s_lrg G.calm g1 g2 g3 g4 h1.1.2 h1.2 (K.E Γ X G _ _ h2 n) (K.E Γ X G _ _ h3 n)
      split at h
      · rename_i bb e
        obtain ⟨ex, p2, q2, ees⟩ := lrg1Of_is e
        subst ex
        subst ees
        obtain ⟨h1, h⟩ := gd_is h
        rw [Bool.and_eq_true] at h1
        obtain ⟨cb, h3, h⟩ := bd_is h
        cases h
        obtain ⟨g3, g4⟩ := bltin_is G h1.1
        exact s_lrg1 G.calm g1 g2 g3 g4 h1.2 (K.E Γ X G _ _ h3 n)
      split at h
      · rename_i bb e
        obtain ⟨ex, p2, q2, ees⟩ := trgOf_is e
        subst ex
        subst ees
        obtain ⟨h1, h⟩ := gd_is h
        rw [Bool.and_eq_true] at h1
        obtain ⟨cb, h3, h⟩ := bd_is h
        cases h
        obtain ⟨g3, g4⟩ := bltin_is G h1.1
        exact s_trg G.calm g1 g2 g3 g4 h1.2 (K.E Γ X G _ _ h3 n)
      split at h
      · rename_i aa bb dd e
        obtain ⟨ex, p2, q2, ees⟩ := trg3Of_is e
        subst ex
        subst ees
        obtain ⟨h1, h⟩ := gd_is h
        rw [Bool.and_eq_true, Bool.and_eq_true, Bool.and_eq_true] at h1
        obtain ⟨ca, h2, h⟩ := bd_is h
        obtain ⟨cb, h3, h⟩ := bd_is h
        obtain ⟨cd, h4, h⟩ := bd_is h
        cases h
        obtain ⟨g3, g4⟩ := bltin_is G h1.1
        exact s_trg3 G.calm g1 g2 g3 g4 h1.2.1 h1.2.2.1 h1.2.2.2 (K.E Γ X G _ _ h2 n) (K.E Γ X G _ _ h3 n) (K.E Γ X G _ _ h4 n)
      split at h
      · rename_i aa e
        obtain ⟨ex, p2, q2, ees, hl, hnb⟩ := skOf_is e
        subst ex
        subst ees
        obtain ⟨ca, h3, h⟩ := bd_is h
        cases h
        exact s_skeys G.K G.W G.calm hnb hl g1 g2 (K.E Γ X G _ _ h3 n)
      split at h
      · rename_i aa e
        obtain ⟨ex, p2, q2, ees, hl, hnb⟩ := vlOf_is e
        subst ex
        subst ees
        obtain ⟨ca, h3, h⟩ := bd_is h
        cases h
        exact s_vals G.calm hnb hl g1 g2 (K.E Γ X G _ _ h3 n)
      obtain ⟨h1, h⟩ := gd_is h
      rw [Bool.and_eq_true] at h1
      obtain ⟨b, h2, h⟩ := bd_is h
      obtain ⟨cs, h3, h⟩ := bd_is h
      cases h
      refine s_bi G.K G.W G.calm G.units (biOf_is h2) g1 g2 (pes_of (fun e ce q => K.E Γ X G e ce q n) h1.1 h3) fun z => ?_
      rw [z] at h1
      cases h1.2
theorem key_of (K : COk c call C) (G : Good c call Γ X) {x kw y : Str} {es : List Expr} {ce : CE} {p p2 kp pos : Pos} (h : cKey C Γ x es kw y = some ce) (n : Nat) : PE X (.Call (.Name x p) es [⟨some kw, .Name y p2, kp⟩] pos) (tE c (evE call (n + 1) ce)) := by
  unfold cKey at h
  obtain ⟨h1, h⟩ := gd_is h
  simp only [Bool.and_eq_true, decide_eq_true_eq] at h1
  obtain ⟨⟨⟨⟨h1, h2⟩, h3⟩, h4⟩, h5⟩ := h1
  obtain ⟨a, h6, h⟩ := bd_is h
  obtain ⟨ca, h7, h⟩ := bd_is h
  cases h
  obtain ⟨ex, p3, q2, ees, hl, hnb⟩ := skOf_is h6
  subst ex
  subst ees
  subst h3
  subst h2
  obtain ⟨g1, g2⟩ := bltin_is G h4
  obtain ⟨g3, g4⟩ := bltin_is G h5
  exact s_skeysS G.W G.calm (G.gd (G.ks h1)) G.units hnb hl g1 g2 g3 g4 (K.E Γ X G _ _ h7 n)
theorem cop_is {op : CmpOp} {b : Expr} {o : Cop} (h : copOf op b = some o) : op = opC o := by
  cases op <;> cases h <;> rfl
theorem bop_is {op : Operator} {o : Bop} (h : bopOf op = some o) : op = opB o := by
  cases op <;> cases h <;> rfl
theorem last_of {o1 o2 : CmpOp} {b d : Expr} (h : noSet d = true) : lastMarks [o1, o2] [b, d] = false := mark_of h o2
theorem last_of3 {o1 o2 o3 : CmpOp} {b d e : Expr} (h : noSet e = true) : lastMarks [o1, o2, o3] [b, d, e] = false := mark_of h o3
theorem three_is {p q r : Cop} {x y z u : CE} {cb : CB} (h : three p q r x y z u = some cb) : ∃ i j, y = .var i ∧ z = .var j ∧ cb = .and (.bl (.cmp p x (.var i))) (.and (.bl (.cmp q (.var i) (.var j))) (.bl (.cmp r (.var j) u))) := by
  unfold three at h
  split at h
  · split at h
    · exact ⟨_, _, rfl, rfl, (Option.some.inj h).symm⟩
    · exact nomatch h
  · exact nomatch h
theorem step_ok (K : COk c call C) : COk c call (stepC C) where
  E := fun Γ X G e ce h n => by
    cases n with
    | zero => exact stuck0
    | succ n =>
      have ih : ∀ e ce, C.E Γ e = some ce → PE X e (tE c (evE call n ce)) := fun e ce q => K.E Γ X G e ce q n
      have ihb : ∀ e cb, C.B Γ e = some cb → PT X e (tB' c (evB (evE call n) cb)) := fun e cb q => K.B Γ X G e cb q n
      unfold stepC at h
      dsimp only at h
      split at h
      · -- names
        split at h
        · obtain ⟨i, h1, h⟩ := bd_is h
          cases h
          obtain ⟨q1, q2, q3, q4⟩ := cVar_is G h1
          exact s_var (rec := evE call n) q1 q2 q3 q4
        · obtain ⟨h1, h⟩ := gd_is h
          rw [Bool.and_eq_true] at h1
          unfold cGlob at h
          split at h
          · rename_i v h2
            cases h
            obtain ⟨u, w, a1, a2, a3⟩ := G.consts _ _ h2
            exact s_const (rec := evE call n) (pe_glob (G.gl _ h1.1) a1 a2 (okName_is h1.2).1) a3
          · obtain ⟨⟨k, ar⟩, h2, h⟩ := bd_is h
            cases h
            obtain ⟨fd, ps, lvl, a1, a2, a3, a4, a5⟩ := G.fns _ _ _ h2
            exact s_const (rec := evE call n) (pe_glob (v := .ref (c.F k)) (G.gl _ h1.1) a1 rfl (okName_is h1.2).1) fun _ _ _ => .fn k
      · cases h; exact s_const (rec := evE call n) pe_int fun _ _ _ => .int _
      · cases h; exact s_const (rec := evE call n) pe_bl fun _ _ _ => .bl _
      · cases h; exact s_const (rec := evE call n) pe_non fun _ _ _ => .non
      · cases h; exact s_const (rec := evE call n) pe_str fun _ _ _ => .str _
      · obtain ⟨o, h1, h⟩ := bd_is h
        obtain ⟨x, h2, h⟩ := bd_is h
        obtain ⟨y, h3, h⟩ := bd_is h
        cases h
        have e := bop_is h1
        subst e
        exact s_bin G.K o (ih _ _ h2) (ih _ _ h3)
      · obtain ⟨x, h1, h⟩ := bd_is h
        cases h
        exact s_neg (ih _ _ h1)
      · obtain ⟨x, h1, h⟩ := bd_is h
        cases h
        exact s_not (ih _ _ h1)
      · -- one comparison
        split at h
        · rename_i hem
          obtain ⟨e1, p2, e2⟩ := isEmD_is hem
          subst e1
          subst e2
          obtain ⟨x, h1, h⟩ := bd_is h
          cases h
          exact s_isE G.units (mark_of rfl _) (ih _ _ h1)
        split at h
        · obtain ⟨hs, h⟩ := gd_is h
          obtain ⟨x, h1, h⟩ := bd_is h
          obtain ⟨y, h2, h⟩ := bd_is h
          cases h
          exact s_in G.K G.W G.units false (mark_of hs _) (ih _ _ h1) (ih _ _ h2)
        · obtain ⟨hs, h⟩ := gd_is h
          obtain ⟨x, h1, h⟩ := bd_is h
          obtain ⟨y, h2, h⟩ := bd_is h
          cases h
          exact s_in G.K G.W G.units true (mark_of hs _) (ih _ _ h1) (ih _ _ h2)
        · obtain ⟨hs, h⟩ := gd_is h
          obtain ⟨o, h0, h⟩ := bd_is h
          obtain ⟨x, h1, h⟩ := bd_is h
          obtain ⟨y, h2, h⟩ := bd_is h
          cases h
          have e := cop_is h0
          subst e
          exact s_cmp G.K G.units o (mark_of hs _) (ih _ _ h1) (ih _ _ h2)
      · obtain ⟨hs, h⟩ := gd_is h
        obtain ⟨o1, h0, h⟩ := bd_is h
        obtain ⟨o2, h0', h⟩ := bd_is h
        obtain ⟨x, h1, h⟩ := bd_is h
        obtain ⟨y, h2, h⟩ := bd_is h
        obtain ⟨z, h3, h⟩ := bd_is h
        cases h
        have e1 := cop_is h0
        have e2 := cop_is h0'
        subst e1
        subst e2
        exact s_chain G.K G.units o1 o2 (last_of hs) (ih _ _ h1) (ih _ _ h2) (ih _ _ h3)
      · exact ands_of K G h (n + 1)
      · exact ors_of K G h (n + 1)
      · obtain ⟨x, h1, h⟩ := bd_is h
        obtain ⟨y, h2, h⟩ := bd_is h
        obtain ⟨z, h3, h⟩ := bd_is h
        cases h
        exact s_ite (ihb _ _ h1) (ih _ _ h2) (ih _ _ h3)
      · obtain ⟨hs, h⟩ := gd_is h
        obtain ⟨cs, h1, h⟩ := bd_is h
        cases h
        exact s_tup (pes_of ih hs h1)
      · obtain ⟨hs, h⟩ := gd_is h
        obtain ⟨cs, h1, h⟩ := bd_is h
        cases h
        exact s_lst (pes_of ih hs h1)
      · split at h
        · rename_i q hq
          obtain ⟨lp, e⟩ := lamOf_is hq
          subst e
          exact lam_ok K G h n
        · split at h
          · rename_i cl k ar e
            obtain ⟨h1, h⟩ := gd_is h
            simp only [Bool.and_eq_true, decide_eq_true_eq] at h1
            obtain ⟨cs, h2, h⟩ := bd_is h
            cases h
            obtain ⟨b1, b2, b3, fd, ps, lvl, b4, b5, b6⟩ := G.cls _ _ _ _ e
            obtain ⟨g1, g2⟩ := isGlD_is G h1.1.1
            exact s_mk G.gd b3 b1 (b6.imp fun _ _ _ _ z => .inl z) h1.2 b5 g1 b2 b4 g2 (pes_of ih h1.1.2 h2)
          · split at h
            · rename_i cl e
              obtain ⟨ee, e2⟩ := mk0Of_is e
              subst ee
              obtain ⟨h1, h⟩ := gd_is h
              cases h
              obtain ⟨g1, g2⟩ := isGlD_is G h1
              obtain ⟨b1, b2, b3⟩ := G.cls0 _ _ e2
              exact s_mk0 b3 b1 g1 b2 g2
            · exact call_of K G h n
      · exact key_of K G h n
      · -- methods
        obtain ⟨hs, h⟩ := gd_is h
        rw [Bool.and_eq_true] at hs
        rename_i hold
        split at h
        · rename_i tab et
          obtain ⟨h1, h⟩ := gd_is h
          rw [Bool.and_eq_true] at h1
          obtain ⟨co, h2, h⟩ := bd_is h
          obtain ⟨cs, h3, h⟩ := bd_is h
          cases h
          exact s_meth G.gd G.cl (fun cl k e hc => G.mts _ _ _ (mtAt_is et) cl k e hc) hs.1 hs.2 (Nat.le_of_ble_eq_true h1.2) (ih _ _ h2) (pes_of ih h1.1 h3)
        split at h
        · rename_i em
          have em := of_decide_eq_true em
          clear hold
          subst em
          split at h
          · obtain ⟨h1, h⟩ := gd_is h
            rw [Bool.and_eq_true] at h1
            obtain ⟨co, h2, h⟩ := bd_is h
            obtain ⟨ck, h3, h⟩ := bd_is h
            obtain ⟨cx, h4, h⟩ := bd_is h
            cases h
            exact s_get2 G.W G.units hs.1 h1.1 h1.2 hs.2 (ih _ _ h2) (ih _ _ h3) (ih _ _ h4)
          · cases h
        obtain ⟨mt, h0, h⟩ := bd_is h
        have em := mtOf_is h0
        split at h
        · obtain ⟨h1, h⟩ := gd_is h
          obtain ⟨x, h2, h⟩ := bd_is h
          obtain ⟨y, h3, h⟩ := bd_is h
          cases h
          subst em
          exact s_append G.K hs.1 h1 hs.2 (ih _ _ h2) (ih _ _ h3)
        · obtain ⟨h1, h⟩ := gd_is h
          obtain ⟨x, h2, h⟩ := bd_is h
          obtain ⟨y, h3, h⟩ := bd_is h
          cases h
          subst em
          exact s_count G.K hs.1 h1 hs.2 (ih _ _ h2) (ih _ _ h3)
        · obtain ⟨h1, h⟩ := gd_is h
          obtain ⟨x, h2, h⟩ := bd_is h
          obtain ⟨y, h3, h⟩ := bd_is h
          cases h
          subst em
          exact s_index G.K G.units hs.1 h1 hs.2 (ih _ _ h2) (ih _ _ h3)
        · obtain ⟨x, h2, h⟩ := bd_is h
          cases h
          subst em
          exact s_pop G.K hs.1 hs.2 (ih _ _ h2)
        · cases h
      · obtain ⟨h1, h⟩ := gd_is h
        rw [Bool.and_eq_true] at h1
        obtain ⟨x, h2, h⟩ := bd_is h
        cases h
        exact s_fld G.K G.cl h1.2 h1.1 (ih _ _ h2)
      · -- slices
        obtain ⟨x, h1, h⟩ := bd_is h
        obtain ⟨l, h2, h⟩ := bd_is h
        obtain ⟨u, h3, h⟩ := bd_is h
        cases h
        have part : ∀ {o : Option Expr} {p : Option CE}, cOpt (C.E Γ) o = some p → L2.PO X o (tO' c (evO (evE call n) p)) := fun {o p} q => by
          cases o with
          | none => cases q; exact po_no
          | some e =>
            obtain ⟨ce, q1, q⟩ := bd_is q
            cases q
            exact po_so (ih _ _ q1)
        exact s_sl G.K (ih _ _ h1) (part h2) (part h3)
      · obtain ⟨hs, h⟩ := gd_is h
        obtain ⟨x, h1, h⟩ := bd_is h
        cases h
        obtain ⟨k, p1, p2, e⟩ := isOne_is hs
        subst e
        exact s_rev G.K (ih _ _ h1)
      · exact dict_of K G h n
      · obtain ⟨hs, h⟩ := gd_is h
        obtain ⟨x, h1, h⟩ := bd_is h
        obtain ⟨y, h2, h⟩ := bd_is h
        cases h
        exact s_ix G.K G.W G.units hs (ih _ _ h1) (ih _ _ h2)
      · split at h
        · exact lcK_ok K G h n
        · split at h
          · exact lc2_ok K G h n
          · exact lc_ok K G h n
      · cases h
  B := fun Γ X G e cb h n => by
    have ih : ∀ e ce, C.E Γ e = some ce → PE X e (tE c (evE call n ce)) := fun e ce q => K.E Γ X G e ce q n
    have ihb : ∀ e cb, C.B Γ e = some cb → PT X e (tB' c (evB (evE call n) cb)) := fun e cb q => K.B Γ X G e cb q n
    unfold stepC at h
    dsimp only at h
    split at h
    · obtain ⟨x, h1, h⟩ := bd_is h
      cases h
      exact b_not (ihb _ _ h1)
    · exact (bands_of K G n h).pt
    · exact (bors_of K G n h).pt
    · cases n with
      | zero => exact stuckB0
      | succ n =>
        have ih : ∀ e ce, C.E Γ e = some ce → PE X e (tE c (evE call n ce)) := fun e ce q => K.E Γ X G e ce q n
        split at h
        · rename_i hem
          obtain ⟨e1, p2, e2⟩ := isEmD_is hem
          subst e1
          subst e2
          obtain ⟨x, h1, h⟩ := bd_is h
          cases h
          exact b_bl (b_isE G.units (mark_of rfl _) (ih _ _ h1)) rd_isE
        split at h
        · obtain ⟨hs, h⟩ := gd_is h
          obtain ⟨x, h1, h⟩ := bd_is h
          obtain ⟨y, h2, h⟩ := bd_is h
          cases h
          exact b_bl (pt_cmpR (op_inP G.K G.W G.units false) (ih _ _ h1) (ih _ _ h2) (mark_of hs _)) (rd_in false)
        · obtain ⟨hs, h⟩ := gd_is h
          obtain ⟨x, h1, h⟩ := bd_is h
          obtain ⟨y, h2, h⟩ := bd_is h
          cases h
          exact b_bl (pt_cmpR (op_inP G.K G.W G.units true) (ih _ _ h1) (ih _ _ h2) (mark_of hs _)) (rd_in true)
        · obtain ⟨hs, h⟩ := gd_is h
          obtain ⟨o, h0, h⟩ := bd_is h
          obtain ⟨x, h1, h⟩ := bd_is h
          obtain ⟨y, h2, h⟩ := bd_is h
          cases h
          have e := cop_is h0
          subst e
          exact b_bl (pt_cmpR (op_cmp G.K G.units o) (ih _ _ h1) (ih _ _ h2) (mark_of hs _)) (rd_cmp o)
    · cases n with
      | zero => exact stuckB0
      | succ n =>
        have ih : ∀ e ce, C.E Γ e = some ce → PE X e (tE c (evE call n ce)) := fun e ce q => K.E Γ X G e ce q n
        obtain ⟨hs, h⟩ := gd_is h
        obtain ⟨o1, h0, h⟩ := bd_is h
        obtain ⟨o2, h0', h⟩ := bd_is h
        obtain ⟨x, h1, h⟩ := bd_is h
        obtain ⟨y, h2, h⟩ := bd_is h
        obtain ⟨z, h3, h⟩ := bd_is h
        cases h
        have e1 := cop_is h0
        have e2 := cop_is h0'
        subst e1
        subst e2
        exact b_bl (pt_chain (op_cmp G.K G.units o1) (op_cmp G.K G.units o2) (ih _ _ h1) (ih _ _ h2) (ih _ _ h3) (last_of hs)) (rd_chain o1 o2)
    · cases n with
      | zero => exact stuckB0
      | succ n =>
        have ih : ∀ e ce, C.E Γ e = some ce → PE X e (tE c (evE call n ce)) := fun e ce q => K.E Γ X G e ce q n
        obtain ⟨hs, h⟩ := gd_is h
        obtain ⟨o1, h0, h⟩ := bd_is h
        obtain ⟨o2, h0', h⟩ := bd_is h
        obtain ⟨o3, h0'', h⟩ := bd_is h
        obtain ⟨x, h1, h⟩ := bd_is h
        obtain ⟨y, h2, h⟩ := bd_is h
        obtain ⟨z, h3, h⟩ := bd_is h
        obtain ⟨u, h4, h⟩ := bd_is h
        obtain ⟨i, j, ey, ez, ec⟩ := three_is h
        have e1 := cop_is h0
        have e2 := cop_is h0'
        have e3 := cop_is h0''
        subst e1
        subst e2
        subst e3
        subst ey
        subst ez
        subst ec
        exact pt_w (pt_chain3 (op_cmp G.K G.units o1) (op_cmp G.K G.units o2) (op_cmp G.K G.units o3) (ih _ _ h1) (ih _ _ h2) (ih _ _ h3) (ih _ _ h4) (last_of3 hs)) (rd_threeC o1 o2 o3 i j)
    · obtain ⟨hs, h⟩ := gd_is h
      obtain ⟨x, h1, h⟩ := bd_is h
      cases h
      exact b_val G.K hs (ih _ _ h1)
theorem cmp_ok : ∀ m : Nat, COk c call (cmpN m)
  | 0 => ⟨fun _ _ _ _ _ h => (by cases h), fun _ _ _ _ _ h => (by cases h)⟩
  | m + 1 => step_ok (cmp_ok m)
end
end
end Pyx

namespace Pyx
open PySem PySem.Spec PyProof.Rows L2
def isStarE : Expr → Bool
  | .Starred .. => true
  | _ => false
def swapL (names : List (Str × NameKind)) (line : Nat) (ts : List Expr) : List Str := ts.filterMap fun
  | .Name id pos => if names.lookup id == some .local && pos.line == line then some id else none
  | _ => none
def swapV (names : List (Str × NameKind)) (ts vs : List Expr) : Option (Option (List Str)) :=
  if (!(ts.length == 2 || ts.length == 3) || vs.length != ts.length) = true then some none
  else if (vs.any isStarE) = true then some none
  else if ((swapL names ((ts.head?.map (·.pos.line)).getD 0) ts).length != ts.length || (swapL names ((ts.head?.map (·.pos.line)).getD 0) ts).eraseDups.length != (swapL names ((ts.head?.map (·.pos.line)).getD 0) ts).length) = true then some none
  else if (vs.all (foldedForSure 8)) = true then some none
  else if (vs.all (constantsAlone 8)) = true then none
  else some (some (swapL names ((ts.head?.map (·.pos.line)).getD 0) ts))
theorem block_fn {env : Env} (h : env.scope.kind = .function) : env.blockKind = .function := by
  unfold Env.blockKind
  rw [h]
  rfl
theorem swapV_ok {env : Env} {names : List (Str × NameKind)} {ts vs : List Expr} {k k2 : Nat} {p p2 : Pos} {r : Option (List Str)} (hk : env.scope.kind = .function) (hn : env.scope.names = names) (h : swapV names ts vs = some r) :
    swappedStores [.Tuple ts k p] (.Tuple vs k2 p2) env = pure r := by
  subst hn
  have hb := block_fn hk
  unfold swappedStores
  dsimp only
  rw [hb]
  unfold swapV at h
  have hf : (ScopeKind.function != ScopeKind.function) = false := rfl
  rw [hf, Bool.or_false]
  split at h
  · rename_i c
    cases h
    exact if_pos c
  · rename_i c
    refine (if_neg c).trans ?_
    split at h
    · rename_i c2
      cases h
      exact if_pos c2
    · rename_i c2
      refine (if_neg c2).trans ?_
      split at h
      · rename_i c3
        cases h
        exact if_pos c3
      · rename_i c3
        refine (if_neg c3).trans ?_
        split at h
        · rename_i c4
          cases h
          exact if_pos c4
        · rename_i c4
          refine (if_neg c4).trans ?_
          split at h
          · cases h
          · rename_i c5
            cases h
            exact if_neg c5
def cSs (f : Stmt → Option CS) : List Stmt → Option (List CS)
  | [] => some []
  | s :: ss => bd (cSs f ss) fun ks => some ((f s).getD .stuck :: ks)
def cPar (C : Cmp) (Γ : CEnv) (ts vs : List Expr) : Option CS := match ts, vs with
  | [.Name x _, .Name y _], [a, b] => gd (noStar a && noStar b && decide (Γ.names.lookup x = some .local) && decide (Γ.names.lookup y = some .local)) (bd (ixOf x Γ.N 0) fun i => bd (ixOf y Γ.N 0) fun j => gd (!decide (i = j)) (bd (C.E Γ a) fun ca => bd (C.E Γ b) fun cb => some (.par i j ca cb)))
  | [.Name x _, .Name y _, .Name z _], [a, b, d] => gd (noStar a && noStar b && noStar d && decide (Γ.names.lookup x = some .local) && decide (Γ.names.lookup y = some .local) && decide (Γ.names.lookup z = some .local)) (bd (ixOf x Γ.N 0) fun i => bd (ixOf y Γ.N 0) fun j => bd (ixOf z Γ.N 0) fun l =>
      gd (!decide (i = j) && !decide (i = l) && !decide (j = l)) (bd (C.E Γ a) fun ca => bd (C.E Γ b) fun cb => bd (C.E Γ d) fun cd => some (.par3 i j l ca cb cd)))
  | _, _ => none
def strsOf (ts : List Expr) : List Str := ts.filterMap fun
  | .Name x _ => some x
  | _ => none
def cPlain (C : Cmp) (Γ : CEnv) (tg e : Expr) : Option CS := gd ((noComp e || isTupT tg) && noStar tg) (bd (C.E Γ e) fun ce => bd (cTgt 9 Γ tg) fun t => some (.asg t ce))
def atOf : List Expr → Option Str
  | [] => none
  | e :: r => match e with
    | .Attribute (.Name x _) _ _ => some x
    | _ => atOf r
def cFs (Γ : CEnv) (x : Str) : List Expr → Option (List (Nat ⊕ Str))
  | [] => some []
  | e :: r => match e with
    | .Name y _ => bd (cLoc Γ y) fun j => bd (cFs Γ x r) fun ts => some (.inl j :: ts)
    | .Attribute (.Name y _) f _ => gd (decide (y = x) && Γ.flds.contains f) (bd (cFs Γ x r) fun ts => some (.inr f :: ts))
    | _ => none
def cAssign (C : Cmp) (Γ : CEnv) (tg e : Expr) : Option CS := match tg, e with
  | .Tuple ts _ _, .Tuple vs _ _ => match swapV Γ.names ts vs with
    | none => none
    | some none => cPlain C Γ tg e
    | some (some ns) => gd (decide (ns = strsOf ts)) (cPar C Γ ts vs)
  | .Tuple ts _ _, e => match atOf ts with
    | none => cPlain C Γ tg e
    | some x => bd (cVar Γ x) fun i => bd (C.E Γ e) fun ce => bd (cFs Γ x ts) fun fs => some (.asgF i fs ce)
  | .Attribute o f _, e => gd (Γ.flds.contains f) (bd (C.E Γ o) fun co => bd (C.E Γ e) fun ce => some (.setfld co f ce))
  | .Subscript o i _, e => gd (noComp e && noSlice i) (bd (C.E Γ o) fun co => bd (C.E Γ i) fun ci => bd (C.E Γ e) fun ce => some (.setix co ci ce))
  | .Name y _, .ListComp elt gens scope lp => match Γ.dts.contains (posN lp) with
    | true => match gens with
      | [⟨_, iter, _, _⟩] => bd (cItK Γ iter) fun p => bd (cLcG C Γ (fun _ it => bd (cItK Γ it) fun q => some q.2) elt gens scope) fun ce => bd (cLoc Γ y) fun i => some (.lock p.1 (.asg (.nm i) ce))
      | _ => none
    | false => match gens with
      | [_, _] => bd (cLc2 C Γ elt gens scope) fun ce => bd (cLoc Γ y) fun i => some (.asg (.nm i) ce)
      | _ => bd (cLc C Γ elt gens scope) fun ce => bd (cLoc Γ y) fun i => some (.asg (.nm i) ce)
  | _, _ => cPlain C Γ tg e
def cmpS : Nat → Cmp → CEnv → Stmt → Option CS
  | 0, _, _, _ => none
  | m + 1, C, Γ, s => match s with
    | .Pass _ => some .pass
    | .Break _ => some .brk
    | .Continue _ => some .cont
    | .Return none _ => some .retN
    | .Return (some e) _ => bd (C.E Γ e) fun ce => some (.ret ce)
    | .Expr e _ => gd (noComp e) (bd (C.E Γ e) fun ce => some (.expr ce))
    | .Assign [tg] e _ => cAssign C Γ tg e
    | .AugAssign (.Subscript o i _) op e _ => gd (noSlice i) (bd (bopOf op) fun b => bd (C.E Γ o) fun co => bd (C.E Γ i) fun ci => bd (C.E Γ e) fun ce => some (.augix co ci b ce))
    | .AugAssign (.Name x _) op e _ => bd (bopOf op) fun o => bd (cLoc Γ x) fun i => bd (C.E Γ e) fun ce => some (.augn i o ce)
    | .If t a b _ => bd (C.B Γ t) fun ct => bd (cSs (cmpS m C Γ) a) fun ka => bd (cSs (cmpS m C Γ) b) fun kb => some (.ite ct ka kb)
    | .While t b [] _ => bd (C.B Γ t) fun ct => bd (cSs (cmpS m C Γ) b) fun kb => some (.while ct kb)
    | .For tg it b [] p => match Γ.dts.contains (posN p) with
     | true => gd (noSet it) (bd (cItK Γ it) fun q => bd (cTgt 9 Γ tg) fun t => bd (cSs (cmpS m C Γ) b) fun kb => some (.lock q.1 (.for t q.2 kb)))
     | false => gd (noSet it) (bd (cIt C Γ tg it) fun ci => bd (cTgt 9 Γ tg) fun t => bd (cSs (cmpS m C Γ) b) fun kb => some (.for t ci kb))
    | .Raise _ _ _ => some .stuck
    | .Try [b] [.ExceptHandler (some (.Name x _)) (some n) [hd] _] [] [] _ => bd (cmpS m C Γ b) fun kb => cTry C Γ kb x n b hd
    | .Try [b] [.ExceptHandler (some (.Name _ _)) none _ _] [] [] _ => bd (cmpS m C Γ b) fun kb => some (.ite (.val (.val (.bl true))) [kb] [])
    | _ => none
section
variable {c : Rc} {call : Nat → List PV → PH → R PV} {Γ : CEnv} {X : Cx}
structure GoodS (c : Rc) (call : Nat → List PV → PH → R PV) (Γ : CEnv) (X : Cx) : Prop extends Good c call Γ X where
  kind : X.env.scope.kind = .function
  names : X.env.scope.names = Γ.names
  stk : X.stack = X.env :: X.outer
  frm : X.env.frame = some X.env.locals
theorem GoodS.tr (G : GoodS c call Γ X) (pn : List (Addr × Obj)) : GoodS c call Γ (X.tr pn fun _ _ => False) :=
  { K := G.K, W := G.W, calm := G.calm, nd := G.nd, N := G.N, xe := rfl, vis := G.vis, loc := G.loc, fr := G.fr, gl := G.gl, fns := G.fns, fnv := G.fnv, consts := G.consts, nob := G.nob, units := G.units, exs := G.exs, cl := G.cl, cls := G.cls, mts := G.mts, gd := G.gd, ks := G.ks, cls0 := G.cls0, lams := fun h => (let L := G.lams h; ⟨L.ng, L.code, L.tab, L.qual, L.lvl, L.told⟩), kind := G.kind, names := G.names, stk := G.stk, frm := G.frm }
theorem stuckS0 {s : Stmt} {k : CS} : PS X s (tS c (evS call 0 k)) := t_stuck fun _ _ => rfl
section
variable {C : Cmp}
theorem plain_ok (K : COk c call C) (G : GoodS c call Γ X) {tg e : Expr} {k : CS} {pos : Pos} (hw : swappedStores [tg] e X.env = pure none) (h : cPlain C Γ tg e = some k) (n : Nat) : PS X (.Assign [tg] e pos) (tS c (evS call (n + 1) k)) := by
  obtain ⟨h1, h⟩ := gd_is h
  rw [Bool.and_eq_true] at h1
  obtain ⟨ce, h2, h⟩ := bd_is h
  obtain ⟨t, h3, h⟩ := bd_is h
  cases h
  have q : swapsWithSole [tg] e pos.line X.env = pure false := by
    rcases (Bool.or_eq_true _ _).mp h1.1 with z | z
    · exact comp_of z (some tg) pos.line X.env
    · obtain ⟨_, _, _, et⟩ := isTup_is z
      subst et
      cases e <;> rfl
  exact t_asg (n := n) (recS := evS call n) (K.E Γ X G.toGood _ _ h2 n) (tgt_of 9 G.toGood _ _ h3) q hw (by rw [aeach_of h1.2]; rfl)
theorem pfs_of (G : Good c call Γ X) {x : Str} {i : Nat} (hi : cVar Γ x = some i) : ∀ {es : List Expr} {ts : List (Nat ⊕ Str)}, cFs Γ x es = some ts → PFs X c i es ts
  | [], ts, h => by cases h; exact .nil
  | e :: r, ts, h => by
    unfold cFs at h
    split at h
    · obtain ⟨j, h1, h⟩ := bd_is h
      obtain ⟨ts', h2, h⟩ := bd_is h
      cases h
      obtain ⟨q1, q2, q3⟩ := cLoc_is G h1
      exact .nm q1 q2 q3 (pfs_of G hi h2)
    · obtain ⟨h1, h⟩ := gd_is h
      obtain ⟨ts', h2, h⟩ := bd_is h
      cases h
      rw [Bool.and_eq_true, decide_eq_true_eq] at h1
      obtain ⟨h0, h1⟩ := h1
      subst h0
      obtain ⟨q1, q2, q3, q4⟩ := cVar_is G hi
      exact .at q1 q2 q3 q4 (fun cl hc => ⟨G.cl.cls cl hc, G.cl.na cl _ hc h1⟩) (pfs_of G hi h2)
    · cases h
theorem ix_of (G : Good c call Γ X) {x : Str} {i : Nat} (h : ixOf x Γ.N 0 = some i) : X.N[i]? = some x := by
  have q := (ixOf_is h).2
  rw [Nat.sub_zero, ← G.N] at q
  exact q
theorem assign_ok (K : COk c call C) (G : GoodS c call Γ X) {tg e : Expr} {k : CS} {pos : Pos} (h : cAssign C Γ tg e = some k) (n : Nat) : PS X (.Assign [tg] e pos) (tS c (evS call (n + 1) k)) := by
  unfold cAssign at h
  split at h
  · split at h
    · cases h
    · rename_i sw
      exact plain_ok K G (swapV_ok G.kind G.names sw) h n
    · rename_i ns sw
      obtain ⟨h0, h⟩ := gd_is h
      have h0 := of_decide_eq_true h0
      have hw := fun k k2 p p2 => swapV_ok (k := k) (k2 := k2) (p := p) (p2 := p2) G.kind G.names sw
      unfold cPar at h
      split at h
      · obtain ⟨h1, h⟩ := gd_is h
        simp only [Bool.and_eq_true, decide_eq_true_eq] at h1
        obtain ⟨i, h2, h⟩ := bd_is h
        obtain ⟨j, h3, h⟩ := bd_is h
        obtain ⟨h4, h⟩ := gd_is h
        obtain ⟨ca, h5, h⟩ := bd_is h
        obtain ⟨cb, h6, h⟩ := bd_is h
        cases h
        subst h0
        have h4 : i ≠ j := by simpa using h4
        exact t_par (n := n) (recS := evS call n) G.calm G.nd (ix_of G.toGood h2) (ix_of G.toGood h3) h4 (by rw [G.names]; exact h1.1.2) (by rw [G.names]; exact h1.2) h1.1.1.1 h1.1.1.2 (K.E Γ X G.toGood _ _ h5 n) (K.E Γ X G.toGood _ _ h6 n) (hw _ _ _ _)
      · obtain ⟨h1, h⟩ := gd_is h
        simp only [Bool.and_eq_true, decide_eq_true_eq] at h1
        obtain ⟨i, h2, h⟩ := bd_is h
        obtain ⟨j, h3, h⟩ := bd_is h
        obtain ⟨l, h3', h⟩ := bd_is h
        obtain ⟨h4, h⟩ := gd_is h
        obtain ⟨ca, h5, h⟩ := bd_is h
        obtain ⟨cb, h6, h⟩ := bd_is h
        obtain ⟨cd, h7, h⟩ := bd_is h
        cases h
        subst h0
        simp only [Bool.and_eq_true, Bool.not_eq_true', decide_eq_false_iff_not] at h4
        exact t_par3 (n := n) (recS := evS call n) G.calm G.nd (ix_of G.toGood h2) (ix_of G.toGood h3) (ix_of G.toGood h3') h4.1.1 h4.1.2 h4.2 (by rw [G.names]; exact h1.1.1.2) (by rw [G.names]; exact h1.1.2) (by rw [G.names]; exact h1.2) h1.1.1.1.1.1 h1.1.1.1.1.2 h1.1.1.1.2
          (K.E Γ X G.toGood _ _ h5 n) (K.E Γ X G.toGood _ _ h6 n) (K.E Γ X G.toGood _ _ h7 n) (hw _ _ _ _)
      · cases h
  · rename_i ts k p no
    have hw : swappedStores [.Tuple ts k p] e X.env = pure none := by
      cases e <;> first | rfl | (exfalso; exact no _ _ _ rfl)
    split at h
    · exact plain_ok K G hw h n
    · obtain ⟨i, h1, h⟩ := bd_is h
      obtain ⟨ce, h2, h⟩ := bd_is h
      obtain ⟨fs, h3, h⟩ := bd_is h
      cases h
      exact t_asgF (n := n) (recS := evS call n) G.K G.calm G.nd (pfs_of G.toGood h1 h3) (K.E Γ X G.toGood _ _ h2 n) (by cases e <;> rfl) hw
  · obtain ⟨h1, h⟩ := gd_is h
    obtain ⟨co, h2, h⟩ := bd_is h
    obtain ⟨ce, h3, h⟩ := bd_is h
    cases h
    exact t_setfld (n := n) (recS := evS call n) G.cl h1 (K.E Γ X G.toGood _ _ h2 n) (K.E Γ X G.toGood _ _ h3 n)
  · obtain ⟨h1, h⟩ := gd_is h
    rw [Bool.and_eq_true] at h1
    obtain ⟨co, h2, h⟩ := bd_is h
    obtain ⟨ci, h3, h⟩ := bd_is h
    obtain ⟨ce, h4, h⟩ := bd_is h
    cases h
    exact t_setix (n := n) (recS := evS call n) G.W G.units h1.1 h1.2 (K.E Γ X G.toGood _ _ h2 n) (K.E Γ X G.toGood _ _ h3 n) (K.E Γ X G.toGood _ _ h4 n)
  · rename_i y py elt gens scope lpos
    split at h
    · split at h
      · rename_i tg0 iter0 ifs0 z0
        obtain ⟨⟨k, ci0⟩, h0, h⟩ := bd_is h
        obtain ⟨ce, h1, h⟩ := bd_is h
        obtain ⟨i, h2, h⟩ := bd_is h
        cases h
        obtain ⟨q1, q2, q3⟩ := cLoc_is G.toGood h2
        refine t_lock (recS := evS call n) ?_
        cases n with
        | zero => exact t_stuck fun st h => rfl
        | succ n =>
          obtain ⟨tg, iter, ifs, ci, ct, co, celt, e1, e2, g1, g2, g3, g4, g5, g6⟩ := lc_parts h1
          cases e1
          subst e2
          obtain ⟨⟨j, ci1⟩, g3', h7⟩ := bd_is g3
          have h7 : ci1 = ci := Option.some.inj h7
          clear g3 h1
          subst h7
          have hsw : ∃ b, swapsWith (.ListComp elt [⟨tg0, iter0, ifs0, 0⟩] scope lpos) (some (.Name y py)) pos.line X.env = pure b ∧ (b = true → X.env.scope.names.lookup y = some .local) := by
            refine ⟨_, rfl, fun z => ?_⟩
            simp only [Bool.and_eq_true] at z
            have z2 := z.1.1.2
            exact eq_of_beq z2
          obtain ⟨b, e1, e2⟩ := hsw
          cases n with
          | zero => exact t_stuck fun st h => rfl
          | succ n =>
            cases b with
            | false =>
              exact t_asg (n := n + 1) (recS := evS call (n + 1)) (s_lc (own := ownOf Γ scope) (rec := evE call n) (n := n) rfl G.calm G.nd (itK_of G.toGood g3' n) (blk_of G.toGood g1) (fun s H C cl fp => tgt_of 9 (good_blk G.toGood s H scope C cl fp) _ _ g4) (fun s H C cl fp => ifs_of K (good_blk G.toGood s H scope C cl fp) g5 n)
                (fun s H C cl fp => K.E _ _ (good_blk G.toGood s H scope C cl fp) _ _ g6 n) (fun x => set_of g2 _ x)) (g_nm G.nd q1 q2 q3) e1 rfl rfl
            | true =>
              exact t_setLc (rec := evE call n) (n := n) (recS := evS call (n + 1)) (ev := evE call (n + 1)) (own := ownOf Γ scope) rfl G.calm G.nd q1 (e2 rfl) e1 (itK_of G.toGood g3' n) (blk_of G.toGood g1) (fun s H C cl fp => tgt_of 9 (good_blk G.toGood s H scope C cl fp) _ _ g4) (fun s H C cl fp => ifs_of K (good_blk G.toGood s H scope C cl fp) g5 n)
                (fun s H C cl fp => K.E _ _ (good_blk G.toGood s H scope C cl fp) _ _ g6 n) (fun x => set_of g2 _ x) fun _ _ => rfl
      · cases h
    · split at h
      · rename_i ga gb
        obtain ⟨ce, h1, h⟩ := bd_is h
        obtain ⟨i, h2, h⟩ := bd_is h
        cases h
        obtain ⟨q1, q2, q3⟩ := cLoc_is G.toGood h2
        cases n with
        | zero => exact t_stuck fun st h => rfl
        | succ n =>
          have hsw : ∃ b, swapsWith (.ListComp elt [ga, gb] scope lpos) (some (.Name y py)) pos.line X.env = pure b ∧ (b = true → X.env.scope.names.lookup y = some .local) := by
            refine ⟨_, rfl, fun z => ?_⟩
            simp only [Bool.and_eq_true] at z
            have z2 := z.1.1.2
            exact eq_of_beq z2
          obtain ⟨b, e1, e2⟩ := hsw
          cases b with
          | false => exact t_asg (n := n + 1) (recS := evS call (n + 1)) (lc2_ok K G.toGood h1 n) (g_nm G.nd q1 q2 q3) e1 rfl rfl
          | true =>
            obtain ⟨tg, iter, tg1, iter1, ci, ct, ci1, ct1, celt, eg, rfl, hv, g1, g2, g2', g3, g4, g5, g6, g7⟩ := lc2_parts h1
            cases eg
            exact t_setLc2 (rec := evE call n) (n := n) (recS := evS call (n + 1)) (ev := evE call (n + 1)) (own := ownOf Γ scope) rfl hv G.calm G.nd q1 (e2 rfl) e1 (it_of K G.toGood g3 n) (blk_of G.toGood g1) (fun s H C cl fp => tgt_of 9 (good_blk G.toGood s H scope C cl fp) _ _ g4) (fun s H C cl fp => it_of K (good_blk G.toGood s H scope C cl fp) g5 n)
              (fun s H C cl fp => tgt_of 9 (good_blk G.toGood s H scope C cl fp) _ _ g6) (fun s H C cl fp => K.E _ _ (good_blk G.toGood s H scope C cl fp) _ _ g7 n) (fun x => set_of g2 _ x) (fun env x => set_of g2' env x) fun _ _ => rfl
      · obtain ⟨ce, h1, h⟩ := bd_is h
        obtain ⟨i, h2, h⟩ := bd_is h
        cases h
        obtain ⟨q1, q2, q3⟩ := cLoc_is G.toGood h2
        cases n with
        | zero => exact t_stuck fun st h => rfl
        | succ n =>
          have hsw : ∃ b, swapsWith (.ListComp elt gens scope lpos) (some (.Name y py)) pos.line X.env = pure b ∧ (b = true → X.env.scope.names.lookup y = some .local) := by
            refine ⟨_, rfl, fun z => ?_⟩
            simp only [Bool.and_eq_true] at z
            have z2 := z.1.1.2
            exact eq_of_beq z2
          obtain ⟨b, e1, e2⟩ := hsw
          cases b with
          | false => exact t_asg (n := n + 1) (recS := evS call (n + 1)) (lc_ok K G.toGood h1 n) (g_nm G.nd q1 q2 q3) e1 rfl rfl
          | true =>
            obtain ⟨tg, iter, ifs, ci, ct, co, celt, rfl, rfl, g1, g2, g3, g4, g5, g6⟩ := lc_parts h1
            exact t_setLc (rec := evE call n) (n := n) (recS := evS call (n + 1)) (ev := evE call (n + 1)) (own := ownOf Γ scope) rfl G.calm G.nd q1 (e2 rfl) e1 (it_of K G.toGood g3 n) (blk_of G.toGood g1) (fun s H C cl fp => tgt_of 9 (good_blk G.toGood s H scope C cl fp) _ _ g4) (fun s H C cl fp => ifs_of K (good_blk G.toGood s H scope C cl fp) g5 n)
              (fun s H C cl fp => K.E _ _ (good_blk G.toGood s H scope C cl fp) _ _ g6 n) (fun x => set_of g2 _ x) fun _ _ => rfl
  · rename_i no1 no2 no3
    refine plain_ok K G ?_ h n
    cases tg <;> cases e <;> first | rfl | (exfalso; first | exact no1 _ _ _ _ _ _ rfl rfl | exact no2 _ _ _ _ _ _ rfl rfl | (obtain ⟨_, hh⟩ := gd_is h; obtain ⟨_, _, hh⟩ := bd_is hh; obtain ⟨_, h1, _⟩ := bd_is hh; cases h1; done) | solve_by_elim)
theorem pSs_of {f : Stmt → Option CS} {rec : CS → PSt → PH → R FR} (h0 : ∀ st h, rec .stuck st h = .stuck) (hf : ∀ s k, f s = some k → PS X s (tS c (rec k))) : ∀ {ss : List Stmt} {ks : List CS}, cSs f ss = some ks → PSS X c rec ss ks
  | [], ks, h => by cases h; exact .nil
  | s :: ss, ks, h => by
    obtain ⟨ks', h2, h⟩ := bd_is h
    cases h
    refine .cons ?_ (pSs_of h0 hf h2)
    cases e : f s with
    | some k => exact hf s k e
    | none => exact t_stuck h0
theorem cmpS_ok (K : COk c call C) : ∀ (m : Nat) {X : Cx} (_ : GoodS c call Γ X) (s : Stmt) (k : CS), cmpS m C Γ s = some k → ∀ n, PS X s (tS c (evS call n k))
  | 0, _, _, _, _, h, _ => by cases h
  | m + 1, X, G, s, k, h, 0 => stuckS0
  | m + 1, X, G, s, k, h, n + 1 => by
    have ih : ∀ s k, cmpS m C Γ s = some k → PS X s (tS c (evS call n k)) := fun s k q => cmpS_ok K m G s k q n
    have ie : ∀ e ce, C.E Γ e = some ce → PE X e (tE c (evE call n ce)) := fun e ce q => K.E Γ X G.toGood e ce q n
    have hst : ∀ st h, evS call n .stuck st h = .stuck := fun st h => by cases n <;> rfl
    have ib : ∀ e cb, C.B Γ e = some cb → PT X e (tB' c (evB (evE call n) cb)) := fun e cb q => K.B Γ X G.toGood e cb q n
    unfold cmpS at h
    split at h
    · cases h; exact t_pass (n := n) (ev := evE call n) (recS := evS call n)
    · cases h; exact t_brk (n := n) (ev := evE call n) (recS := evS call n)
    · cases h; exact t_cont (n := n) (ev := evE call n) (recS := evS call n)
    · cases h; exact t_retN (n := n) (ev := evE call n) (recS := evS call n)
    · obtain ⟨ce, h1, h⟩ := bd_is h
      cases h
      exact t_ret (n := n) (recS := evS call n) (ie _ _ h1)
    · obtain ⟨h0, h⟩ := gd_is h
      obtain ⟨ce, h1, h⟩ := bd_is h
      cases h
      exact t_expr (n := n) (recS := evS call n) h0 (ie _ _ h1)
    · exact assign_ok K G h n
    · obtain ⟨hs, h⟩ := gd_is h
      obtain ⟨b, h1, h⟩ := bd_is h
      obtain ⟨co, h2, h⟩ := bd_is h
      obtain ⟨ci, h3, h⟩ := bd_is h
      obtain ⟨ce, h4, h⟩ := bd_is h
      cases h
      have e := bop_is h1
      subst e
      exact t_augix (n := n) (recS := evS call n) G.K G.W G.units hs (ie _ _ h2) (ie _ _ h3) (ie _ _ h4)
    · obtain ⟨o, h0, h⟩ := bd_is h
      obtain ⟨i, h1, h⟩ := bd_is h
      obtain ⟨ce, h2, h⟩ := bd_is h
      cases h
      have e := bop_is h0
      subst e
      obtain ⟨q1, q2, q3⟩ := cLoc_is G.toGood h1
      exact t_augn (n := n) (recS := evS call n) G.nd q1 q2 q3 (ie _ _ h2)
    · obtain ⟨ct, h0, h⟩ := bd_is h
      obtain ⟨ka, h1, h⟩ := bd_is h
      obtain ⟨kb, h2, h⟩ := bd_is h
      cases h
      exact t_ite (n := n) (recS := evS call n) (ib _ _ h0) (pSs_of hst ih h1) (pSs_of hst ih h2)
    · obtain ⟨ct, h0, h⟩ := bd_is h
      obtain ⟨kb, h2, h⟩ := bd_is h
      cases h
      exact t_while (n := n) (recS := evS call n) G.xe (ib _ _ h0) (pSs_of hst ih h2)
    · split at h
      · obtain ⟨hs, h⟩ := gd_is h
        obtain ⟨⟨i, ci⟩, h0, h⟩ := bd_is h
        obtain ⟨t, h1, h⟩ := bd_is h
        obtain ⟨kb, h2, h⟩ := bd_is h
        cases h
        refine t_lock (recS := evS call n) ?_
        cases n with
        | zero => exact stuckS0
        | succ n =>
          have ih' : ∀ s k, cmpS m C Γ s = some k → PS X s (tS c (evS call n k)) := fun s k q => cmpS_ok K m G s k q n
          have hst' : ∀ st h, evS call n .stuck st h = .stuck := fun st h => by cases n <;> rfl
          exact t_for (n := n) (recS := evS call n) G.xe G.calm (itK_of G.toGood h0 n) (tgt_of 9 G.toGood _ _ h1) (pSs_of hst' ih' h2) (fun x => set_of hs _ x)
      obtain ⟨hs, h⟩ := gd_is h
      obtain ⟨ci, h0, h⟩ := bd_is h
      obtain ⟨t, h1, h⟩ := bd_is h
      obtain ⟨kb, h2, h⟩ := bd_is h
      cases h
      exact t_for (n := n) (recS := evS call n) G.xe G.calm (it_of K G.toGood h0 n) (tgt_of 9 G.toGood _ _ h1) (pSs_of hst ih h2) (fun x => set_of hs _ x)
    · cases h
      exact t_stuck fun _ _ => rfl
    · obtain ⟨kb, h1, h⟩ := bd_is h
      exact try_ok K G.toGood G.stk G.frm G.names h n fun pn => cmpS_ok K m (G.tr pn) _ _ h1 n
    · obtain ⟨kb, h1, h⟩ := bd_is h
      cases h
      exact try_thru n fun pn => cmpS_ok K m (G.tr pn) _ _ h1 n
    · cases h
def cX : Nat → Cmp → CEnv → Stmt → XS
  | 0, _, _, _ => .no
  | m + 1, C, Γ, s => match s with
    | .Raise (some (.Call (.Name x _) [] [] _)) none _ => match isGlD Γ x with
      | true => match Γ.excs.lookup x with
        | some k => .rz k
        | none => .no
      | false => .no
    | .If t a b _ => match C.B Γ t with
      | some ct => .ite ct ((cSs (cmpS m C Γ) a).getD []) (a.map (cX m C Γ)) ((cSs (cmpS m C Γ) b).getD []) (b.map (cX m C Γ))
      | none => .no
    | s => xOf (xStmt C Γ s)
theorem cSs_some {f : Stmt → Option CS} : ∀ ss : List Stmt, ∃ ks, cSs f ss = some ks
  | [] => ⟨_, rfl⟩
  | s :: ss => by
    obtain ⟨ks, h⟩ := cSs_some (f := f) ss
    refine ⟨(f s).getD .stuck :: ks, ?_⟩
    unfold cSs
    rw [h]
    rfl
theorem tX_no {s : Stmt} {E : XK} {ev : PSt → PH → R PV} (hs : ∀ st h, ev st h = .stuck ∨ ev st h = .ok .non h) : PS X s (tX c E ev) := ⟨fun pins s σ H D I ⟨f, h, st, r, r', p⟩ => by
  rcases hs st h with e | e
  · rw [e] at p; exact p.elim
  · rw [e] at p
    obtain ⟨i, z, _⟩ := p _ _ .refl r
    cases z⟩
theorem xSs_ok {E : XK} {rec : CS → PSt → PH → R FR} {xr : XS → PSt → PH → R PV} {g : Stmt → XS} (hx : ∀ s, PS X s (tX c E (xr (g s)))) : ∀ {ss : List Stmt} {ks : List CS}, PSS X.nox c rec ss ks → PSs X ss (tX c E (xvSs rec xr ks (ss.map g)))
  | [], [], .nil => ⟨fun pins s σ H D I ⟨f, h, st, r, rs, p⟩ => by
      obtain ⟨i, z, _⟩ := p _ _ .refl r
      cases z⟩
  | s :: ss, k :: ks, .cons hs ht => by
    refine pss_w (pss_cons (ps_alt (ps_nox hs) (hx s)) (xSs_ok hx ht)) fun D σ H ⟨f, h, st, r, rs, p⟩ => ?_
    have p : Post c f h.n H (xvSs rec xr (k :: ks) (g s :: ss.map g) st h) _ := p
    unfold xvSs at p
    split at p
    · exact p.elim
    · rename_i e1
      refine .inr ⟨f, h, st, r, rs, ?_⟩
      rw [e1]
      exact p
    · have no : ∀ {v : PV}, v = .non → Post c f h.n H (R.ok v h) (fun _ _ H' x => ∃ i : Nat, x = .int (i : Nat) ∧ E (.ref (c.C i)) none H') → False := fun ev p => by
        subst ev
        obtain ⟨i, z, _⟩ := p _ _ .refl r
        cases z
      cases z : rec k st h with
      | stuck => rw [z] at p; exact p.elim
      | ok q h1 =>
        rw [z] at p
        cases q with
        | nx st1 =>
          refine .inl ⟨f, h, st, r, rs, ?_⟩
          rw [z]
          exact fun f1 H1 x1 r1 σ1 rs1 => ⟨f1, h1, st1, r1, rs1, p.mono x1⟩
        | rt v => exact (no rfl p).elim
        | bk st1 => exact (no rfl p).elim
        | ct st1 => exact (no rfl p).elim
theorem cX_ok (K : COk c call C) (hc : X.calm = true) (G : GoodS c call Γ X.nox) {E : XK} (tk : Takes X fun cls d _ H => E cls d H) : ∀ (m : Nat) (s : Stmt) (n j : Nat), PS X s (tX c E (xvS (evE call n) (evS call n) j (cX m C Γ s)))
  | _, _, _, 0 => tX_no fun _ _ => .inl rfl
  | 0, _, _, j + 1 => tX_no fun _ _ => .inr rfl
  | m + 1, s, n, j + 1 => by
    unfold cX
    split
    · rename_i x p2 p3 p4
      split
      · rename_i hx
        split
        · rename_i k hk
          obtain ⟨g1, g2⟩ := isGlD_is G.toGood hx
          have F := G.exs.one _ _ (PySem.mem_of_lookup hk)
          obtain ⟨B, newId, initId, bmB, e1, e2⟩ := F.exc
          refine ps_w (ps_raise hc tk (pmk_none e1 e2 F.mg F.keep (raises_own F.sub F.ty) g1 g2)) fun D σ H ⟨f, h, st, r, rs, p⟩ => ?_
          obtain ⟨i, e3, q⟩ := p _ _ .refl r
          have e4 : (k : Int) = (i : Int) := PV.int.inj e3
          have e5 : k = i := Int.ofNat.inj e4
          rw [e5]
          exact q
        · exact tX_no fun _ _ => .inr rfl
      · exact tX_no fun _ _ => .inr rfl
    · rename_i t a b pos
      split
      · rename_i ct ht
        have hst : ∀ st h, evS call n .stuck st h = .stuck := fun st h => by cases n <;> rfl
        obtain ⟨ka, ea⟩ := cSs_some (f := cmpS m C Γ) a
        obtain ⟨kb, eb⟩ := cSs_some (f := cmpS m C Γ) b
        have pa := pSs_of (X := X.nox) hst (fun s k q => cmpS_ok K m G s k q n) ea
        have pb := pSs_of (X := X.nox) hst (fun s k q => cmpS_ok K m G s k q n) eb
        rw [ea, eb]
        have pt : PT X t (tB' c (evB (evE call n) ct)) := (K.B Γ X.nox G.toGood _ _ ht n).nox
        refine ps_w (ps_if pt (xSs_ok (fun s => cX_ok K hc G tk m s n j) pa) (xSs_ok (fun s => cX_ok K hc G tk m s n j) pb)) fun D σ H ⟨f, h, st, r, rs, p⟩ => ?_
        have p : Post c f h.n H (match evB (evE call n) ct st h with | .stuck => .stuck | .ok true h1 => xvSs (evS call n) (xvS (evE call n) (evS call n) j) ka (a.map (cX m C Γ)) st h1 | .ok false h1 => xvSs (evS call n) (xvS (evE call n) (evS call n) j) kb (b.map (cX m C Γ)) st h1) _ := p
        split at p
        · exact p.elim
        · rename_i h1 e1
          refine tB_of e1 r rs fun f1 H1 x1 r1 rs1 => ?_
          rw [if_pos rfl]
          exact ⟨f1, h1, st, r1, rs1, p.mono x1⟩
        · rename_i h1 e1
          refine tB_of e1 r rs fun f1 H1 x1 r1 rs1 => ?_
          rw [if_neg Bool.false_ne_true]
          exact ⟨f1, h1, st, r1, rs1, p.mono x1⟩
      · exact tX_no fun _ _ => .inr rfl
    · cases hx : xStmt C Γ s with
      | none => exact tX_no fun _ _ => .inr rfl
      | some p =>
        obtain ⟨k, ces⟩ := p
        exact ps_w (xs_stmt K G.toGood tk hx n) fun D σ H q => q
end
end
end Pyx

namespace Pyx
open PySem PySem.Spec PyProof.Rows L2
structure Txt where
  defs : List DefR
  consts : List (Str × PV)
  nob : List Str
  dts : List Nat := []
  excs : List (Str × Nat) := []
  exb : Str := ""
  rsn : List Str := []
  lamd : Str := ""
  tolds : List Str := []
  cls : List (Str × (Nat × Nat × Nat)) := []
  mts : List (Str × (List (Nat × Nat) × Nat)) := []
  flds : List Str := []
  ks : Bool := false
  cls0 : List (Str × Nat) := []
def fnsOf : List DefR → Nat → List (Str × (Nat × Nat))
  | [], _ => []
  | d :: r, i => match d.m with
    | true => fnsOf r (i + 1)
    | false => (d.g, (i, d.ps.length)) :: fnsOf r (i + 1)
def toldsOf (ns : List Str) : List DefR → Nat → List (Str × (Nat × DefR))
  | [], _ => []
  | d :: r, i => match ns.contains d.x && decide (d.g = d.x) && (decide (d.q = d.x) && !d.m) with
    | true => (d.x, (i, d)) :: toldsOf ns r (i + 1)
    | false => toldsOf ns r (i + 1)
theorem toldsOf_is {ns : List Str} : ∀ {l : List DefR} {i : Nat} {x : Str} {k : Nat} {d : DefR}, (toldsOf ns l i).lookup x = some (k, d) → i ≤ k ∧ l[k - i]? = some d ∧ d.x = x ∧ d.g = d.x ∧ d.q = d.x ∧ d.m = false
  | [], _, _, _, _, h => by cases h
  | e :: r, i, x, k, d, h => by
    have rest : (toldsOf ns r (i + 1)).lookup x = some (k, d) → i ≤ k ∧ (e :: r)[k - i]? = some d ∧ d.x = x ∧ d.g = d.x ∧ d.q = d.x ∧ d.m = false := fun h => by
      obtain ⟨h1, h2, h3⟩ := toldsOf_is h
      exact ⟨Nat.le_of_succ_le h1, by rw [show k - i = (k - (i + 1)) + 1 by omega, List.getElem?_cons_succ]; exact h2, h3⟩
    unfold toldsOf at h
    split at h
    · rename_i hg
      simp only [Bool.and_eq_true, decide_eq_true_eq, Bool.not_eq_true'] at hg
      rw [List.lookup_cons] at h
      split at h
      · rename_i q
        cases h
        have q : x = e.x := by simpa using q
        exact ⟨Nat.le_refl _, by rw [Nat.sub_self]; rfl, q.symm, hg.1.2, hg.2.1, hg.2.2⟩
      · exact rest h
    · exact rest h
def envOf (T : Txt) (d : DefR) : CEnv := { N := d.N, names := (defScope d.st).names, fns := fnsOf T.defs 0, consts := T.consts, nob := T.nob, dts := T.dts, excs := T.excs, exb := T.exb, rsn := T.rsn, lam := !decide (T.lamd = "") && decide (d.x = T.lamd), tolds := toldsOf T.tolds T.defs 0, cls := T.cls, mts := T.mts, flds := T.flds, ks := T.ks, cls0 := T.cls0 }
def cDef (T : Txt) (d : DefR) : Option Def := bd (cSs (cmpS 30 (cmpN 40) (envOf T d)) (defBody d.st)) fun b => some ⟨d.ps.length, d.N.length, b, match T.rsn.contains d.x with | true => (defBody d.st).map (cX 30 (cmpN 40) (envOf T d)) | false => []⟩
def isFree : NameKind → Bool
  | .free => true
  | _ => false
def nodupB : List Str → Bool
  | [] => true
  | x :: r => !r.contains x && nodupB r
def scopeB (d : DefR) : Bool :=
  isFnK (defScope d.st).kind && !(defScope d.st).isCoroutine && !(defScope d.st).isGenerator && nodupB d.N && decide (d.N.take d.ps.length = d.ps) && d.ps.all (fun x => isLoc ((defScope d.st).names.lookup x)) && (defScope d.st).names.all (fun y => !isFree y.2)
theorem nodupB_is : ∀ {l : List Str}, nodupB l = true → l.Nodup
  | [], _ => List.nodup_nil
  | x :: r, h => by
    unfold nodupB at h
    rw [Bool.and_eq_true, Bool.not_eq_true'] at h
    refine List.nodup_cons.mpr ⟨fun hx => ?_, nodupB_is h.2⟩
    have q := List.elem_eq_true_of_mem hx
    have h1 : r.elem x = false := h.1
    rw [q] at h1
    cases h1
theorem scopeB_is {d : DefR} (h : scopeB d = true) : FnScope d.N d.ps (defScope d.st) := by
  unfold scopeB at h
  simp only [Bool.and_eq_true, Bool.not_eq_true', decide_eq_true_eq, List.all_eq_true] at h
  obtain ⟨⟨⟨⟨⟨⟨h1, h2⟩, h3⟩, h4⟩, h5⟩, h6⟩, h7⟩ := h
  refine ⟨?_, h2, h3, nodupB_is h4, h5, fun x hx => ?_, fun y hy e => ?_⟩
  · cases e : (defScope d.st).kind <;> rw [e] at h1 <;> first | rfl | (cases h1; done)
  · have q := h6 x hx
    cases e : (defScope d.st).names.lookup x with
    | none => rw [e] at q; cases q
    | some k => rw [e] at q; cases k <;> first | (cases q; done) | exact .inl rfl | exact .inr rfl
  · have q := h7 y hy
    rw [e] at q
    cases q
theorem fnsOf_is : ∀ {l : List DefR} {i : Nat} {x : Str} {k ar : Nat}, (fnsOf l i).lookup x = some (k, ar) → ∃ d, i ≤ k ∧ l[k - i]? = some d ∧ d.g = x ∧ ar = d.ps.length ∧ d.m = false
  | [], _, _, _, _, h => by cases h
  | d :: r, i, x, k, ar, h => by
    have rest : (fnsOf r (i + 1)).lookup x = some (k, ar) → ∃ d', i ≤ k ∧ (d :: r)[k - i]? = some d' ∧ d'.g = x ∧ ar = d'.ps.length ∧ d'.m = false := fun h => by
      obtain ⟨d', h1, h2, h3, h4, h5⟩ := fnsOf_is h
      exact ⟨d', Nat.le_of_succ_le h1, by rw [show k - i = (k - (i + 1)) + 1 by omega, List.getElem?_cons_succ]; exact h2, h3, h4, h5⟩
    unfold fnsOf at h
    split at h
    · exact rest h
    · rename_i em
      rw [List.lookup_cons] at h
      split at h
      · rename_i e
        cases h
        have e : x = d.g := by simpa using e
        exact ⟨d, Nat.le_refl _, by rw [Nat.sub_self]; rfl, e.symm, rfl, em⟩
      · exact rest h
structure Facts (c : Rc) (mg : Str → Option Value) (T : Txt) : Prop where
  fn : ∀ (k : Nat) (d : DefR), T.defs[k]? = some d → ∃ fd, Fun c.K d.x d.q d.st (c.F k) fd ∧ (d.m = false → mg d.g = some (.ref (c.F k))) ∧ Binds c.K fd d.ps []
  const : ∀ x v, T.consts.lookup x = some v → ∃ u w, mg x = some u ∧ RelV w u ∧ ∀ f n H, RV c f n H v w
  nob : ∀ x, T.nob.contains x = true → mg x = none
  exs : ExAll c c.K mg T.excs T.exb
  lam : T.lamd ≠ "" → ∀ (k : Nat) (d : DefR) (fd : FuncData), T.defs[k]? = some d → d.x = T.lamd → Fun c.K d.x d.q d.st (c.F k) fd → fd.code = .ref c.cd ∧ (envOfC d.q (defScope d.st) 0 (c.F k) fd.code).qual ++ "<lambda>" = c.lq
  cl : ClF c c.K T.flds
  cls : ∀ x cl k ar, T.cls.lookup x = some (cl, k, ar) → c.isC cl = true ∧ mg x = some (.ref (c.L cl)) ∧ Mk c.K (c.L cl) (c.F k) ∧ ∃ d, T.defs[k]? = some d ∧ ar = d.ps.length
  mts : ∀ m tab ar, T.mts.lookup m = some (tab, ar) → ∀ cl k, tab.lookup cl = some k → c.isC cl = true → Meth c.K (c.L cl) m (c.F k) ∧ ∃ d, T.defs[k]? = some d ∧ ar = d.ps.length
  cls0 : ∀ x cl, T.cls0.lookup x = some cl → c.isC cl = true ∧ mg x = some (.ref (c.L cl)) ∧ Mk0 c.K (c.L cl)
  ks : T.ks = true → c.gd = true
  ng : T.lamd ≠ "" → c.gd = false
structure Is (T : Txt) (P : Prg) : Prop where
  code : ∀ (k : Nat) (d : DefR), T.defs[k]? = some d → ∃ q : Def, (show List Def from P)[k]? = some q ∧ cDef T d = some q
  scope : ∀ (k : Nat) (d : DefR), T.defs[k]? = some d → scopeB d = true
  len : (show List Def from P).length = T.defs.length
  small : (show List Def from P).length ≤ xbig
theorem start_st {c : Rc} {f : Nat → Addr} {n : Nat} {H : Hp} {xs : List PV} {vs : List V} (r : RVs c f n H xs vs) (N : List Str) : RSt c f n H (xs.map some ++ List.replicate (N.length - xs.length) none) (L2.start N vs) := by
  unfold L2.start
  have hl := r.length
  refine ⟨by rw [List.length_append, List.length_append, List.length_map, List.length_map, List.length_replicate, List.length_replicate, hl], fun i x h => ?_⟩
  by_cases hi : i < xs.length
  · rw [List.getElem?_append_left (by rw [List.length_map]; exact hi), List.getElem?_map] at h
    cases e : xs[i]? with
    | none => rw [e] at h; cases h
    | some y =>
      rw [e] at h
      cases h
      obtain ⟨v, e1, r1⟩ := r.get i x e
      exact ⟨v, by rw [List.getElem?_append_left (by rw [List.length_map, ← hl]; exact hi), List.getElem?_map, e1]; rfl, r1⟩
  · rw [List.getElem?_append_right (by rw [List.length_map]; omega), List.getElem?_replicate] at h
    split at h <;> cases h
section
variable {Pg : Program} {mg : Str → Option Value} {base : Heap} {c : Rc} {T : Txt} {P : Prg} {n : Nat}
theorem okX3 {g : Bool} {x qual : Str} {st : Stmt} {f : Addr} {fd : FuncData} {N ps : List Str} {k : Nat} {sp : Sp} {w : World} {K : PySem.W.Frag} (F : Fun K x qual st f fd) (S : FnScope N ps (defScope st)) (len : ∀ vs H Q E, sp vs H Q E → vs.length = ps.length)
    (hbody : ∀ (cdv : Value) (A : Around) (outer : List Env) (s : Shared) (H : Hp) (vs : List V) (Q : VK) (E : XK), fd.code = cdv → Room k (A.deeper (envOfC qual (defScope st) s.heap.objs.size f cdv)) → (g = true → (A.deeper (envOfC qual (defScope st) s.heap.objs.size f cdv)).guards = some []) → sp vs H Q E →
      ∃ t, PSs (cxOf (L2.CX Pg w) Pg w K mg base N qual (defScope st) f cdv A outer s H E) (defBody st) t ∧ t { nx := fun _ H' => Q .non H', rt := Q } (start N vs) H) : FnQ g Pg w K mg base (L2.CX Pg w) (k + 1) f fd ps sp := by
  obtain ⟨oc, od, kV, doc, pm, an, cdv, ct, osl, rfl, lk, hcd⟩ := F.ex
  exact fn_ofQ lk hcd S len fun A outer s H vs Q E hr hg hsp => hbody cdv A outer s H vs Q E rfl hr hg hsp
theorem fn_ok (FA : Facts c mg T) (HP : Is T P) (TB : T.lamd ≠ "" → LamX.TabB base mg c.cd c.tb) : ∀ (dep k : Nat) (d : DefR), T.defs[k]? = some d → ∀ fd, Fun c.K d.x d.q d.st (c.F k) fd → FnQ c.gd Pg c.w c.K mg base (L2.CX Pg c.w) (3 * dep) (c.F k) fd d.ps (spB c (callP P n dep) k d.ps.length)
  | 0, k, d, hd, fd, F => ⟨fun vs H Q E h => h.elim (·.1) (·.1), fun A outer s H args us vs Q E _ _ _ _ _ h => by
      rcases h with ⟨_, f, h', ps, r, rs, p⟩ | ⟨_, f, h', ps, r, rs, p⟩
      · exact p.elim
      · exact p.elim⟩
  | dep + 1, k, d, hd, fd, F => by
    have S := scopeB_is (HP.scope k d hd)
    refine okX3 (k := 3 * dep + 2) F S (fun vs H Q E h => h.elim (·.1) (·.1)) fun cdv A outer s H vs Q E hcode hr hgq hsp => ?_
    obtain ⟨q, hq, hc⟩ := HP.code k d hd
    obtain ⟨b, hb, hc⟩ := bd_is hc
    cases hc
    have hfn : ∀ (x : Str) (k' ar : Nat), (fnsOf T.defs 0).lookup x = some (k', ar) → ∃ fd ps, mg x = some (.ref (c.F k')) ∧ PySem.W.keepIn c.K (.ref (c.F k')) = true ∧ Binds c.K fd ps [] ∧ FnQ c.gd Pg c.w c.K mg base (L2.CX Pg c.w) (3 * dep) (c.F k') fd ps (spB c (callP P n dep) k' ar) := fun x k' ar h => by
      obtain ⟨d', _, h2, h3, h4, h5⟩ := fnsOf_is h
      rw [Nat.sub_zero] at h2
      obtain ⟨fd', F', m', b'⟩ := FA.fn k' d' h2
      subst h3
      subst h4
      exact ⟨fd', d'.ps, m' h5, F'.kp, b', fn_ok FA HP TB dep k' d' h2 fd' F'⟩
    have hfv : ∀ (k' : Nat) (vs : List PV) (h' : PH), callP P n dep k' vs h' ≠ .stuck → k' < xbig → ∃ (fd : FuncData) (ps : List Str), PySem.W.keepIn c.K (.ref (c.F k')) = true ∧ Binds c.K fd ps [] ∧ FnQ c.gd Pg c.w c.K mg base (L2.CX Pg c.w) (3 * dep) (c.F k') fd ps (spB c (callP P n dep) k' vs.length) := fun k' vs h' ns lt => by
      have hk : ∃ d', T.defs[k']? = some d' := by
        cases e : T.defs[k']? with
        | some d' => exact ⟨d', rfl⟩
        | none =>
          exfalso
          refine ns ?_
          cases dep with
          | zero => rfl
          | succ dep =>
            show (match P[k']? with | some f => runD (callP P n dep) n f vs h' | none => match Nat.ble xbig k' with | true => (match P[k' - xbig]? with | some f => runX (callP P n dep) n f vs h' | none => .stuck) | false => .stuck) = .stuck
            have hn : (show List Def from P)[k']? = none := by
              rw [List.getElem?_eq_none_iff] at e ⊢
              rw [HP.len]
              exact e
            rw [show P[k']? = none from hn]
            have hb : Nat.ble xbig k' = false := by
              cases z : Nat.ble xbig k' with
              | false => rfl
              | true => exact absurd (Nat.le_of_ble_eq_true z) (Nat.not_le_of_lt lt)
            rw [hb]
      obtain ⟨d', h2⟩ := hk
      obtain ⟨fd', F', m', b'⟩ := FA.fn k' d' h2
      have hl : vs.length = d'.ps.length := by
        cases dep with
        | zero => exact absurd rfl ns
        | succ dep =>
          obtain ⟨q', hq', hc'⟩ := HP.code k' d' h2
          obtain ⟨b2, hb2, hc'⟩ := bd_is hc'
          cases hc'
          have ns : (match P[k']? with | some f => runD (callP P n dep) n f vs h' | none => match Nat.ble xbig k' with | true => (match P[k' - xbig]? with | some f => runX (callP P n dep) n f vs h' | none => .stuck) | false => .stuck) ≠ .stuck := ns
          rw [show P[k']? = _ from hq'] at ns
          have ns : runD (callP P n dep) n _ vs h' ≠ .stuck := ns
          unfold runD at ns
          split at ns
          · exact absurd rfl ns
          · rename_i e
            exact Nat.eq_of_beq_eq_true e
      rw [hl]
      exact ⟨fd', d'.ps, F'.kp, b', fn_ok FA HP TB dep k' d' h2 fd' F'⟩
    have G : GoodS c (callP P n dep) (envOf T d) (cxOf (L2.CX Pg c.w) Pg c.w c.K mg base d.N d.q (defScope d.st) (c.F k) cdv A outer s H E).nox := {
      K := rfl
      W := rfl
      calm := rfl
      nd := S.nd
      N := rfl
      xe := rfl
      vis := fun x h => by
        have h : isVis ((defScope d.st).names.lookup x) = true := h
        show Vis (defScope d.st) x
        unfold Vis
        cases e : (defScope d.st).names.lookup x with
        | none => rw [e] at h; cases h
        | some k => rw [e] at h; cases k <;> first | (cases h; done) | exact .inl rfl | exact .inr (.inl rfl) | exact .inr (.inr rfl)
      loc := fun x h => by
        have h : isLoc ((defScope d.st).names.lookup x) = true := h
        refine ⟨?_, .inl rfl⟩
        show L2.Loc (defScope d.st) x
        unfold L2.Loc
        cases e : (defScope d.st).names.lookup x with
        | none => rw [e] at h; cases h
        | some k => rw [e] at h; cases k <;> first | (cases h; done) | exact .inl rfl | exact .inr rfl
      fr := fun x h => h
      gl := fun x h => by
        have h : isGl ((defScope d.st).names.lookup x) = true := h
        show (defScope d.st).names.lookup x = some .globalImplicit
        cases e : (defScope d.st).names.lookup x with
        | none => rw [e] at h; cases h
        | some k => rw [e] at h; cases k <;> first | (cases h; done) | rfl
      fns := fun x k' ar h => let ⟨fd, ps, a1, a2, a3, a4⟩ := hfn x k' ar h; ⟨fd, ps, 3 * dep, a1, a2, a3, hr.mono (Nat.le_add_right _ _), a4⟩
      fnv := fun k' vs h' ns lt => let ⟨fd, ps, a2, a3, a4⟩ := hfv k' vs h' ns lt; ⟨fd, ps, 3 * dep, a2, a3, hr.mono (Nat.le_add_right _ _), a4⟩
      lams := fun hl => by
        have hl : (!decide (T.lamd = "") && decide (d.x = T.lamd)) = true := hl
        rw [Bool.and_eq_true, Bool.not_eq_true'] at hl
        have hne : T.lamd ≠ "" := of_decide_eq_false hl.1
        obtain ⟨q1, q2⟩ := FA.lam hne k d fd hd (of_decide_eq_true hl.2) F
        have ng := FA.ng hne
        have hfn' : ∀ (x : Str) (k' ar : Nat), (fnsOf T.defs 0).lookup x = some (k', ar) → ∃ fd ps, mg x = some (.ref (c.F k')) ∧ PySem.W.keepIn c.K (.ref (c.F k')) = true ∧ Binds c.K fd ps [] ∧ FnOk Pg c.w c.K mg base (L2.CX Pg c.w) (3 * dep) (c.F k') fd ps (spB c (callP P n dep) k' ar) := fun x k' ar h => let ⟨fd, ps, a1, a2, a3, a4⟩ := hfn x k' ar h; ⟨fd, ps, a1, a2, a3, (by rw [ng] at a4; exact a4.ok)⟩
        have hfv' : ∀ (k' : Nat) (vs : List PV) (h' : PH), callP P n dep k' vs h' ≠ .stuck → k' < xbig → ∃ (fd : FuncData) (ps : List Str), PySem.W.keepIn c.K (.ref (c.F k')) = true ∧ Binds c.K fd ps [] ∧ FnOk Pg c.w c.K mg base (L2.CX Pg c.w) (3 * dep) (c.F k') fd ps (spB c (callP P n dep) k' vs.length) := fun k' vs h' ns lt => let ⟨fd, ps, a1, a2, a3⟩ := hfv k' vs h' ns lt; ⟨fd, ps, a1, a2, (by rw [ng] at a3; exact a3.ok)⟩
        refine ⟨ng, ?_, TB hne, q2, ⟨3 * dep, hr, hfn', hfv'⟩, fun x k' d' h => ?_⟩
        · show cdv = _
          rw [← hcode]
          exact q1
        · obtain ⟨_, h2, h3, h4, h5, h6⟩ := toldsOf_is h
          rw [Nat.sub_zero] at h2
          obtain ⟨fd', F', m', b'⟩ := FA.fn k' d' h2
          subst h3
          exact ⟨rfl, by rw [← h4]; exact m' h6, fd', by rw [h5] at F'; exact F', b', scopeB_is (HP.scope k' d' h2)⟩
      consts := FA.const
      nob := FA.nob
      exs := FA.exs
      cl := FA.cl
      cls := fun x cl k' ar h => by
        obtain ⟨h1, h2, h3, d', h4, h5⟩ := FA.cls x cl k' ar h
        obtain ⟨fd', F', _, b'⟩ := FA.fn k' d' h4
        subst h5
        exact ⟨h1, h2, h3, fd', d'.ps, 3 * dep, b', hr.mono (Nat.le_succ _), fn_ok FA HP TB dep k' d' h4 fd' F'⟩
      mts := fun m tab ar h cl k' e hc => by
        obtain ⟨h1, d', h4, h5⟩ := FA.mts m tab ar h cl k' e hc
        obtain ⟨fd', F', _, b'⟩ := FA.fn k' d' h4
        subst h5
        exact ⟨h1, fd', d'.ps, 3 * dep, F'.kp, b', hr.mono (Nat.le_add_right _ _), fn_ok FA HP TB dep k' d' h4 fd' F'⟩
      gd := hgq
      ks := FA.ks
      cls0 := FA.cls0
      units := by
        have z := hr.un
        show (A.deeper _).units + 65 < cLine
        omega
      kind := S.kind
      names := rfl
      stk := rfl
      frm := rfl }
    have hst : ∀ st h, evS (callP P n dep) n .stuck st h = .stuck := fun st h => by cases n <;> rfl
    have pB := pSs_of hst (fun s k q => cmpS_ok (cmp_ok 40) 30 G s k q n) hb
    have hP : ∀ vs h, callP P n (dep + 1) k vs h = runD (callP P n dep) n _ vs h := fun vs h => by
      show (match P[k]? with | some f => runD (callP P n dep) n f vs h | none => match Nat.ble xbig k with | true => (match P[k - xbig]? with | some f => runX (callP P n dep) n f vs h | none => .stuck) | false => .stuck) = _
      rw [hq]
    rcases hsp with ⟨hl, f, h, ps, r, rs, p⟩ | ⟨hl, f, h, ps, r, rs, p⟩
    · refine ⟨tS c (evSs (evS (callP P n dep) n) b), (pss_of pB).nox, ?_⟩
      rw [hP] at p
      unfold runD at p
      split at p
      · exact p.elim
      · refine ⟨f, h, ps.map some ++ List.replicate (d.N.length - ps.length) none, r, start_st rs d.N, ?_⟩
        dsimp only at p
        cases z : evSs (evS (callP P n dep) n) b (ps.map some ++ List.replicate (d.N.length - ps.length) none) h with
        | stuck => rw [z] at p; exact p.elim
        | ok q h1 =>
          rw [z] at p
          cases q with
          | nx st1 => exact fun f1 H1 x1 r1 σ1 rs1 => p _ _ x1 r1 _ .non
          | rt v => exact fun f1 H1 x1 r1 w rw1 => p _ _ x1 r1 _ rw1
          | bk st1 => exact p.elim
          | ct st1 => exact p.elim
    · have hX : callP P n (dep + 1) (xbig + k) ps h = runX (callP P n dep) n ⟨d.ps.length, d.N.length, b, match T.rsn.contains d.x with | true => (defBody d.st).map (cX 30 (cmpN 40) (envOf T d)) | false => []⟩ ps h ∨ callP P n (dep + 1) (xbig + k) ps h = .stuck := by
        have hk : k < (show List Def from P).length := by
          rw [HP.len]
          exact (List.getElem?_eq_some_iff.mp hd).1
        by_cases hbig : (show List Def from P).length ≤ xbig
        · refine .inl ?_
          have hn : (show List Def from P)[xbig + k]? = none := by
            rw [List.getElem?_eq_none_iff]
            exact Nat.le_trans hbig (Nat.le_add_right _ _)
          show (match P[xbig + k]? with | some f => runD (callP P n dep) n f ps h | none => match Nat.ble xbig (xbig + k) with | true => (match P[xbig + k - xbig]? with | some f => runX (callP P n dep) n f ps h | none => .stuck) | false => .stuck) = _
          rw [show P[xbig + k]? = none from hn, show Nat.ble xbig (xbig + k) = true from Nat.ble_eq_true_of_le (Nat.le_add_right _ _), Nat.add_sub_cancel_left, hq]
        · exact absurd rfl (fun _ : (0 : Nat) = 0 => hbig HP.small)
      rcases hX with hX | hX
      · rw [hX] at p
        unfold runX at p
        split at p
        · exact p.elim
        · dsimp only at p
          cases hrs : T.rsn.contains d.x with
          | false =>
            rw [hrs] at p
            exfalso
            cases b with
            | nil =>
              obtain ⟨i, z, _⟩ := p _ _ .refl r
              cases z
            | cons k0 ks =>
              obtain ⟨i, z, _⟩ := p _ _ .refl r
              cases z
          | true =>
            rw [hrs] at p
            refine ⟨tX c E (xvSs (evS (callP P n dep) n) (xvS (evE (callP P n dep) n) (evS (callP P n dep) n) 20) b ((defBody d.st).map (cX 30 (cmpN 40) (envOf T d)))), ?_, ?_⟩
            · exact xSs_ok (fun s => cX_ok (cmp_ok 40) rfl G (takes_of rfl rfl rfl rfl) 30 s n 20) pB
            · exact ⟨f, h, _, r, start_st rs d.N, p⟩
      · rw [hX] at p
        exact p.elim
end
def start1 (ns : List Int) : PH := ⟨1, [.fz (ns.map PV.int)]⟩
def spLaw (K : PySem.W.Frag) : Sp := fun vs H Q _ => ∃ (a : Addr) (ns : List Int), vs = [.ref a] ∧ SqL K H a (ns.map V.int) ∧ ns.length ≤ 63 ∧ Only H ∧ ∀ H', Q (.bl true) H'
theorem law_sp {c : Rc} (hc : c.sc = none := by rfl) {call : Nat → List PV → PH → R PV} {k : Nat} (main : ∀ ns : List Int, ns.length ≤ 63 → ∃ h', call k [.ref 0] (start1 ns) = .ok (.bl true) h') : ∀ vs H Q E, spLaw c.K vs H Q E → spB c call k 1 vs H Q E := fun vs H Q E ⟨a, ns, e, hs, hl, ho, q⟩ => by
  refine .inl ?_
  subst e
  obtain ⟨h', hm⟩ := main ns hl
  have fz : Frz c H a (ns.map V.int) := by
    rcases hs with (hs | hs) | hs
    · rcases ho a with z | ⟨o, xs, z⟩
      · rw [hs] at z; cases z
      · rw [hs] at z; cases z
    · exact .inl hs
    · exact .inr (.inl hs)
  refine ⟨rfl, fun _ => a, start1 ns, [.ref 0], ⟨rfl, fun i o e => ?_, fun i j xs ys e1 e2 _ _ _ => ?_, fun a z => by rw [hc] at z; cases z⟩, .cons (.ref Nat.one_pos) .nil, ?_⟩
  · have hi := get_lt e
    have hi : i = 0 := Nat.lt_one_iff.mp hi
    subst hi
    have e' : some (PO.fz (ns.map PV.int)) = some o := e
    cases e'
    exact .fz fz (rvs_ints ns)
  · have h1 : i = 0 := Nat.lt_one_iff.mp (get_lt e1)
    have h2 : j = 0 := Nat.lt_one_iff.mp (get_lt e2)
    rw [h1, h2]
  · rw [hm]
    intro f' H' _ _ v rv
    cases rv
    exact q H'
end Pyx

namespace Pyx
open PySem PySem.Spec PyProof.Rows L2
section
variable {c : Rc} {mg : Str → Option Value}
def FnFact (c : Rc) (mg : Str → Option Value) (k : Nat) (d : DefR) : Prop := ∃ fd, Fun c.K d.x d.q d.st (c.F k) fd ∧ (d.m = false → mg d.g = some (.ref (c.F k))) ∧ Binds c.K fd d.ps []
def FnAll (c : Rc) (mg : Str → Option Value) : Nat → List DefR → Prop
  | _, [] => True
  | i, d :: r => FnFact c mg i d ∧ FnAll c mg (i + 1) r
theorem FnAll.at : ∀ {ds : List DefR} {i : Nat}, FnAll c mg i ds → ∀ (k : Nat) (d : DefR), ds[k]? = some d → FnFact c mg (i + k) d
  | [], _, _, k, d, h => by simp at h
  | e :: r, i, h, 0, d, q => by
    rw [List.getElem?_cons_zero] at q
    cases q
    exact h.1
  | e :: r, i, h, k + 1, d, q => by
    rw [List.getElem?_cons_succ] at q
    have z := FnAll.at h.2 k d q
    rw [show i + (k + 1) = i + 1 + k by omega]
    exact z
def KoFact (c : Rc) (mg : Str → Option Value) (x : Str) (v : PV) : Prop := ∃ u w, mg x = some u ∧ RelV w u ∧ ∀ f n H, RV c f n H v w
def KoAll (c : Rc) (mg : Str → Option Value) : List (Str × PV) → Prop
  | [] => True
  | p :: r => KoFact c mg p.1 p.2 ∧ KoAll c mg r
theorem KoAll.at : ∀ {l : List (Str × PV)}, KoAll c mg l → ∀ x v, l.lookup x = some v → KoFact c mg x v
  | [], _, x, v, h => by cases h
  | p :: r, h, x, v, q => by
    obtain ⟨y, u⟩ := p
    rw [List.lookup_cons] at q
    split at q
    · rename_i e
      cases q
      have e : x = y := by simpa using e
      subst e
      exact h.1
    · exact KoAll.at h.2 x v q
theorem ko_int {x : Str} {i : Int} {t : Tok} (h : mg x = some (.int i t)) : KoFact c mg x (.int i) := ⟨.int i t, .int i, h, ⟨t, rfl⟩, fun f n H => .int i⟩
def NoAll (mg : Str → Option Value) : List Str → Prop
  | [] => True
  | x :: r => mg x = none ∧ NoAll mg r
theorem NoAll.at : ∀ {l : List Str}, NoAll mg l → ∀ x, l.contains x = true → mg x = none
  | [], _, x, h => by cases h
  | y :: r, h, x, q => by
    have q : x ∈ y :: r := List.mem_of_elem_eq_true q
    rcases List.mem_cons.mp q with e | q
    · rw [e]; exact h.1
    · exact NoAll.at h.2 x (List.elem_eq_true_of_mem q)
structure ClAll (c : Rc) (mg : Str → Option Value) (T : Txt) : Prop where
  cl : ClF c c.K T.flds
  cls : ∀ x cl k ar, T.cls.lookup x = some (cl, k, ar) → c.isC cl = true ∧ mg x = some (.ref (c.L cl)) ∧ Mk c.K (c.L cl) (c.F k) ∧ ∃ d, T.defs[k]? = some d ∧ ar = d.ps.length
  mts : ∀ m tab ar, T.mts.lookup m = some (tab, ar) → ∀ cl k, tab.lookup cl = some k → c.isC cl = true → Meth c.K (c.L cl) m (c.F k) ∧ ∃ d, T.defs[k]? = some d ∧ ar = d.ps.length
  cls0 : ∀ x cl, T.cls0.lookup x = some cl → c.isC cl = true ∧ mg x = some (.ref (c.L cl)) ∧ Mk0 c.K (c.L cl)
theorem ClAll.no {T : Txt} (h1 : T.cls = []) (h2 : T.mts = []) (h3 : ∀ i, c.isC i = false) (h4 : T.cls0 = [] := by rfl) : ClAll c mg T :=
  ⟨⟨fun i h => (by rw [h3] at h; cases h), fun i x h => (by rw [h3] at h; cases h)⟩, fun x cl k ar h => (by rw [h1] at h; cases h), fun m tab ar h => (by rw [h2] at h; cases h), fun x cl h => (by rw [h4] at h; cases h)⟩
theorem facts_of {T : Txt} (h1 : FnAll c mg 0 T.defs) (h2 : KoAll c mg T.consts) (h3 : NoAll mg T.nob) (h4 : ExAll c c.K mg T.excs T.exb) (hc : ClAll c mg T) (h5 : T.lamd ≠ "" → ∀ (k : Nat) (d : DefR) (fd : FuncData), T.defs[k]? = some d → d.x = T.lamd → Fun c.K d.x d.q d.st (c.F k) fd → fd.code = .ref c.cd ∧ (envOfC d.q (defScope d.st) 0 (c.F k) fd.code).qual ++ "<lambda>" = c.lq := by exact fun z => absurd rfl z) (hks : T.ks = true → c.gd = true := by first | exact fun _ => rfl | exact fun z => absurd z Bool.false_ne_true) (hng : T.lamd ≠ "" → c.gd = false := by first | exact fun _ => rfl | exact fun z => absurd rfl z) : Facts c mg T := ⟨fun k d hd => by
    have z := h1.at k d hd
    rw [Nat.zero_add] at z
    exact z, h2.at, h3.at, h4, h5, hc.cl, hc.cls, hc.mts, hc.cls0, hks, hng⟩
def IsAll (T : Txt) : List DefR → List Def → Prop
  | [], _ => True
  | d :: r, q :: qs => (cDef T d = some q ∧ scopeB d = true) ∧ IsAll T r qs
  | _ :: _, [] => False
theorem IsAll.at {T : Txt} : ∀ {ds : List DefR} {qs : List Def}, IsAll T ds qs → ∀ (k : Nat) (d : DefR), ds[k]? = some d → ∃ q : Def, qs[k]? = some q ∧ cDef T d = some q ∧ scopeB d = true
  | [], _, _, k, d, h => by simp at h
  | e :: r, [], h, _, _, _ => h.elim
  | e :: r, q :: qs, h, 0, d, z => by
    rw [List.getElem?_cons_zero] at z
    cases z
    exact ⟨q, rfl, h.1.1, h.1.2⟩
  | e :: r, q :: qs, h, k + 1, d, z => by
    rw [List.getElem?_cons_succ] at z
    obtain ⟨q', h1, h2⟩ := IsAll.at h.2 k d z
    exact ⟨q', by rw [List.getElem?_cons_succ]; exact h1, h2⟩
theorem is_of {T : Txt} {P : Prg} (h : IsAll T T.defs P) (hl : (show List Def from P).length = T.defs.length) (hb : Nat.ble (show List Def from P).length xbig = true := by rfl) : Is T P := ⟨fun k d hd => let ⟨q, h1, h2, _⟩ := h.at k d hd; ⟨q, h1, h2⟩, fun k d hd => let ⟨_, _, _, h3⟩ := h.at k d hd; h3, hl, Nat.le_of_ble_eq_true hb⟩
def okR : R PV → Bool
  | .ok (.bl b) _ => b
  | _ => false
theorem okR_is {r : R PV} (h : okR r = true) : ∃ h', r = .ok (.bl true) h' := by
  unfold okR at h
  split at h
  · cases h
    exact ⟨_, rfl⟩
  · cases h
end
end Pyx

namespace Pyx
open PySem L2
def Ok {α : Type} (r : R α) (Q : α → PH → Prop) : Prop := match r with
  | .ok a h => Q a h
  | .stuck => False
theorem Ok.mono {α : Type} {r : R α} {Q Q' : α → PH → Prop} (p : Ok r Q) (k : ∀ a h, Q a h → Q' a h) : Ok r Q' := by
  cases r with
  | ok a h => exact k a h p
  | stuck => exact p
def OkS (r : R FR) (N : PSt → PH → Prop) (T : PV → PH → Prop) (B C : PSt → PH → Prop) : Prop := match r with
  | .ok (.nx st) h => N st h
  | .ok (.rt v) h => T v h
  | .ok (.bk st) h => B st h
  | .ok (.ct st) h => C st h
  | .stuck => False
theorem OkS.mono {r : R FR} {N N' B B' C C' : PSt → PH → Prop} {T T' : PV → PH → Prop} (p : OkS r N T B C) (k1 : ∀ a h, N a h → N' a h) (k2 : ∀ a h, T a h → T' a h) (k3 : ∀ a h, B a h → B' a h) (k4 : ∀ a h, C a h → C' a h) : OkS r N' T' B' C' := by
  cases r with
  | ok a h =>
    cases a with
    | nx st => exact k1 _ _ p
    | rt v => exact k2 _ _ p
    | bk st => exact k3 _ _ p
    | ct st => exact k4 _ _ p
  | stuck => exact p
section
variable {call : Nat → List PV → PH → R PV} {n : Nat} {rec : CE → PSt → PH → R PV} {st : PSt} {h : PH} {Q : PV → PH → Prop} {a b d : CE}
variable {QB : Bool → PH → Prop} {s t : CB}
variable {QI : IV → PH → Prop}
variable {N B C : PSt → PH → Prop} {T : PV → PH → Prop} {recS : CS → PSt → PH → R FR}
end
section
variable {call : Nat → List PV → PH → R PV} {n : Nat} {rec : CE → PSt → PH → R PV} {st : PSt} {h : PH} {Q : PV → PH → Prop} {b : CE}
end
def core (q : Def) : Nat × Nat × List CS := (q.ar, q.sz, q.body)
def At (P : Prg) (k : Nat) (c : Def) : Prop := Nat.blt k xbig = true ∧ ((show List Def from P)[k]?).map core = some (core c)
def AtX (P : Prg) (k : Nat) (c : Def) : Prop := Nat.ble (show List Def from P).length xbig = true ∧ (show List Def from P)[k]? = some c
theorem AtX.at {P : Prg} {k : Nat} {c : Def} (e : AtX P k c) : At P k c := by
  obtain ⟨e1, e2⟩ := e
  have h1 := (List.getElem?_eq_some_iff.mp e2).1
  have h2 := Nat.le_of_ble_eq_true e1
  exact ⟨Nat.ble_eq_true_of_le (Nat.lt_of_lt_of_le h1 h2), by rw [e2]; rfl⟩
section
variable {rec : CS → PSt → PH → R FR} {xr : XS → PSt → PH → R PV} {ev : CE → PSt → PH → R PV} {s : CS} {ss : List CS} {x : XS} {xs : List XS} {st : PSt} {h : PH} {Q : PV → PH → Prop} {m n : Nat} {call : Nat → List PV → PH → R PV}
end
end Pyx

namespace Pyx
open PySem L2
def Wf (h : PH) : Prop := h.os.length = h.n
def RowAt (h : PH) (i : Nat) : Prop := ∃ (ns : List Int) (q s r : Int), h.get 0 = some (.fz (ns.map PV.int)) ∧ h.get i = some (.lst [.ref 0, .int q, .int s, .int r]) ∧ 0 ≤ q
structure Le (p : Option Nat) (h h' : PH) : Prop where
  wf : Wf h'
  n : h.n ≤ h'.n
  get : ∀ i o, p ≠ some i → h.get i = some o → h'.get i = some o
  row : ∀ i, p = some i → RowAt h i → RowAt h' i
section
variable {p : Option Nat} {h h0 h1 h2 : PH}
theorem Le.refl (w : Wf h) : Le p h h := ⟨w, Nat.le_refl _, fun _ _ _ e => e, fun _ _ e => e⟩
theorem Le.trans (a : Le p h h1) (b : Le p h1 h2) : Le p h h2 := ⟨b.wf, Nat.le_trans a.n b.n, fun i o k e => b.get i o k (a.get i o k e), fun i k r => b.row i k (a.row i k r)⟩
theorem Le.weak (a : Le none h h1) : Le p h h1 := ⟨a.wf, a.n, fun i o _ e => a.get i o (by intro z; cases z) e, fun i _ ⟨ns, q, s, r, e1, e2, e3⟩ => ⟨ns, q, s, r, a.get _ _ (by intro z; cases z) e1, a.get _ _ (by intro z; cases z) e2, e3⟩⟩
theorem wf_push {o : PO} (w : Wf h) : Wf (h.push o) := by
  unfold Wf PH.push at *
  rw [List.length_cons, w]
theorem wf_set {o : PO} {i : Nat} (w : Wf h) : Wf (h.set i o) := by
  unfold Wf PH.set at *
  dsimp only
  rw [List.length_set, w]
theorem get_old {o : PO} {i : Nat} {u : PO} (e : h.get i = some u) : (h.push o).get i = some u := by
  rw [get_push, if_neg (Nat.ne_of_lt (get_lt e))]
  exact e
theorem Le.push (w : Wf h) {o : PO} : Le p h (h.push o) := Le.weak ⟨wf_push w, Nat.le_succ _, fun i u _ e => get_old e, fun i k _ => by cases k⟩
theorem get_of_set {i j : Nat} {o u v : PO} (w : Wf h) (e : h.get i = some u) (e2 : h.get j = some v) (ne : j ≠ i) : (h.set i o).get j = some v := by
  rw [get_set w (get_lt e), if_neg ne]
  exact e2
theorem Le.set (a : Le p h0 h) {i : Nat} {o u : PO} (hi : h0.n ≤ i) (e : h.get i = some u) : Le p h0 (h.set i o) := by
  refine ⟨wf_set a.wf, a.n, fun j v k ej => get_of_set a.wf e (a.get j v k ej) (fun z => ?_), fun j k ⟨ns, q, s, r, e1, e2, e3⟩ => ?_⟩
  · subst z
    exact absurd (get_lt ej) (Nat.not_lt.mpr hi)
  · obtain ⟨ns', q', s', r', f1, f2, f3⟩ := a.row j k ⟨ns, q, s, r, e1, e2, e3⟩
    refine ⟨ns', q', s', r', get_of_set a.wf e f1 (fun z => ?_), get_of_set a.wf e f2 (fun z => ?_), f3⟩
    · subst z
      exact absurd (get_lt e1) (Nat.not_lt.mpr hi)
    · subst z
      exact absurd (get_lt e2) (Nat.not_lt.mpr hi)
end
section
variable {h : PH} {Q : PV → PH → Prop} {i j : Int}
end
def rng (lo : Int) (n : Nat) : List PV := (List.range n).map fun k => .int (lo + (k : Nat))
end Pyx

namespace Pyx
open PySem L2
def cf_is_in (ix : Nat → Nat) : Def := { ar := 3, sz := 3, body := [(.ret (.and (.isi (.var 0) .int) (.and (.not (.isi (.var 0) .bool)) (.chain .le .le (.var 1) (.var 0) (.var 2)))))] }
def cf_need_line (ix : Nat → Nat) : Def := { ar := 1, sz := 7, body := [(.ite (.or (.not (.val (.isi (.var 0) .tuple))) (.or (.bl (.cmp .ne (.bi .len [(.var 0)]) (.val (.int 3)))) (.not (.val (.isi (.ix (.var 0) (.val (.int 2))) .bool))))) [.stuck] []), (.asg (.tup [(.nm 1), (.nm 2), (.nm 3)]) (.var 0)), (.asg (.nm 4) (.ite (.val (.var 3)) (.val (.int 3)) (.val (.int 1)))), (.ite (.or (.not (.val (.isi (.var 1) .tuple))) (.not (.bl (.chain .le .le (.var 4) (.bi .len [(.var 1)]) (.val (.int 40)))))) [.stuck] []), (.for (.tup [(.nm 5), (.nm 6)]) (.enum (.var 1)) [(.ite (.not (.val (.call (ix 0) [(.var 6), (.val (.int 0)), (.val (.int 9))]))) [.stuck] [])]), (.ite (.not (.val (.call (ix 2) [(.bi .len [(.var 1)]), (.var 2)]))) [.stuck] [])] }
def cf_is_cells (ix : Nat → Nat) : Def := { ar := 2, sz := 3, body := [(.ite (.or (.not (.val (.isi (.var 1) .tuple))) (.bl (.cmp .ne (.lc (.over (.var 1)) (.nm 2) [2] (some (.not (.val (.call (ix 0) [(.var 2), (.val (.int 0)), (.bin .sub (.var 0) (.val (.int 1)))])))) (.var 2)) (.lst [])))) [(.ret (.val (.bl false)))] []), (.ret (.cmp .eq (.bi .list [(.var 1)]) (.bi .sorted [(.bi .set [(.var 1)])])))] }
def cf_need_cell (ix : Nat → Nat) : Def := { ar := 2, sz := 2, body := [(.ite (.not (.val (.call (ix 0) [(.var 1), (.val (.int 0)), (.bin .sub (.bi .len [(.ix (.var 0) (.val (.int 0)))]) (.val (.int 1)))]))) [.stuck] [])] }
def cf_held_in (ix : Nat → Nat) : Def := { ar := 1, sz := 5, body := [(.asg (.tup [(.nm 1), (.nm 2), (.nm 3)]) (.var 0)), (.asg (.nm 4) (.ite (.val (.var 3)) (.lst []) (.lst [(.val (.int 0)), (.bin .sub (.bi .len [(.var 1)]) (.val (.int 1)))]))), (.ret (.bi .sorted [(.bi .set [(.bin .add (.bi .list [(.var 2)]) (.var 4))])]))] }
def cf_flanks (ix : Nat → Nat) : Def := { ar := 2, sz := 2, body := [(.ret (.tup [(.bin .mod (.bin .sub (.var 1) (.val (.int 1))) (.var 0)), (.bin .mod (.bin .add (.var 1) (.val (.int 1))) (.var 0))]))] }
def cf_is_flanked (ix : Nat → Nat) : Def := { ar := 2, sz := 4, body := [(.asg (.tup [(.nm 2), (.nm 3)]) (.call (ix 5) [(.bi .len [(.var 0)]), (.var 1)])), (.ret (.chain .eq .ne (.ix (.var 0) (.var 2)) (.ix (.var 0) (.var 3)) (.ix (.var 0) (.var 1))))] }
def cf_ready_in (ix : Nat → Nat) : Def := { ar := 1, sz := 3, body := [(.asg (.nm 1) (.call (ix 4) [(.var 0)])), (.ret (.lc (.rng1 (.bi .len [(.ix (.var 0) (.val (.int 0)))])) (.nm 2) [2] (some (.and (.bl (.isin true (.var 2) (.var 1))) (.val (.call (ix 6) [(.ix (.var 0) (.val (.int 0))), (.var 2)])))) (.var 2)))] }
def cf_with_turned (ix : Nat → Nat) : Def := { ar := 2, sz := 4, body := [(.asg (.nm 2) (.bi .list [(.var 0)])), (.for (.nm 3) (.over (.var 1)) [(.setix (.var 2) (.var 3) (.ix (.var 0) (.bin .sub (.var 3) (.val (.int 1)))))]), (.ret (.bi .tuple [(.var 2)]))] }
def cf_swings_in (ix : Nat → Nat) : Def := { ar := 1, sz := 1, body := [(.ret (.and (.ix (.var 0) (.val (.int 2))) (.cmp .eq (.bi .len [(.call (ix 7) [(.var 0)])]) (.bi .len [(.ix (.var 0) (.val (.int 0)))]))))] }
def cf_stretches_in (ix : Nat → Nat) : Def := { ar := 1, sz := 6, body := [(.par 1 2 (.call (ix 7) [(.var 0)]) (.bi .len [(.ix (.var 0) (.val (.int 0)))])), (.asg (.nm 3) (.lst [])), (.for (.nm 4) (.over (.var 1)) [(.ite (.bl (.isin true (.bin .mod (.bin .sub (.var 4) (.val (.int 1))) (.var 2)) (.var 1))) [(.asg (.nm 5) (.lst [(.bin .mod (.bin .sub (.var 4) (.val (.int 1))) (.var 2)), (.var 4)])), (.while (.bl (.isin false (.ix (.var 5) (.neg (.val (.int 1)))) (.var 1))) [(.expr (.mt .append (.var 5) [(.bin .mod (.bin .add (.ix (.var 5) (.neg (.val (.int 1)))) (.val (.int 1))) (.var 2))]))]), (.expr (.mt .append (.var 3) [(.bi .tuple [(.var 5)])]))] [])]), (.ret (.bi .sorted [(.var 3)]))] }
def cf_need_resting (ix : Nat → Nat) : Def := { ar := 1, sz := 1, body := [(.expr (.call (ix 1) [(.var 0)])), (.ite (.val (.call (ix 11) [(.var 0)])) [.stuck] [])] }
def cf__law_alike (ix : Nat → Nat) : Def := { ar := 2, sz := 3, body := [(.ite (.val (.isis (.var 1) .tuple .list)) [(.ite (.or (.not (.val (.isis (.var 0) .tuple .list))) (.bl (.cmp .ne (.isi (.var 0) .list) (.isi (.var 1) .list)))) [(.ret (.val (.bl false)))] []), (.ite (.bl (.cmp .ne (.bi .len [(.var 0)]) (.bi .len [(.var 1)]))) [(.ret (.val (.bl false)))] []), (.ret (.cmp .eq (.lc (.rng1 (.bi .len [(.var 1)])) (.nm 2) [2] (some (.not (.val (.call (ix 45) [(.ix (.var 0) (.var 2)), (.ix (.var 1) (.var 2))])))) (.var 2)) (.lst [])))] []), (.ite (.or (.bl (.cmp .is (.var 1) (.val .non))) (.val (.isi (.var 1) .str))) [(.ret (.and (.cmp .eq (.var 0) (.var 1)) (.cmp .eq (.isi (.var 0) .str) (.isi (.var 1) .str))))] []), (.ret (.and (.isi (.var 0) .int) (.and (.cmp .eq (.isi (.var 0) .bool) (.isi (.var 1) .bool)) (.cmp .eq (.var 0) (.var 1)))))] }
def cf_is_colours (ix : Nat → Nat) : Def := { ar := 2, sz := 3, body := [(.ite (.or (.not (.val (.isi (.var 1) .tuple))) (.bl (.cmp .ne (.bi .len [(.var 1)]) (.bi .len [(.ix (.var 0) (.val (.int 0)))])))) [(.ret (.val (.bl false)))] []), (.ret (.cmp .eq (.lc (.over (.var 1)) (.nm 2) [2] (some (.not (.val (.call (ix 0) [(.var 2), (.val (.int 0)), (.val (.int 9))])))) (.var 2)) (.lst [])))] }
def cf_need_colours_of (ix : Nat → Nat) : Def := { ar := 2, sz := 2, body := [(.expr (.call (ix 1) [(.var 0)])), (.ite (.not (.val (.call (ix 46) [(.var 0), (.var 1)]))) [.stuck] [])] }
def cf_insides (ix : Nat → Nat) : Def := { ar := 1, sz := 2, body := [(.ret (.lc (.over (.call (ix 13) [(.var 0)])) (.nm 1) [1] none (.bi .list [(.sl (.var 1) (some (.val (.int 1))) (some (.neg (.val (.int 1)))))])))] }
def cf_turned_cells (ix : Nat → Nat) : Def := { ar := 2, sz := 6, body := [(.par3 2 3 4 (.call (ix 7) [(.var 0)]) (.bi .len [(.ix (.var 0) (.val (.int 0)))]) (.lst [])), (.for (.nm 5) (.rng1 (.var 3)) [(.ite (.bl (.cmp .ne (.ix (.var 1) (.var 5)) (.ix (.ix (.var 0) (.val (.int 0))) (.var 5)))) [(.ite (.or (.bl (.isin true (.var 5) (.var 2))) (.bl (.cmp .ne (.ix (.var 1) (.var 5)) (.ix (.ix (.var 0) (.val (.int 0))) (.bin .sub (.var 5) (.val (.int 1))))))) [(.ret (.val .non))] []), (.expr (.mt .append (.var 4) [(.var 5)]))] [])]), (.for (.nm 5) (.over (.var 4)) [(.ite (.bl (.isin false (.ix (.call (ix 5) [(.var 3), (.var 5)]) (.val (.int 0))) (.var 4))) [(.ret (.val .non))] [])]), (.ret (.var 4))] }
def cf_is_full (ix : Nat → Nat) : Def := { ar := 2, sz := 6, body := [(.asg (.nm 2) (.bi .len [(.ix (.var 0) (.val (.int 0)))])), (.for (.nm 3) (.over (.call (ix 7) [(.var 0)])) [(.asg (.tup [(.nm 4), (.nm 5)]) (.call (ix 5) [(.var 2), (.var 3)])), (.ite (.and (.bl (.isin true (.var 3) (.var 1))) (.and (.bl (.isin true (.var 4) (.var 1))) (.bl (.isin true (.var 5) (.var 1))))) [(.ret (.val (.bl false)))] [])]), (.ret (.val (.bl true)))] }
def cf_can_come (ix : Nat → Nat) : Def := { ar := 2, sz := 2, body := [(.expr (.call (ix 47) [(.var 0), (.var 1)])), (.ret (.cmp .nis (.call (ix 49) [(.var 0), (.var 1)]) (.val .non)))] }
def cf_is_end_in (ix : Nat → Nat) : Def := { ar := 2, sz := 3, body := [(.asg (.nm 2) (.call (ix 49) [(.var 0), (.var 1)])), (.ret (.and (.cmp .nis (.var 2) (.val .non)) (.call (ix 50) [(.var 0), (.var 2)])))] }
def cf_is_end (ix : Nat → Nat) : Def := { ar := 2, sz := 2, body := [(.expr (.call (ix 47) [(.var 0), (.var 1)])), (.ret (.call (ix 52) [(.var 0), (.var 1)]))] }
def cf_added (ix : Nat → Nat) : Def := { ar := 2, sz := 7, body := [(.asg (.nm 2) (.bi .max [(.bi .len [(.var 0)]), (.bi .len [(.var 1)])])), (.par 3 4 (.bin .add (.var 0) (.bin .mul (.lst [(.val (.int 0))]) (.bin .sub (.var 2) (.bi .len [(.var 0)])))) (.bin .add (.var 1) (.bin .mul (.lst [(.val (.int 0))]) (.bin .sub (.var 2) (.bi .len [(.var 1)]))))), (.ret (.lc (.zip (.var 3) (.var 4)) (.tup [(.nm 5), (.nm 6)]) [5, 6] none (.bin .add (.var 5) (.var 6))))] }
def cf_multiplied (ix : Nat → Nat) : Def := { ar := 2, sz := 7, body := [(.asg (.nm 2) (.bin .mul (.lst [(.val (.int 0))]) (.bin .sub (.bin .add (.bi .len [(.var 0)]) (.bi .len [(.var 1)])) (.val (.int 1))))), (.for (.tup [(.nm 3), (.nm 4)]) (.enum (.var 0)) [(.for (.tup [(.nm 5), (.nm 6)]) (.enum (.var 1)) [(.augix (.var 2) (.bin .add (.var 3) (.var 5)) .add (.bin .mul (.var 4) (.var 6)))])]), (.ret (.var 2))] }
def cf_path_sets (ix : Nat → Nat) : Def := { ar := 1, sz := 2, body := [(.asg (.nm 1) (.lst [(.lst [(.val (.int 1))]), (.lst [(.val (.int 1)), (.val (.int 1))])])), (.while (.bl (.cmp .le (.bi .len [(.var 1)]) (.var 0))) [(.expr (.mt .append (.var 1) [(.call (ix 54) [(.ix (.var 1) (.neg (.val (.int 1)))), (.bin .add (.lst [(.val (.int 0))]) (.ix (.var 1) (.neg (.val (.int 2)))))])]))]), (.ret (.ix (.var 1) (.var 0)))] }
def cf_path_ends (ix : Nat → Nat) : Def := { ar := 1, sz := 2, body := [(.asg (.nm 1) (.lst [(.lst [(.val (.int 1))]), (.lst [(.val (.int 0)), (.val (.int 1))]), (.lst [(.val (.int 0)), (.val (.int 2))])])), (.while (.bl (.cmp .le (.bi .len [(.var 1)]) (.var 0))) [(.expr (.mt .append (.var 1) [(.call (ix 54) [(.bin .add (.lst [(.val (.int 0))]) (.ix (.var 1) (.neg (.val (.int 2))))), (.bin .add (.lst [(.val (.int 0))]) (.ix (.var 1) (.neg (.val (.int 3)))))])]))]), (.ret (.ix (.var 1) (.var 0)))] }
def cf_ring_sets (ix : Nat → Nat) : Def := { ar := 1, sz := 1, body := [(.ret (.call (ix 54) [(.call (ix 56) [(.bin .sub (.var 0) (.val (.int 1)))]), (.bin .add (.lst [(.val (.int 0))]) (.call (ix 56) [(.bin .sub (.var 0) (.val (.int 3)))]))]))] }
def cf_ring_ends (ix : Nat → Nat) : Def := { ar := 1, sz := 3, body := [(.asg (.nm 1) (.disp [(.val (.int 3)), (.val (.int 4)), (.val (.int 5))] [(.lst [(.val (.int 0)), (.val (.int 3))]), (.lst [(.val (.int 0)), (.val (.int 0)), (.val (.int 2))]), (.lst [(.val (.int 0)), (.val (.int 0)), (.val (.int 5))])])), (.for (.nm 2) (.rng2 (.val (.int 6)) (.bin .add (.var 0) (.val (.int 1)))) [(.setix (.var 1) (.var 2) (.call (ix 54) [(.bin .add (.lst [(.val (.int 0))]) (.ix (.var 1) (.bin .sub (.var 2) (.val (.int 2))))), (.bin .add (.lst [(.val (.int 0))]) (.ix (.var 1) (.bin .sub (.var 2) (.val (.int 3)))))]))]), (.ret (.ix (.var 1) (.var 0)))] }
def cf_by_turns (ix : Nat → Nat) : Def := { ar := 3, sz := 5, body := [(.ite (.val (.call (ix 11) [(.var 0)])) [(.ret (.callv 2 [(.bi .len [(.ix (.var 0) (.val (.int 0)))])]))] []), (.asg (.nm 3) (.lst [(.val (.int 1))])), (.for (.nm 4) (.over (.call (ix 48) [(.var 0)])) [(.asg (.nm 3) (.call (ix 55) [(.var 3), (.callv 1 [(.bi .len [(.var 4)])])]))]), (.ret (.var 3))] }
def cf_trimmed (ix : Nat → Nat) : Def := { ar := 1, sz := 2, body := [(.asg (.nm 1) (.bi .list [(.var 0)])), (.while (.bl (.cmp .eq (.ix (.var 1) (.neg (.val (.int 1)))) (.val (.int 0)))) [(.expr (.mt .pop (.var 1) []))]), (.ret (.bi .tuple [(.var 1)]))] }
def cf_comes_by_turns (ix : Nat → Nat) : Def := { ar := 1, sz := 1, body := [(.expr (.call (ix 1) [(.var 0)])), (.ret (.call (ix 61) [(.call (ix 60) [(.var 0), (.val (.fn (ix 56))), (.val (.fn (ix 58)))])]))] }
def cf_ends_by_turns (ix : Nat → Nat) : Def := { ar := 1, sz := 1, body := [(.expr (.call (ix 1) [(.var 0)])), (.ret (.call (ix 61) [(.call (ix 60) [(.var 0), (.val (.fn (ix 57))), (.val (.fn (ix 59)))])]))] }
def cf_come_count (ix : Nat → Nat) : Def := { ar := 1, sz := 1, body := [(.expr (.call (ix 1) [(.var 0)])), (.ret (.bi .sum [(.call (ix 60) [(.var 0), (.val (.fn (ix 56))), (.val (.fn (ix 58)))])]))] }
def cf_end_count (ix : Nat → Nat) : Def := { ar := 1, sz := 1, body := [(.expr (.call (ix 1) [(.var 0)])), (.ret (.bi .sum [(.call (ix 60) [(.var 0), (.val (.fn (ix 57))), (.val (.fn (ix 59)))])]))] }
def cf_all_ends (ix : Nat → Nat) : Def := { ar := 1, sz := 6, body := [(.asg (.tup [(.nm 1), (.nm 2)]) (.tup [(.lst [(.lst [])]), (.call (ix 7) [(.var 0)])])), (.for (.nm 3) (.over (.var 2)) [(.asg (.nm 4) (.lst [])), (.for (.nm 5) (.over (.var 1)) [(.expr (.mt .append (.var 4) [(.var 5)])), (.ite (.and (.bl (.isin true (.ix (.call (ix 5) [(.bi .len [(.ix (.var 0) (.val (.int 0)))]), (.var 3)]) (.val (.int 0))) (.var 5))) (.bl (.isin true (.ix (.call (ix 5) [(.bi .len [(.ix (.var 0) (.val (.int 0)))]), (.var 3)]) (.val (.int 1))) (.var 5)))) [(.expr (.mt .append (.var 4) [(.bin .add (.var 5) (.lst [(.var 3)]))]))] [])]), (.asg (.nm 1) (.lc (.over (.var 4)) (.nm 5) [5] (some (.val (.call (ix 67) [(.var 0), (.var 2), (.var 5), (.var 3)]))) (.var 5)))]), (.ret (.bi .sorted [(.lc (.over (.var 1)) (.nm 5) [5] (some (.val (.call (ix 50) [(.var 0), (.var 5)]))) (.call (ix 9) [(.ix (.var 0) (.val (.int 0))), (.var 5)]))]))] }
def cf_is_hopeful (ix : Nat → Nat) : Def := { ar := 4, sz := 8, body := [(.asg (.nm 4) (.bi .len [(.ix (.var 0) (.val (.int 0)))])), (.for (.nm 5) (.over (.var 1)) [(.asg (.tup [(.nm 6), (.nm 7)]) (.call (ix 5) [(.var 4), (.var 5)])), (.ite (.and (.bl (.cmp .lt (.var 5) (.var 3))) (.and (.bl (.cmp .le (.var 7) (.var 3))) (.and (.bl (.isin true (.var 5) (.var 2))) (.and (.bl (.isin true (.var 6) (.var 2))) (.and (.bl (.isin true (.var 7) (.var 2))) (.bl (.cmp .lt (.var 6) (.var 5)))))))) [(.ret (.val (.bl false)))] [])]), (.ret (.val (.bl true)))] }
def cf_ends (ix : Nat → Nat) : Def := { ar := 1, sz := 1, body := [(.expr (.call (ix 1) [(.var 0)])), (.ite (.bl (.cmp .gt (.bi .sum [(.call (ix 60) [(.var 0), (.val (.fn (ix 57))), (.val (.fn (ix 59)))])]) (.val (.int 2000)))) [.stuck] []), (.ret (.call (ix 66) [(.var 0)]))] }
def cf_fewest_turns (ix : Nat → Nat) : Def := { ar := 1, sz := 3, body := [(.expr (.call (ix 1) [(.var 0)])), (.asg (.nm 1) (.call (ix 60) [(.var 0), (.val (.fn (ix 57))), (.val (.fn (ix 59)))])), (.ret (.ix (.lc (.rng1 (.bi .len [(.var 1)])) (.nm 2) [2] (some (.bl (.cmp .gt (.ix (.var 1) (.var 2)) (.val (.int 0))))) (.var 2)) (.val (.int 0))))] }
def cf_most_turns (ix : Nat → Nat) : Def := { ar := 1, sz := 1, body := [(.expr (.call (ix 1) [(.var 0)])), (.ret (.bin .sub (.bi .len [(.call (ix 61) [(.call (ix 60) [(.var 0), (.val (.fn (ix 57))), (.val (.fn (ix 59)))])])]) (.val (.int 1))))] }
def cf_factorial (ix : Nat → Nat) : Def := { ar := 1, sz := 3, body := [(.asg (.nm 1) (.val (.int 1))), (.for (.nm 2) (.rng2 (.val (.int 2)) (.bin .add (.var 0) (.val (.int 1)))) [(.augn 1 .mul (.var 2))]), (.ret (.var 1))] }
def cf_ways_to (ix : Nat → Nat) : Def := { ar := 2, sz := 3, body := [(.expr (.call (ix 47) [(.var 0), (.var 1)])), (.asg (.nm 2) (.call (ix 49) [(.var 0), (.var 1)])), (.ret (.ite (.bl (.cmp .is (.var 2) (.val .non))) (.val (.int 0)) (.call (ix 71) [(.bi .len [(.var 2)])])))] }
def cf_ways_in_all (ix : Nat → Nat) : Def := { ar := 1, sz := 3, body := [(.expr (.call (ix 1) [(.var 0)])), (.ret (.bi .sum [(.lc (.enum (.call (ix 60) [(.var 0), (.val (.fn (ix 57))), (.val (.fn (ix 59)))])) (.tup [(.nm 1), (.nm 2)]) [1, 2] none (.bin .mul (.call (ix 71) [(.var 1)]) (.var 2)))]))] }
def cf_end_with (ix : Nat → Nat) : Def := { ar := 2, sz := 4, body := [(.expr (.call (ix 1) [(.var 0)])), (.ite (.not (.val (.call (ix 0) [(.var 1), (.val (.int 0)), (.val (.int 40))]))) [.stuck] []), (.ite (.bl (.cmp .gt (.bi .sum [(.call (ix 60) [(.var 0), (.val (.fn (ix 57))), (.val (.fn (ix 59)))])]) (.val (.int 2000)))) [.stuck] []), (.asg (.nm 2) (.lc (.over (.call (ix 66) [(.var 0)])) (.nm 3) [3] (some (.bl (.cmp .eq (.bi .len [(.call (ix 49) [(.var 0), (.var 3)])]) (.var 1)))) (.var 3))), (.ret (.ite (.bl (.cmp .ne (.var 2) (.lst []))) (.ix (.var 2) (.val (.int 0))) (.val .non)))] }
def cf_is_rest_an_end (ix : Nat → Nat) : Def := { ar := 1, sz := 2, body := [(.expr (.call (ix 15) [(.var 0)])), (.ret (.cmp .eq (.lc (.over (.call (ix 13) [(.var 0)])) (.nm 1) [1] (some (.bl (.cmp .eq (.bin .mod (.bi .len [(.var 1)]) (.val (.int 4))) (.val (.int 0))))) (.var 1)) (.lst [])))] }
def cf_without_carry (ix : Nat → Nat) : Def := { ar := 2, sz := 4, body := [(.asg (.tup [(.nm 2), (.nm 3)]) (.tup [(.val (.int 0)), (.val (.int 1))])), (.while (.or (.bl (.cmp .gt (.var 0) (.val (.int 0)))) (.bl (.cmp .gt (.var 1) (.val (.int 0))))) [(.ite (.bl (.cmp .ne (.bin .mod (.var 0) (.val (.int 2))) (.bin .mod (.var 1) (.val (.int 2))))) [(.augn 2 .add (.var 3))] []), (.par3 0 1 3 (.bin .fdiv (.var 0) (.val (.int 2))) (.bin .fdiv (.var 1) (.val (.int 2))) (.bin .mul (.val (.int 2)) (.var 3)))]), (.ret (.var 2))] }
def cf_worth_of (ix : Nat → Nat) : Def := { ar := 1, sz := 4, body := [(.par 1 2 (.call (ix 100) [(.bi .max [(.bin .add (.var 0) (.lst [(.val (.int 0))]))])]) (.val (.int 0))), (.for (.nm 3) (.over (.var 0)) [(.asg (.nm 2) (.call (ix 89) [(.var 2), (.ix (.var 1) (.var 3))]))]), (.ret (.var 2))] }
def cf_paths_behind (ix : Nat → Nat) : Def := { ar := 2, sz := 8, body := [(.par 2 3 (.bi .len [(.ix (.var 0) (.val (.int 0)))]) (.call (ix 7) [(.var 0)])), (.asg (.tup [(.nm 4), (.nm 5)]) (.call (ix 5) [(.var 2), (.var 1)])), (.asg (.nm 6) (.lc (.over (.var 3)) (.nm 7) [7] (some (.bl (.isin true (.var 7) (.tup [(.var 1), (.var 4), (.var 5)])))) (.var 7))), (.ret (.call (ix 101) [(.var 0), (.var 6)]))] }
def cf_worth_in (ix : Nat → Nat) : Def := { ar := 1, sz := 2, body := [(.ite (.val (.call (ix 11) [(.var 0)])) [(.ret (.ite (.bl (.cmp .eq (.call (ix 94) [(.lst [(.bin .sub (.bi .len [(.ix (.var 0) (.val (.int 0)))]) (.val (.int 3)))])]) (.val (.int 0)))) (.val (.int 1)) (.val (.int 0))))] []), (.ret (.call (ix 94) [(.lc (.over (.call (ix 48) [(.var 0)])) (.nm 1) [1] none (.bi .len [(.var 1)]))]))] }
def cf_worth (ix : Nat → Nat) : Def := { ar := 1, sz := 1, body := [(.expr (.call (ix 1) [(.var 0)])), (.ret (.call (ix 96) [(.var 0)]))] }
def cf_last_hand (ix : Nat → Nat) : Def := { ar := 1, sz := 1, body := [(.expr (.call (ix 1) [(.var 0)])), (.ret (.cmp .ne (.call (ix 96) [(.var 0)]) (.val (.int 0))))] }
def cf_winning_cells (ix : Nat → Nat) : Def := { ar := 1, sz := 2, body := [(.expr (.call (ix 1) [(.var 0)])), (.ret (.bi .tuple [(.lc (.over (.call (ix 7) [(.var 0)])) (.nm 1) [1] (some (.bl (.cmp .eq (.call (ix 94) [(.call (ix 95) [(.var 0), (.var 1)])]) (.val (.int 0))))) (.var 1))]))] }
def cf_path_worths (ix : Nat → Nat) : Def := { ar := 1, sz := 6, body := [(.asg (.nm 1) (.lst [(.val (.int 0))])), (.for (.nm 2) (.rng2 (.val (.int 1)) (.bin .add (.var 0) (.val (.int 1)))) [(.asg (.nm 3) (.lc (.rng1 (.var 2)) (.nm 5) [5] none (.call (ix 89) [(.ix (.var 1) (.bi .max [(.val (.int 0)), (.bin .sub (.var 5) (.val (.int 1)))])), (.ix (.var 1) (.bi .max [(.val (.int 0)), (.bin .sub (.bin .sub (.var 2) (.var 5)) (.val (.int 2)))]))]))), (.asg (.nm 4) (.val (.int 0))), (.while (.bl (.isin false (.var 4) (.var 3))) [(.augn 4 .add (.val (.int 1)))]), (.expr (.mt .append (.var 1) [(.var 4)]))]), (.ret (.var 1))] }
def cf_paths_of (ix : Nat → Nat) : Def := { ar := 2, sz := 7, body := [(.par 2 3 (.bi .len [(.ix (.var 0) (.val (.int 0)))]) (.lst [])), (.for (.nm 4) (.over (.var 1)) [(.ite (.bl (.isin true (.ix (.call (ix 5) [(.var 2), (.var 4)]) (.val (.int 0))) (.var 1))) [(.par 5 6 (.var 4) (.val (.int 0))), (.while (.bl (.isin false (.var 5) (.var 1))) [(.par 5 6 (.ix (.call (ix 5) [(.var 2), (.var 5)]) (.val (.int 1))) (.bin .add (.var 6) (.val (.int 1))))]), (.expr (.mt .append (.var 3) [(.var 6)]))] [])]), (.ret (.var 3))] }
def cf_gcd (ix : Nat → Nat) : Def := { ar := 2, sz := 2, body := [(.par 0 1 (.bi .abs [(.var 0)]) (.bi .abs [(.var 1)])), (.while (.bl (.cmp .ne (.var 1) (.val (.int 0)))) [(.par 0 1 (.var 1) (.bin .mod (.var 0) (.var 1)))]), (.ret (.var 0))] }
def cf_reduced (ix : Nat → Nat) : Def := { ar := 2, sz := 3, body := [(.asg (.nm 2) (.call (ix 124) [(.var 0), (.var 1)])), (.ite (.bl (.cmp .lt (.var 1) (.val (.int 0)))) [(.asg (.nm 2) (.neg (.var 2)))] []), (.ret (.tup [(.bin .fdiv (.var 0) (.var 2)), (.bin .fdiv (.var 1) (.var 2))]))] }
def cf_plus (ix : Nat → Nat) : Def := { ar := 2, sz := 2, body := [(.ret (.call (ix 125) [(.bin .add (.bin .mul (.ix (.var 0) (.val (.int 0))) (.ix (.var 1) (.val (.int 1)))) (.bin .mul (.ix (.var 1) (.val (.int 0))) (.ix (.var 0) (.val (.int 1))))), (.bin .mul (.ix (.var 0) (.val (.int 1))) (.ix (.var 1) (.val (.int 1))))]))] }
def cf_times (ix : Nat → Nat) : Def := { ar := 2, sz := 2, body := [(.ret (.call (ix 125) [(.bin .mul (.ix (.var 0) (.val (.int 0))) (.ix (.var 1) (.val (.int 0)))), (.bin .mul (.ix (.var 0) (.val (.int 1))) (.ix (.var 1) (.val (.int 1))))]))] }
def cf_path_turns (ix : Nat → Nat) : Def := { ar := 1, sz := 12, body := [(.asg (.nm 1) (.lst [(.lst [(.tup [(.val (.int 1)), (.val (.int 1))])])])), (.for (.nm 2) (.rng2 (.val (.int 1)) (.bin .add (.var 0) (.val (.int 1)))) [(.asg (.nm 3) (.bin .mul (.lst [(.tup [(.val (.int 0)), (.val (.int 1))])]) (.bin .add (.var 2) (.val (.int 1))))), (.for (.nm 4) (.rng1 (.var 2)) [(.par 5 6 (.ix (.var 1) (.bi .max [(.val (.int 0)), (.bin .sub (.var 4) (.val (.int 1)))])) (.ix (.var 1) (.bi .max [(.val (.int 0)), (.bin .sub (.bin .sub (.var 2) (.var 4)) (.val (.int 2)))]))), (.for (.tup [(.nm 7), (.nm 8)]) (.enum (.var 5)) [(.for (.tup [(.nm 9), (.nm 10)]) (.enum (.var 6)) [(.asg (.nm 11) (.call (ix 127) [(.call (ix 127) [(.var 8), (.var 10)]), (.tup [(.val (.int 1)), (.var 2)])])), (.setix (.var 3) (.bin .add (.bin .add (.var 7) (.var 9)) (.val (.int 1))) (.call (ix 126) [(.ix (.var 3) (.bin .add (.bin .add (.var 7) (.var 9)) (.val (.int 1)))), (.var 11)]))])])]), (.while (.bl (.cmp .eq (.ix (.var 3) (.neg (.val (.int 1)))) (.tup [(.val (.int 0)), (.val (.int 1))]))) [(.expr (.mt .pop (.var 3) []))]), (.expr (.mt .append (.var 1) [(.var 3)]))]), (.ret (.var 1))] }
def cf_lots (ix : Nat → Nat) : Def := { ar := 1, sz := 2, body := [(.ite (.val (.call (ix 11) [(.var 0)])) [(.ret (.tup [(.lst [(.bin .sub (.bi .len [(.ix (.var 0) (.val (.int 0)))]) (.val (.int 3)))]), (.val (.int 1))]))] []), (.ret (.tup [(.lc (.over (.call (ix 48) [(.var 0)])) (.nm 1) [1] none (.bi .len [(.var 1)])), (.val (.int 0))]))] }
def cf_turns_in_chances (ix : Nat → Nat) : Def := { ar := 1, sz := 11, body := [(.asg (.tup [(.nm 1), (.nm 2)]) (.call (ix 129) [(.var 0)])), (.asg (.nm 3) (.call (ix 128) [(.bi .max [(.bin .add (.var 1) (.lst [(.val (.int 0))]))])])), (.asg (.nm 4) (.bin .add (.bin .mul (.lst [(.tup [(.val (.int 0)), (.val (.int 1))])]) (.var 2)) (.lst [(.tup [(.val (.int 1)), (.val (.int 1))])]))), (.for (.nm 5) (.over (.var 1)) [(.asg (.nm 6) (.bin .mul (.lst [(.tup [(.val (.int 0)), (.val (.int 1))])]) (.bin .sub (.bin .add (.bi .len [(.var 4)]) (.bi .len [(.ix (.var 3) (.var 5))])) (.val (.int 1))))), (.for (.tup [(.nm 7), (.nm 8)]) (.enum (.var 4)) [(.for (.tup [(.nm 9), (.nm 10)]) (.enum (.ix (.var 3) (.var 5))) [(.setix (.var 6) (.bin .add (.var 7) (.var 9)) (.call (ix 126) [(.ix (.var 6) (.bin .add (.var 7) (.var 9))), (.call (ix 127) [(.var 8), (.var 10)])]))])]), (.asg (.nm 4) (.var 6))]), (.ret (.var 4))] }
def cf_turns_chances (ix : Nat → Nat) : Def := { ar := 1, sz := 1, body := [(.expr (.call (ix 1) [(.var 0)])), (.ret (.bi .tuple [(.call (ix 130) [(.var 0)])]))] }
def cf_mean_turns (ix : Nat → Nat) : Def := { ar := 1, sz := 4, body := [(.expr (.call (ix 1) [(.var 0)])), (.asg (.nm 1) (.tup [(.val (.int 0)), (.val (.int 1))])), (.for (.tup [(.nm 2), (.nm 3)]) (.enum (.call (ix 130) [(.var 0)])) [(.asg (.nm 1) (.call (ix 126) [(.var 1), (.call (ix 127) [(.tup [(.var 2), (.val (.int 1))]), (.var 3)])]))]), (.ret (.var 1))] }
def cf_path_chance (ix : Nat → Nat) : Def := { ar := 3, sz := 5, body := [(.ite (.bl (.isin true (.tup [(.var 0), (.var 1)]) (.var 2))) [(.asg (.nm 3) (.tup [(.val (.int 1)), (.val (.int 1))])), (.for (.nm 4) (.rng1 (.var 0)) [(.ite (.bl (.cmp .lt (.var 4) (.bin .sub (.var 1) (.val (.int 1))))) [(.asg (.nm 3) (.call (ix 126) [(.var 3), (.call (ix 133) [(.bin .sub (.bin .sub (.var 0) (.var 4)) (.val (.int 2))), (.bin .sub (.bin .sub (.var 1) (.var 4)) (.val (.int 2))), (.var 2)])]))] []), (.ite (.bl (.cmp .gt (.var 4) (.bin .add (.var 1) (.val (.int 1))))) [(.asg (.nm 3) (.call (ix 126) [(.var 3), (.call (ix 133) [(.bin .sub (.var 4) (.val (.int 1))), (.var 1), (.var 2)])]))] [])]), (.setix (.var 2) (.tup [(.var 0), (.var 1)]) (.call (ix 127) [(.var 3), (.tup [(.val (.int 1)), (.var 0)])]))] []), (.ret (.ix (.var 2) (.tup [(.var 0), (.var 1)])))] }
def cf_ring_chance (ix : Nat → Nat) : Def := { ar := 1, sz := 4, body := [(.asg (.nm 1) (.tup [(.val (.int 0)), (.val (.int 1))])), (.for (.tup [(.nm 2), (.nm 3)]) (.enum (.ix (.call (ix 128) [(.bin .sub (.var 0) (.val (.int 3)))]) (.bin .sub (.var 0) (.val (.int 3))))) [(.asg (.nm 1) (.call (ix 126) [(.var 1), (.call (ix 127) [(.tup [(.bin .add (.var 2) (.val (.int 1))), (.val (.int 1))]), (.var 3)])]))]), (.ret (.call (ix 127) [(.var 1), (.tup [(.val (.int 1)), (.var 0)])]))] }
def cf_turn_chance (ix : Nat → Nat) : Def := { ar := 2, sz := 3, body := [(.expr (.call (ix 1) [(.var 0)])), (.expr (.call (ix 3) [(.var 0), (.var 1)])), (.ite (.val (.call (ix 11) [(.var 0)])) [(.ret (.call (ix 134) [(.bi .len [(.ix (.var 0) (.val (.int 0)))])]))] []), (.for (.nm 2) (.over (.call (ix 48) [(.var 0)])) [(.ite (.bl (.isin false (.var 1) (.var 2))) [(.ret (.call (ix 133) [(.bi .len [(.var 2)]), (.mt .index (.var 2) [(.var 1)]), (.dnew true)]))] [])]), (.ret (.tup [(.val (.int 0)), (.val (.int 1))]))] }
def cf_set_chance (ix : Nat → Nat) : Def := { ar := 3, sz := 9, body := [(.ite (.bl (.cmp .eq (.var 0) (.lst []))) [(.ret (.tup [(.val (.int 1)), (.val (.int 1))]))] []), (.asg (.nm 3) (.tup [(.ix (.var 0) (.val (.int 0))), (.bi .len [(.var 0)])])), (.ite (.bl (.isin true (.var 3) (.var 2))) [(.asg (.nm 4) (.tup [(.val (.int 0)), (.val (.int 1))])), (.for (.nm 5) (.over (.var 1)) [(.ite (.bl (.isin false (.var 5) (.var 0))) [(.asg (.nm 6) (.mt .index (.var 0) [(.var 5)])), (.par 7 8 (.sl (.var 0) none (some (.bi .max [(.val (.int 0)), (.bin .sub (.var 6) (.val (.int 1)))]))) (.sl (.var 0) (some (.bin .add (.var 6) (.val (.int 2)))) none)), (.asg (.nm 4) (.call (ix 126) [(.var 4), (.call (ix 127) [(.call (ix 136) [(.var 7), (.var 1), (.var 2)]), (.call (ix 136) [(.var 8), (.var 1), (.var 2)])])]))] [])]), (.setix (.var 2) (.var 3) (.call (ix 127) [(.var 4), (.tup [(.val (.int 1)), (.bi .len [(.var 0)])])]))] []), (.ret (.ix (.var 2) (.var 3)))] }
def cf_end_chance (ix : Nat → Nat) : Def := { ar := 2, sz := 9, body := [(.expr (.call (ix 47) [(.var 0), (.var 1)])), (.asg (.nm 2) (.call (ix 49) [(.var 0), (.var 1)])), (.ite (.or (.bl (.cmp .is (.var 2) (.val .non))) (.not (.val (.call (ix 50) [(.var 0), (.var 2)])))) [(.ret (.tup [(.val (.int 0)), (.val (.int 1))]))] []), (.ite (.val (.call (ix 11) [(.var 0)])) [(.asg (.tup [(.nm 4), (.nm 5)]) (.tup [(.bi .len [(.ix (.var 0) (.val (.int 0)))]), (.tup [(.val (.int 0)), (.val (.int 1))])])), (.for (.nm 3) (.over (.var 2)) [(.asg (.nm 6) (.lc (.rng1 (.bin .sub (.var 4) (.val (.int 3)))) (.nm 7) [7] none (.bin .mod (.bin .add (.bin .add (.var 3) (.val (.int 2))) (.var 7)) (.var 4)))), (.asg (.nm 5) (.call (ix 126) [(.var 5), (.call (ix 136) [(.var 6), (.var 2), (.dnew true)])]))]), (.ret (.call (ix 127) [(.var 5), (.tup [(.val (.int 1)), (.var 4)])]))] []), (.asg (.nm 5) (.tup [(.val (.int 1)), (.val (.int 1))])), (.for (.nm 8) (.over (.call (ix 48) [(.var 0)])) [(.asg (.nm 5) (.call (ix 127) [(.var 5), (.call (ix 136) [(.var 8), (.var 2), (.dnew true)])]))]), (.ret (.var 5))] }
def cf_first_in (ix : Nat → Nat) : Def := { ar := 5, sz := 12, body := [(.asg (.nm 5) (.bi .tuple [(.var 0)])), (.ite (.bl (.isin true (.var 2) (.var 0))) [(.ret (.tup [(.val (.int 0)), (.val (.int 1))]))] []), (.ite (.bl (.isin true (.var 5) (.var 4))) [(.asg (.nm 6) (.tup [(.val (.int 0)), (.val (.int 1))])), (.for (.nm 7) (.over (.var 0)) [(.ite (.bl (.cmp .eq (.var 7) (.var 2))) [(.asg (.nm 6) (.call (ix 126) [(.var 6), (.tup [(.val (.int 1)), (.val (.int 1))])]))] [(.ite (.bl (.cmp .ne (.var 7) (.var 3))) [(.asg (.tup [(.nm 9), (.nm 10)]) (.call (ix 5) [(.var 1), (.var 7)])), (.asg (.nm 8) (.lc (.over (.var 0)) (.nm 11) [11] (some (.bl (.isin true (.var 11) (.tup [(.var 7), (.var 9), (.var 10)])))) (.var 11))), (.asg (.nm 6) (.call (ix 126) [(.var 6), (.call (ix 138) [(.var 8), (.var 1), (.var 2), (.var 3), (.var 4)])]))] [])])]), (.setix (.var 4) (.var 5) (.call (ix 127) [(.var 6), (.tup [(.val (.int 1)), (.bi .len [(.var 0)])])]))] []), (.ret (.ix (.var 4) (.var 5)))] }
def cf_near (ix : Nat → Nat) : Def := { ar := 2, sz := 3, body := [(.ite (.val (.call (ix 11) [(.var 0)])) [(.ret (.call (ix 7) [(.var 0)]))] []), (.for (.nm 2) (.over (.call (ix 48) [(.var 0)])) [(.ite (.bl (.isin false (.var 1) (.var 2))) [(.ret (.var 2))] [])]), (.ret (.lst []))] }
def cf_first_chance (ix : Nat → Nat) : Def := { ar := 3, sz := 6, body := [(.expr (.call (ix 1) [(.var 0)])), (.expr (.call (ix 3) [(.var 0), (.var 1)])), (.expr (.call (ix 3) [(.var 0), (.var 2)])), (.ite (.bl (.cmp .eq (.var 1) (.var 2))) [.stuck] []), (.ite (.bl (.cmp .gt (.bi .len [(.call (ix 7) [(.var 0)])]) (.val (.int 16)))) [.stuck] []), (.par 3 4 (.call (ix 139) [(.var 0), (.var 1)]) (.call (ix 139) [(.var 0), (.var 2)])), (.asg (.nm 5) (.ite (.bl (.cmp .eq (.var 3) (.var 4))) (.var 3) (.bin .add (.var 3) (.var 4)))), (.ret (.call (ix 138) [(.bi .sorted [(.var 5)]), (.bi .len [(.ix (.var 0) (.val (.int 0)))]), (.var 1), (.var 2), (.dnew true)]))] }
end Pyx

set_option maxRecDepth 1000000
namespace Lk45
open PySem PySem.Spec PyProof.Rows L2 Pyx
def top (i : Nat) : Stmt := PySem.Challenge.pw_flankturns_k45_known_turns.main.body.getD i (.Pass ⟨0, 0, 0, 0⟩)
abbrev s_is_in : Stmt := top 10
def d_is_in : DefR := { x := "is_in", st := s_is_in, N := ["value", "least", "most"], ps := ["value", "least", "most"] }
abbrev s_gcd : Stmt := top 11
def d_gcd : DefR := { x := "gcd", st := s_gcd, N := ["one", "other"], ps := ["one", "other"] }
abbrev s_reduced : Stmt := top 12
def d_reduced : DefR := { x := "reduced", st := s_reduced, N := ["numerator", "denominator", "common"], ps := ["numerator", "denominator"] }
abbrev s_plus : Stmt := top 13
def d_plus : DefR := { x := "plus", st := s_plus, N := ["one", "other"], ps := ["one", "other"] }
abbrev s_times : Stmt := top 14
def d_times : DefR := { x := "times", st := s_times, N := ["one", "other"], ps := ["one", "other"] }
abbrev s_need_line : Stmt := top 19
def d_need_line : DefR := { x := "need_line", st := s_need_line, N := ["line", "cells", "held", "is_ring", "least", "index", "one"], ps := ["line"] }
abbrev s_is_cells : Stmt := top 20
def d_is_cells : DefR := { x := "is_cells", st := s_is_cells, N := ["many", "value", "x"], ps := ["many", "value"] }
abbrev s_need_cell : Stmt := top 21
def d_need_cell : DefR := { x := "need_cell", st := s_need_cell, N := ["line", "cell"], ps := ["line", "cell"] }
abbrev s_held_in : Stmt := top 22
def d_held_in : DefR := { x := "held_in", st := s_held_in, N := ["line", "cells", "held", "is_ring", "ends"], ps := ["line"] }
abbrev s_flanks : Stmt := top 23
def d_flanks : DefR := { x := "flanks", st := s_flanks, N := ["many", "cell"], ps := ["many", "cell"] }
abbrev s_is_flanked : Stmt := top 24
def d_is_flanked : DefR := { x := "is_flanked", st := s_is_flanked, N := ["cells", "cell", "left", "right"], ps := ["cells", "cell"] }
abbrev s_ready_in : Stmt := top 25
def d_ready_in : DefR := { x := "ready_in", st := s_ready_in, N := ["line", "held", "k"], ps := ["line"] }
abbrev s_with_turned : Stmt := top 26
def d_with_turned : DefR := { x := "with_turned", st := s_with_turned, N := ["cells", "some", "found", "k"], ps := ["cells", "some"] }
abbrev s_swings_in : Stmt := top 27
def d_swings_in : DefR := { x := "swings_in", st := s_swings_in, N := ["line"], ps := ["line"] }
abbrev s_stretches_in : Stmt := top 28
def d_stretches_in : DefR := { x := "stretches_in", st := s_stretches_in, N := ["line", "ready", "many", "found", "k", "here"], ps := ["line"] }
abbrev s_need_resting : Stmt := top 29
def d_need_resting : DefR := { x := "need_resting", st := s_need_resting, N := ["line"], ps := ["line"] }
abbrev s_is_colours : Stmt := top 32
def d_is_colours : DefR := { x := "is_colours", st := s_is_colours, N := ["line", "value", "one"], ps := ["line", "value"] }
abbrev s_need_colours_of : Stmt := top 33
def d_need_colours_of : DefR := { x := "need_colours_of", st := s_need_colours_of, N := ["line", "cells"], ps := ["line", "cells"] }
abbrev s_insides : Stmt := top 34
def d_insides : DefR := { x := "insides", st := s_insides, N := ["line", "one"], ps := ["line"] }
abbrev s_turned_cells : Stmt := top 35
def d_turned_cells : DefR := { x := "turned_cells", st := s_turned_cells, N := ["line", "cells", "ready", "many", "found", "k"], ps := ["line", "cells"] }
abbrev s_is_full : Stmt := top 36
def d_is_full : DefR := { x := "is_full", st := s_is_full, N := ["line", "some", "many", "k", "left", "right"], ps := ["line", "some"] }
abbrev s_can_come : Stmt := top 37
def d_can_come : DefR := { x := "can_come", st := s_can_come, N := ["line", "cells"], ps := ["line", "cells"] }
abbrev s_is_end_in : Stmt := top 38
def d_is_end_in : DefR := { x := "is_end_in", st := s_is_end_in, N := ["line", "cells", "some"], ps := ["line", "cells"] }
abbrev s_is_end : Stmt := top 39
def d_is_end : DefR := { x := "is_end", st := s_is_end, N := ["line", "cells"], ps := ["line", "cells"] }
abbrev s_added : Stmt := top 40
def d_added : DefR := { x := "added", st := s_added, N := ["one", "other", "size", "long", "short", "a", "b"], ps := ["one", "other"] }
abbrev s_multiplied : Stmt := top 41
def d_multiplied : DefR := { x := "multiplied", st := s_multiplied, N := ["one", "other", "found", "k", "a", "j", "b"], ps := ["one", "other"] }
abbrev s_path_sets : Stmt := top 42
def d_path_sets : DefR := { x := "path_sets", st := s_path_sets, N := ["many", "rows"], ps := ["many"] }
abbrev s_path_ends : Stmt := top 43
def d_path_ends : DefR := { x := "path_ends", st := s_path_ends, N := ["many", "rows"], ps := ["many"] }
abbrev s_ring_sets : Stmt := top 44
def d_ring_sets : DefR := { x := "ring_sets", st := s_ring_sets, N := ["many"], ps := ["many"] }
abbrev s_ring_ends : Stmt := top 45
def d_ring_ends : DefR := { x := "ring_ends", st := s_ring_ends, N := ["many", "rows", "size"], ps := ["many"] }
abbrev s_by_turns : Stmt := top 46
def d_by_turns : DefR := { x := "by_turns", st := s_by_turns, N := ["line", "path", "ring", "found", "some"], ps := ["line", "path", "ring"] }
abbrev s_trimmed : Stmt := top 47
def d_trimmed : DefR := { x := "trimmed", st := s_trimmed, N := ["counts", "found"], ps := ["counts"] }
abbrev s_comes_by_turns : Stmt := top 48
def d_comes_by_turns : DefR := { x := "comes_by_turns", st := s_comes_by_turns, N := ["line"], ps := ["line"] }
abbrev s_ends_by_turns : Stmt := top 49
def d_ends_by_turns : DefR := { x := "ends_by_turns", st := s_ends_by_turns, N := ["line"], ps := ["line"] }
abbrev s_come_count : Stmt := top 50
def d_come_count : DefR := { x := "come_count", st := s_come_count, N := ["line"], ps := ["line"] }
abbrev s_end_count : Stmt := top 51
def d_end_count : DefR := { x := "end_count", st := s_end_count, N := ["line"], ps := ["line"] }
abbrev s_all_ends : Stmt := top 52
def d_all_ends : DefR := { x := "all_ends", st := s_all_ends, N := ["line", "rows", "ready", "k", "more", "some"], ps := ["line"] }
abbrev s_is_hopeful : Stmt := top 53
def d_is_hopeful : DefR := { x := "is_hopeful", st := s_is_hopeful, N := ["line", "ready", "some", "last", "many", "k", "left", "right"], ps := ["line", "ready", "some", "last"] }
abbrev s_ends : Stmt := top 54
def d_ends : DefR := { x := "ends", st := s_ends, N := ["line"], ps := ["line"] }
abbrev s_fewest_turns : Stmt := top 55
def d_fewest_turns : DefR := { x := "fewest_turns", st := s_fewest_turns, N := ["line", "told", "k"], ps := ["line"] }
abbrev s_most_turns : Stmt := top 56
def d_most_turns : DefR := { x := "most_turns", st := s_most_turns, N := ["line"], ps := ["line"] }
abbrev s_factorial : Stmt := top 57
def d_factorial : DefR := { x := "factorial", st := s_factorial, N := ["many", "found", "k"], ps := ["many"] }
abbrev s_ways_to : Stmt := top 58
def d_ways_to : DefR := { x := "ways_to", st := s_ways_to, N := ["line", "cells", "some"], ps := ["line", "cells"] }
abbrev s_ways_in_all : Stmt := top 59
def d_ways_in_all : DefR := { x := "ways_in_all", st := s_ways_in_all, N := ["line", "k", "one"], ps := ["line"] }
abbrev s_end_with : Stmt := top 60
def d_end_with : DefR := { x := "end_with", st := s_end_with, N := ["line", "many", "some", "cells"], ps := ["line", "many"] }
abbrev s_is_rest_an_end : Stmt := top 61
def d_is_rest_an_end : DefR := { x := "is_rest_an_end", st := s_is_rest_an_end, N := ["line", "one"], ps := ["line"] }
abbrev s_without_carry : Stmt := top 64
def d_without_carry : DefR := { x := "without_carry", st := s_without_carry, N := ["one", "other", "found", "part"], ps := ["one", "other"] }
abbrev s_path_worths : Stmt := top 65
def d_path_worths : DefR := { x := "path_worths", st := s_path_worths, N := ["many", "found", "size", "told", "least", "at"], ps := ["many"] }
abbrev s_worth_of : Stmt := top 66
def d_worth_of : DefR := { x := "worth_of", st := s_worth_of, N := ["paths", "rows", "found", "many"], ps := ["paths"] }
abbrev s_paths_behind : Stmt := top 67
def d_paths_behind : DefR := { x := "paths_behind", st := s_paths_behind, N := ["line", "cell", "many", "ready", "left", "right", "rest", "k"], ps := ["line", "cell"] }
abbrev s_paths_of : Stmt := top 68
def d_paths_of : DefR := { x := "paths_of", st := s_paths_of, N := ["line", "ready", "many", "found", "k", "here", "size"], ps := ["line", "ready"] }
abbrev s_worth_in : Stmt := top 69
def d_worth_in : DefR := { x := "worth_in", st := s_worth_in, N := ["line", "some"], ps := ["line"] }
abbrev s_worth : Stmt := top 70
def d_worth : DefR := { x := "worth", st := s_worth, N := ["line"], ps := ["line"] }
abbrev s_last_hand : Stmt := top 71
def d_last_hand : DefR := { x := "last_hand", st := s_last_hand, N := ["line"], ps := ["line"] }
abbrev s_winning_cells : Stmt := top 72
def d_winning_cells : DefR := { x := "winning_cells", st := s_winning_cells, N := ["line", "k"], ps := ["line"] }
abbrev s_further : Stmt := top 73
def d_further : DefR := { x := "further", st := s_further, N := ["paths", "found", "at", "many", "rest", "cell", "fresh", "x"], ps := ["paths"] }
abbrev s_value_of : Stmt := top 74
def d_value_of : DefR := { x := "value_of", st := s_value_of, N := ["paths", "is_more", "known", "key", "told", "there"], ps := ["paths", "is_more", "known"] }
abbrev s_turns_value : Stmt := top 75
def d_turns_value : DefR := { x := "turns_value", st := s_turns_value, N := ["line", "is_more", "some"], ps := ["line", "is_more"] }
abbrev s_path_turns : Stmt := top 78
def d_path_turns : DefR := { x := "path_turns", st := s_path_turns, N := ["many", "rows", "size", "found", "at", "left", "right", "k", "one", "j", "other", "part"], ps := ["many"] }
abbrev s_lots : Stmt := top 79
def d_lots : DefR := { x := "lots", st := s_lots, N := ["line", "some"], ps := ["line"] }
abbrev s_turns_in : Stmt := top 80
def d_turns_in : DefR := { x := "turns_in", st := s_turns_in, N := ["line", "some", "begun", "rows", "found", "many", "more", "k", "one", "j", "other"], ps := ["line"] }
abbrev s_turns_chances : Stmt := top 81
def d_turns_chances : DefR := { x := "turns_chances", st := s_turns_chances, N := ["line"], ps := ["line"] }
abbrev s_mean_turns : Stmt := top 82
def d_mean_turns : DefR := { x := "mean_turns", st := s_mean_turns, N := ["line", "found", "k", "one"], ps := ["line"] }
abbrev s_path_chance : Stmt := top 83
def d_path_chance : DefR := { x := "path_chance", st := s_path_chance, N := ["many", "at", "known", "found", "first"], ps := ["many", "at", "known"] }
abbrev s_ring_chance : Stmt := top 84
def d_ring_chance : DefR := { x := "ring_chance", st := s_ring_chance, N := ["many", "found", "k", "one"], ps := ["many"] }
abbrev s_turn_chance : Stmt := top 85
def d_turn_chance : DefR := { x := "turn_chance", st := s_turn_chance, N := ["line", "cell", "some"], ps := ["line", "cell"] }
abbrev s_set_chance : Stmt := top 86
def d_set_chance : DefR := { x := "set_chance", st := s_set_chance, N := ["some", "chosen", "known", "key", "found", "k", "at", "left", "right"], ps := ["some", "chosen", "known"] }
abbrev s_end_chance : Stmt := top 87
def d_end_chance : DefR := { x := "end_chance", st := s_end_chance, N := ["line", "cells", "chosen", "k", "many", "found", "rest", "at", "some"], ps := ["line", "cells"] }
abbrev s_first_in : Stmt := top 88
def d_first_in : DefR := { x := "first_in", st := s_first_in, N := ["ready", "many", "one", "other", "known", "key", "found", "k", "rest", "left", "right", "x"], ps := ["ready", "many", "one", "other", "known"] }
abbrev s_near : Stmt := top 89
def d_near : DefR := { x := "near", st := s_near, N := ["line", "cell", "some"], ps := ["line", "cell"] }
abbrev s_first_chance : Stmt := top 90
def d_first_chance : DefR := { x := "first_chance", st := s_first_chance, N := ["line", "one", "other", "some", "more", "lot"], ps := ["line", "one", "other"] }
abbrev s__law_alike : Stmt := top 92
def d__law_alike : DefR := { x := "_law_alike", st := s__law_alike, N := ["_law_found", "_law_due", "_law_k"], ps := ["_law_found", "_law_due"] }
abbrev s_law : Stmt := top 93
def d_law : DefR := { x := "law", st := s_law, N := ["_law_script", "_law_row", "_law_line", "_law_found", "_law_four", "_law_ring"], ps := ["_law_script"] }
def txt : Txt := { defs := [d_is_in, d_gcd, d_reduced, d_plus, d_times, d_need_line, d_is_cells, d_need_cell, d_held_in, d_flanks, d_is_flanked, d_ready_in, d_with_turned, d_swings_in, d_stretches_in, d_need_resting, d_is_colours, d_need_colours_of, d_insides, d_turned_cells, d_is_full, d_can_come, d_is_end_in, d_is_end, d_added, d_multiplied, d_path_sets, d_path_ends, d_ring_sets, d_ring_ends, d_by_turns, d_trimmed, d_comes_by_turns, d_ends_by_turns, d_come_count, d_end_count, d_all_ends, d_is_hopeful, d_ends, d_fewest_turns, d_most_turns, d_factorial, d_ways_to, d_ways_in_all, d_end_with, d_is_rest_an_end, d_without_carry, d_path_worths, d_worth_of, d_paths_behind, d_paths_of, d_worth_in, d_worth, d_last_hand, d_winning_cells, d_further, d_value_of, d_turns_value, d_path_turns, d_lots, d_turns_in, d_turns_chances, d_mean_turns, d_path_chance, d_ring_chance, d_turn_chance, d_set_chance, d_end_chance, d_first_in, d_near, d_first_chance, d__law_alike, d_law], consts := [("MOST_CELLS", .int 40), ("MOST_COLOUR", .int 9), ("LEAST_RING", .int 3), ("MOST_ENDS", .int 2000), ("MOST_READY_hands", .int 16), ("MOST_READY_chances", .int 16)], nob := ["len", "max", "range", "list", "set", "sorted", "tuple", "bool", "enumerate", "isinstance", "int", "sum", "zip", "min", "abs", "str"], dts := [376060, 400057, 404054, 438059, 1000312062, 1000313083], excs := [], exb := "", rsn := [] }
def ix : Nat → Nat := fun g => ([0, 5, 6, 7, 8, 9, 10, 11, 0, 12, 0, 13, 0, 14, 0, 15, 0, 0, 0, 0, 0, 0, 0, 0, 0, 0, 0, 0, 0, 0, 0, 0, 0, 0, 0, 0, 0, 0, 0, 0, 0, 0, 0, 0, 0, 71, 16, 17, 18, 19, 20, 21, 22, 23, 24, 25, 26, 27, 28, 29, 30, 31, 32, 33, 34, 35, 36, 37, 38, 39, 40, 41, 42, 43, 44, 45, 0, 0, 0, 0, 0, 0, 0, 0, 0, 0, 0, 0, 0, 46, 0, 0, 0, 0, 48, 49, 51, 52, 53, 54, 47, 50, 0, 0, 0, 0, 0, 0, 0, 0, 0, 0, 0, 0, 0, 0, 0, 0, 0, 0, 0, 0, 0, 0, 1, 2, 3, 4, 58, 59, 60, 61, 62, 63, 64, 65, 66, 67, 68, 69, 70, 0, 0, 0, 0, 0, 0, 0, 0, 0, 0, 0, 0, 0, 0, 0, 0, 0, 0, 0, 0, 0, 0, 0, 0, 0, 0, 0, 0, 0, 0, 0, 0, 0, 0, 0, 0, 0, 0, 0, 0, 0, 0, 0, 0, 0, 0, 0, 0, 0, 0, 0, 0, 0, 0, 0, 0, 0, 0, 0, 0, 0, 0, 0, 0, 0, 0, 0, 0, 0, 0, 0, 0, 0, 0, 0, 0, 0, 0, 0, 0, 0, 0, 0, 0, 0, 0, 0, 0, 0, 0, 0, 0, 0, 0, 0, 0, 0, 0, 0, 0, 0, 0, 0, 0, 0, 0, 0, 0, 0, 0, 0, 0, 0, 0, 0, 0, 0, 0, 0, 0, 0, 0, 0, 0, 0, 0, 0, 0, 0, 0, 0, 0, 0, 0, 0, 0, 0, 0, 0, 0, 0, 0, 0, 0, 0] : List Nat).getD g 0
def c_is_in : Def := Pyx.cf_is_in ix
def c_gcd : Def := Pyx.cf_gcd ix
def c_reduced : Def := Pyx.cf_reduced ix
def c_plus : Def := Pyx.cf_plus ix
def c_times : Def := Pyx.cf_times ix
def c_need_line : Def := Pyx.cf_need_line ix
def c_is_cells : Def := Pyx.cf_is_cells ix
def c_need_cell : Def := Pyx.cf_need_cell ix
def c_held_in : Def := Pyx.cf_held_in ix
def c_flanks : Def := Pyx.cf_flanks ix
def c_is_flanked : Def := Pyx.cf_is_flanked ix
def c_ready_in : Def := Pyx.cf_ready_in ix
def c_with_turned : Def := Pyx.cf_with_turned ix
def c_swings_in : Def := Pyx.cf_swings_in ix
def c_stretches_in : Def := Pyx.cf_stretches_in ix
def c_need_resting : Def := Pyx.cf_need_resting ix
def c_is_colours : Def := Pyx.cf_is_colours ix
def c_need_colours_of : Def := Pyx.cf_need_colours_of ix
def c_insides : Def := Pyx.cf_insides ix
def c_turned_cells : Def := Pyx.cf_turned_cells ix
def c_is_full : Def := Pyx.cf_is_full ix
def c_can_come : Def := Pyx.cf_can_come ix
def c_is_end_in : Def := Pyx.cf_is_end_in ix
def c_is_end : Def := Pyx.cf_is_end ix
def c_added : Def := Pyx.cf_added ix
def c_multiplied : Def := Pyx.cf_multiplied ix
def c_path_sets : Def := Pyx.cf_path_sets ix
def c_path_ends : Def := Pyx.cf_path_ends ix
def c_ring_sets : Def := Pyx.cf_ring_sets ix
def c_ring_ends : Def := Pyx.cf_ring_ends ix
def c_by_turns : Def := Pyx.cf_by_turns ix
def c_trimmed : Def := Pyx.cf_trimmed ix
def c_comes_by_turns : Def := Pyx.cf_comes_by_turns ix
def c_ends_by_turns : Def := Pyx.cf_ends_by_turns ix
def c_come_count : Def := Pyx.cf_come_count ix
def c_end_count : Def := Pyx.cf_end_count ix
def c_all_ends : Def := Pyx.cf_all_ends ix
def c_is_hopeful : Def := Pyx.cf_is_hopeful ix
def c_ends : Def := Pyx.cf_ends ix
def c_fewest_turns : Def := Pyx.cf_fewest_turns ix
def c_most_turns : Def := Pyx.cf_most_turns ix
def c_factorial : Def := Pyx.cf_factorial ix
def c_ways_to : Def := Pyx.cf_ways_to ix
def c_ways_in_all : Def := Pyx.cf_ways_in_all ix
def c_end_with : Def := Pyx.cf_end_with ix
def c_is_rest_an_end : Def := Pyx.cf_is_rest_an_end ix
def c_without_carry : Def := Pyx.cf_without_carry ix
def c_path_worths : Def := Pyx.cf_path_worths ix
def c_worth_of : Def := Pyx.cf_worth_of ix
def c_paths_behind : Def := Pyx.cf_paths_behind ix
def c_paths_of : Def := Pyx.cf_paths_of ix
def c_worth_in : Def := Pyx.cf_worth_in ix
def c_worth : Def := Pyx.cf_worth ix
def c_last_hand : Def := Pyx.cf_last_hand ix
def c_winning_cells : Def := Pyx.cf_winning_cells ix
def c_further : Def := { ar := 1, sz := 8, body := [(.asg (.nm 1) (.lst [])), (.for (.tup [(.nm 2), (.nm 3)]) (.enum (.var 0)) [(.asg (.nm 4) (.bin .add (.sl (.var 0) none (some (.var 2))) (.sl (.var 0) (some (.bin .add (.var 2) (.val (.int 1)))) none))), (.for (.nm 5) (.rng1 (.var 3)) [(.asg (.nm 6) (.lc (.over (.tup [(.bin .sub (.var 5) (.val (.int 1))), (.bin .sub (.bin .sub (.var 3) (.var 5)) (.val (.int 2)))])) (.nm 7) [7] (some (.bl (.cmp .gt (.var 7) (.val (.int 0))))) (.var 7))), (.expr (.mt .append (.var 1) [(.bi .tuple [(.bi .sorted [(.bin .add (.bi .list [(.var 4)]) (.var 6))])])]))])]), (.ret (.bi .sorted [(.bi .set [(.var 1)])]))] }
def c_value_of : Def := { ar := 3, sz := 6, body := [(.asg (.nm 3) (.tup [(.var 0), (.var 1)])), (.ite (.bl (.cmp .eq (.var 0) (.tup []))) [(.ret (.val (.int 0)))] []), (.ite (.bl (.isin true (.var 3) (.var 2))) [(.asg (.nm 4) (.lc (.over (.call 55 [(.var 0)])) (.nm 5) [5] none (.bin .add (.val (.int 1)) (.call 56 [(.var 5), (.not (.var 1)), (.var 2)])))), (.setix (.var 2) (.var 3) (.ite (.val (.var 1)) (.bi .max [(.var 4)]) (.bi .min [(.var 4)])))] []), (.ret (.ix (.var 2) (.var 3)))] }
def c_turns_value : Def := { ar := 2, sz := 3, body := [(.expr (.call (ix 1) [(.var 0)])), (.ite (.not (.val (.isi (.var 1) .bool))) [.stuck] []), (.ite (.bl (.cmp .gt (.bi .len [(.call (ix 7) [(.var 0)])]) (.val (.int 16)))) [.stuck] []), (.ite (.val (.call (ix 11) [(.var 0)])) [(.ret (.bin .add (.val (.int 1)) (.call 56 [(.tup [(.bin .sub (.bi .len [(.ix (.var 0) (.val (.int 0)))]) (.val (.int 3)))]), (.not (.var 1)), .dnewN])))] []), (.ret (.call 56 [(.bi .tuple [(.bi .sorted [(.lc (.over (.call (ix 48) [(.var 0)])) (.nm 2) [2] none (.bi .len [(.var 2)]))])]), (.var 1), .dnewN]))] }
def c_path_turns : Def := Pyx.cf_path_turns ix
def c_lots : Def := Pyx.cf_lots ix
def c_turns_in : Def := Pyx.cf_turns_in_chances ix
def c_turns_chances : Def := Pyx.cf_turns_chances ix
def c_mean_turns : Def := Pyx.cf_mean_turns ix
def c_path_chance : Def := Pyx.cf_path_chance ix
def c_ring_chance : Def := Pyx.cf_ring_chance ix
def c_turn_chance : Def := Pyx.cf_turn_chance ix
def c_set_chance : Def := Pyx.cf_set_chance ix
def c_end_chance : Def := Pyx.cf_end_chance ix
def c_first_in : Def := Pyx.cf_first_in ix
def c_near : Def := Pyx.cf_near ix
def c_first_chance : Def := Pyx.cf_first_chance ix
def c__law_alike : Def := Pyx.cf__law_alike ix
def c_law : Def := { ar := 1, sz := 6, body := [(.asg (.nm 1) (.lst [(.var 0), (.val (.int 0)), (.val (.int 8245)), (.val (.int 0))])), (.asg (.nm 2) (.tup [(.tup [(.val (.int 0)), (.val (.int 1)), (.val (.int 0)), (.val (.int 1)), (.val (.int 0))]), (.tup []), (.val (.bl false))])), (.asg (.nm 3) (.lst [(.call (ix 64) [(.var 2)]), (.call (ix 62) [(.var 2)]), (.call (ix 65) [(.var 2)]), (.call (ix 63) [(.var 2)]), (.call (ix 68) [(.var 2)])])), (.asg (.nm 3) (.bin .add (.var 3) (.lst [(.call (ix 69) [(.var 2)]), (.call (ix 70) [(.var 2)])]))), (.ite (.not (.val (.call (ix 45) [(.var 3), (.lst [(.val (.int 5)), (.tup [(.val (.int 1)), (.val (.int 3)), (.val (.int 1))]), (.val (.int 2)), (.tup [(.val (.int 0)), (.val (.int 1)), (.val (.int 1))]), (.lst [(.tup [(.val (.int 0)), (.val (.int 0)), (.val (.int 0)), (.val (.int 0)), (.val (.int 0))]), (.tup [(.val (.int 0)), (.val (.int 1)), (.val (.int 1)), (.val (.int 1)), (.val (.int 0))])]), (.val (.int 1)), (.val (.int 2))])]))) [(.ret (.val (.bl false)))] []), (.asg (.nm 3) (.lst [(.call (ix 51) [(.var 2), (.tup [(.val (.int 0)), (.val (.int 0)), (.val (.int 0)), (.val (.int 1)), (.val (.int 0))])]), (.call (ix 51) [(.var 2), (.tup [(.val (.int 0)), (.val (.int 0)), (.val (.int 1)), (.val (.int 1)), (.val (.int 0))])]), (.call (ix 53) [(.var 2), (.tup [(.val (.int 0)), (.val (.int 0)), (.val (.int 0)), (.val (.int 1)), (.val (.int 0))])])])), (.asg (.nm 3) (.bin .add (.var 3) (.lst [(.call (ix 72) [(.var 2), (.tup [(.val (.int 0)), (.val (.int 0)), (.val (.int 0)), (.val (.int 0)), (.val (.int 0))])]), (.call (ix 73) [(.var 2)])]))), (.ite (.not (.val (.call (ix 45) [(.bin .add (.var 3) (.lst [(.call (ix 74) [(.var 2), (.val (.int 2))]), (.call (ix 74) [(.var 2), (.val (.int 3))]), (.call (ix 75) [(.var 2)])])), (.lst [(.val (.bl true)), (.val (.bl false)), (.val (.bl false)), (.val (.int 2)), (.val (.int 3)), (.bin .mul (.tup [(.val (.int 0))]) (.val (.int 5))), (.val .non), (.val (.bl true))])]))) [(.ret (.val (.bl false)))] []), (.asg (.nm 3) (.lst [(.call (ix 135) [(.var 2), (.val (.int 2))]), (.call (ix 135) [(.var 2), (.val (.int 1))]), (.call (ix 135) [(.var 2), (.val (.int 0))]), (.call (ix 132) [(.var 2)])])), (.asg (.nm 3) (.bin .add (.var 3) (.lst [(.call (ix 131) [(.var 2)]), (.call (ix 137) [(.var 2), (.tup [(.val (.int 0)), (.val (.int 1)), (.val (.int 1)), (.val (.int 1)), (.val (.int 0))])])]))), (.ite (.not (.val (.call (ix 45) [(.var 3), (.lst [(.tup [(.val (.int 1)), (.val (.int 3))]), (.tup [(.val (.int 2)), (.val (.int 3))]), (.tup [(.val (.int 0)), (.val (.int 1))]), (.tup [(.val (.int 5)), (.val (.int 3))]), (.tup [(.tup [(.val (.int 0)), (.val (.int 1))]), (.tup [(.val (.int 1)), (.val (.int 3))]), (.tup [(.val (.int 2)), (.val (.int 3))])]), (.tup [(.val (.int 1)), (.val (.int 3))])])]))) [(.ret (.val (.bl false)))] []), (.asg (.nm 3) (.lst [(.call (ix 140) [(.var 2), (.val (.int 1)), (.val (.int 3))]), (.call (ix 140) [(.var 2), (.val (.int 2)), (.val (.int 1))]), (.call (ix 97) [(.var 2)]), (.call (ix 98) [(.var 2)])])), (.asg (.nm 3) (.bin .add (.var 3) (.lst [(.call (ix 99) [(.var 2)]), (.call 57 [(.var 2), (.val (.bl true))]), (.call 57 [(.var 2), (.val (.bl false))])]))), (.ite (.not (.val (.call (ix 45) [(.var 3), (.lst [(.tup [(.val (.int 1)), (.val (.int 3))]), (.tup [(.val (.int 1)), (.val (.int 3))]), (.val (.int 2)), (.val (.bl true)), (.tup [(.val (.int 2))]), (.val (.int 2)), (.val (.int 1))])]))) [(.ret (.val (.bl false)))] []), (.asg (.nm 4) (.tup [(.tup [(.val (.int 0)), (.val (.int 1)), (.val (.int 0)), (.val (.int 1))]), (.tup []), (.val (.bl false))])), (.asg (.nm 3) (.lst [(.call (ix 68) [(.var 4)]), (.call (ix 75) [(.var 4)]), (.call (ix 97) [(.var 4)]), (.call (ix 132) [(.var 4)])])), (.ite (.not (.val (.call (ix 45) [(.var 3), (.lst [(.lst [(.tup [(.val (.int 0)), (.val (.int 0)), (.val (.int 0)), (.val (.int 1))]), (.tup [(.val (.int 0)), (.val (.int 1)), (.val (.int 1)), (.val (.int 1))])]), (.val (.bl false)), (.val (.int 1)), (.tup [(.val (.int 1)), (.val (.int 1))])])]))) [(.ret (.val (.bl false)))] []), (.asg (.nm 5) (.tup [(.tup [(.val (.int 0)), (.val (.int 1)), (.val (.int 0)), (.val (.int 1))]), (.tup []), (.val (.bl true))])), (.asg (.nm 3) (.lst [(.call (ix 64) [(.var 5)]), (.call (ix 68) [(.var 5)]), (.call (ix 132) [(.var 5)]), (.call (ix 97) [(.var 5)]), (.call 57 [(.var 5), (.val (.bl false))])])), (.asg (.nm 3) (.bin .add (.var 3) (.lst [(.call (ix 135) [(.var 5), (.val (.int 3))])]))), (.ret (.call (ix 45) [(.var 3), (.lst [(.val (.int 7)), (.lst [(.tup [(.val (.int 0)), (.val (.int 0)), (.val (.int 0)), (.val (.int 0))]), (.tup [(.val (.int 1)), (.val (.int 1)), (.val (.int 1)), (.val (.int 1))])]), (.tup [(.val (.int 2)), (.val (.int 1))]), (.val (.int 0)), (.val (.int 2)), (.tup [(.val (.int 1)), (.val (.int 2))])])]))] }
def prg : Prg := [c_is_in, c_gcd, c_reduced, c_plus, c_times, c_need_line, c_is_cells, c_need_cell, c_held_in, c_flanks, c_is_flanked, c_ready_in, c_with_turned, c_swings_in, c_stretches_in, c_need_resting, c_is_colours, c_need_colours_of, c_insides, c_turned_cells, c_is_full, c_can_come, c_is_end_in, c_is_end, c_added, c_multiplied, c_path_sets, c_path_ends, c_ring_sets, c_ring_ends, c_by_turns, c_trimmed, c_comes_by_turns, c_ends_by_turns, c_come_count, c_end_count, c_all_ends, c_is_hopeful, c_ends, c_fewest_turns, c_most_turns, c_factorial, c_ways_to, c_ways_in_all, c_end_with, c_is_rest_an_end, c_without_carry, c_path_worths, c_worth_of, c_paths_behind, c_paths_of, c_worth_in, c_worth, c_last_hand, c_winning_cells, c_further, c_value_of, c_turns_value, c_path_turns, c_lots, c_turns_in, c_turns_chances, c_mean_turns, c_path_chance, c_ring_chance, c_turn_chance, c_set_chance, c_end_chance, c_first_in, c_near, c_first_chance, c__law_alike, c_law]
theorem k_is_in : cDef txt d_is_in = some c_is_in := by kernel_rfl
theorem z_is_in : scopeB d_is_in = true := by kernel_rfl
theorem k_gcd : cDef txt d_gcd = some c_gcd := by kernel_rfl
theorem z_gcd : scopeB d_gcd = true := by kernel_rfl
theorem k_reduced : cDef txt d_reduced = some c_reduced := by kernel_rfl
theorem z_reduced : scopeB d_reduced = true := by kernel_rfl
theorem k_plus : cDef txt d_plus = some c_plus := by kernel_rfl
theorem z_plus : scopeB d_plus = true := by kernel_rfl
theorem k_times : cDef txt d_times = some c_times := by kernel_rfl
theorem z_times : scopeB d_times = true := by kernel_rfl
theorem k_need_line : cDef txt d_need_line = some c_need_line := by kernel_rfl
theorem z_need_line : scopeB d_need_line = true := by kernel_rfl
theorem k_is_cells : cDef txt d_is_cells = some c_is_cells := by kernel_rfl
theorem z_is_cells : scopeB d_is_cells = true := by kernel_rfl
theorem k_need_cell : cDef txt d_need_cell = some c_need_cell := by kernel_rfl
theorem z_need_cell : scopeB d_need_cell = true := by kernel_rfl
theorem k_held_in : cDef txt d_held_in = some c_held_in := by kernel_rfl
theorem z_held_in : scopeB d_held_in = true := by kernel_rfl
theorem k_flanks : cDef txt d_flanks = some c_flanks := by kernel_rfl
theorem z_flanks : scopeB d_flanks = true := by kernel_rfl
theorem k_is_flanked : cDef txt d_is_flanked = some c_is_flanked := by kernel_rfl
theorem z_is_flanked : scopeB d_is_flanked = true := by kernel_rfl
theorem k_ready_in : cDef txt d_ready_in = some c_ready_in := by kernel_rfl
theorem z_ready_in : scopeB d_ready_in = true := by kernel_rfl
theorem k_with_turned : cDef txt d_with_turned = some c_with_turned := by kernel_rfl
theorem z_with_turned : scopeB d_with_turned = true := by kernel_rfl
theorem k_swings_in : cDef txt d_swings_in = some c_swings_in := by kernel_rfl
theorem z_swings_in : scopeB d_swings_in = true := by kernel_rfl
theorem k_stretches_in : cDef txt d_stretches_in = some c_stretches_in := by kernel_rfl
theorem z_stretches_in : scopeB d_stretches_in = true := by kernel_rfl
theorem k_need_resting : cDef txt d_need_resting = some c_need_resting := by kernel_rfl
theorem z_need_resting : scopeB d_need_resting = true := by kernel_rfl
theorem k_is_colours : cDef txt d_is_colours = some c_is_colours := by kernel_rfl
theorem z_is_colours : scopeB d_is_colours = true := by kernel_rfl
theorem k_need_colours_of : cDef txt d_need_colours_of = some c_need_colours_of := by kernel_rfl
theorem z_need_colours_of : scopeB d_need_colours_of = true := by kernel_rfl
theorem k_insides : cDef txt d_insides = some c_insides := by kernel_rfl
theorem z_insides : scopeB d_insides = true := by kernel_rfl
theorem k_turned_cells : cDef txt d_turned_cells = some c_turned_cells := by kernel_rfl
theorem z_turned_cells : scopeB d_turned_cells = true := by kernel_rfl
theorem k_is_full : cDef txt d_is_full = some c_is_full := by kernel_rfl
theorem z_is_full : scopeB d_is_full = true := by kernel_rfl
theorem k_can_come : cDef txt d_can_come = some c_can_come := by kernel_rfl
theorem z_can_come : scopeB d_can_come = true := by kernel_rfl
theorem k_is_end_in : cDef txt d_is_end_in = some c_is_end_in := by kernel_rfl
theorem z_is_end_in : scopeB d_is_end_in = true := by kernel_rfl
theorem k_is_end : cDef txt d_is_end = some c_is_end := by kernel_rfl
theorem z_is_end : scopeB d_is_end = true := by kernel_rfl
theorem k_added : cDef txt d_added = some c_added := by kernel_rfl
theorem z_added : scopeB d_added = true := by kernel_rfl
theorem k_multiplied : cDef txt d_multiplied = some c_multiplied := by kernel_rfl
theorem z_multiplied : scopeB d_multiplied = true := by kernel_rfl
theorem k_path_sets : cDef txt d_path_sets = some c_path_sets := by kernel_rfl
theorem z_path_sets : scopeB d_path_sets = true := by kernel_rfl
theorem k_path_ends : cDef txt d_path_ends = some c_path_ends := by kernel_rfl
theorem z_path_ends : scopeB d_path_ends = true := by kernel_rfl
theorem k_ring_sets : cDef txt d_ring_sets = some c_ring_sets := by kernel_rfl
theorem z_ring_sets : scopeB d_ring_sets = true := by kernel_rfl
theorem k_ring_ends : cDef txt d_ring_ends = some c_ring_ends := by kernel_rfl
theorem z_ring_ends : scopeB d_ring_ends = true := by kernel_rfl
theorem k_by_turns : cDef txt d_by_turns = some c_by_turns := by kernel_rfl
theorem z_by_turns : scopeB d_by_turns = true := by kernel_rfl
theorem k_trimmed : cDef txt d_trimmed = some c_trimmed := by kernel_rfl
theorem z_trimmed : scopeB d_trimmed = true := by kernel_rfl
theorem k_comes_by_turns : cDef txt d_comes_by_turns = some c_comes_by_turns := by kernel_rfl
theorem z_comes_by_turns : scopeB d_comes_by_turns = true := by kernel_rfl
theorem k_ends_by_turns : cDef txt d_ends_by_turns = some c_ends_by_turns := by kernel_rfl
theorem z_ends_by_turns : scopeB d_ends_by_turns = true := by kernel_rfl
theorem k_come_count : cDef txt d_come_count = some c_come_count := by kernel_rfl
theorem z_come_count : scopeB d_come_count = true := by kernel_rfl
theorem k_end_count : cDef txt d_end_count = some c_end_count := by kernel_rfl
theorem z_end_count : scopeB d_end_count = true := by kernel_rfl
theorem k_all_ends : cDef txt d_all_ends = some c_all_ends := by kernel_rfl
theorem z_all_ends : scopeB d_all_ends = true := by kernel_rfl
theorem k_is_hopeful : cDef txt d_is_hopeful = some c_is_hopeful := by kernel_rfl
theorem z_is_hopeful : scopeB d_is_hopeful = true := by kernel_rfl
theorem k_ends : cDef txt d_ends = some c_ends := by kernel_rfl
theorem z_ends : scopeB d_ends = true := by kernel_rfl
theorem k_fewest_turns : cDef txt d_fewest_turns = some c_fewest_turns := by kernel_rfl
theorem z_fewest_turns : scopeB d_fewest_turns = true := by kernel_rfl
theorem k_most_turns : cDef txt d_most_turns = some c_most_turns := by kernel_rfl
theorem z_most_turns : scopeB d_most_turns = true := by kernel_rfl
theorem k_factorial : cDef txt d_factorial = some c_factorial := by kernel_rfl
theorem z_factorial : scopeB d_factorial = true := by kernel_rfl
theorem k_ways_to : cDef txt d_ways_to = some c_ways_to := by kernel_rfl
theorem z_ways_to : scopeB d_ways_to = true := by kernel_rfl
theorem k_ways_in_all : cDef txt d_ways_in_all = some c_ways_in_all := by kernel_rfl
theorem z_ways_in_all : scopeB d_ways_in_all = true := by kernel_rfl
theorem k_end_with : cDef txt d_end_with = some c_end_with := by kernel_rfl
theorem z_end_with : scopeB d_end_with = true := by kernel_rfl
theorem k_is_rest_an_end : cDef txt d_is_rest_an_end = some c_is_rest_an_end := by kernel_rfl
theorem z_is_rest_an_end : scopeB d_is_rest_an_end = true := by kernel_rfl
theorem k_without_carry : cDef txt d_without_carry = some c_without_carry := by kernel_rfl
theorem z_without_carry : scopeB d_without_carry = true := by kernel_rfl
theorem k_path_worths : cDef txt d_path_worths = some c_path_worths := by kernel_rfl
theorem z_path_worths : scopeB d_path_worths = true := by kernel_rfl
theorem k_worth_of : cDef txt d_worth_of = some c_worth_of := by kernel_rfl
theorem z_worth_of : scopeB d_worth_of = true := by kernel_rfl
theorem k_paths_behind : cDef txt d_paths_behind = some c_paths_behind := by kernel_rfl
theorem z_paths_behind : scopeB d_paths_behind = true := by kernel_rfl
theorem k_paths_of : cDef txt d_paths_of = some c_paths_of := by kernel_rfl
theorem z_paths_of : scopeB d_paths_of = true := by kernel_rfl
theorem k_worth_in : cDef txt d_worth_in = some c_worth_in := by kernel_rfl
theorem z_worth_in : scopeB d_worth_in = true := by kernel_rfl
theorem k_worth : cDef txt d_worth = some c_worth := by kernel_rfl
theorem z_worth : scopeB d_worth = true := by kernel_rfl
theorem k_last_hand : cDef txt d_last_hand = some c_last_hand := by kernel_rfl
theorem z_last_hand : scopeB d_last_hand = true := by kernel_rfl
theorem k_winning_cells : cDef txt d_winning_cells = some c_winning_cells := by kernel_rfl
theorem z_winning_cells : scopeB d_winning_cells = true := by kernel_rfl
theorem k_further : cDef txt d_further = some c_further := by kernel_rfl
theorem z_further : scopeB d_further = true := by kernel_rfl
theorem k_value_of : cDef txt d_value_of = some c_value_of := by kernel_rfl
theorem z_value_of : scopeB d_value_of = true := by kernel_rfl
theorem k_turns_value : cDef txt d_turns_value = some c_turns_value := by kernel_rfl
theorem z_turns_value : scopeB d_turns_value = true := by kernel_rfl
theorem k_path_turns : cDef txt d_path_turns = some c_path_turns := by kernel_rfl
theorem z_path_turns : scopeB d_path_turns = true := by kernel_rfl
theorem k_lots : cDef txt d_lots = some c_lots := by kernel_rfl
theorem z_lots : scopeB d_lots = true := by kernel_rfl
theorem k_turns_in : cDef txt d_turns_in = some c_turns_in := by kernel_rfl
theorem z_turns_in : scopeB d_turns_in = true := by kernel_rfl
theorem k_turns_chances : cDef txt d_turns_chances = some c_turns_chances := by kernel_rfl
theorem z_turns_chances : scopeB d_turns_chances = true := by kernel_rfl
theorem k_mean_turns : cDef txt d_mean_turns = some c_mean_turns := by kernel_rfl
theorem z_mean_turns : scopeB d_mean_turns = true := by kernel_rfl
theorem k_path_chance : cDef txt d_path_chance = some c_path_chance := by kernel_rfl
theorem z_path_chance : scopeB d_path_chance = true := by kernel_rfl
theorem k_ring_chance : cDef txt d_ring_chance = some c_ring_chance := by kernel_rfl
theorem z_ring_chance : scopeB d_ring_chance = true := by kernel_rfl
theorem k_turn_chance : cDef txt d_turn_chance = some c_turn_chance := by kernel_rfl
theorem z_turn_chance : scopeB d_turn_chance = true := by kernel_rfl
theorem k_set_chance : cDef txt d_set_chance = some c_set_chance := by kernel_rfl
theorem z_set_chance : scopeB d_set_chance = true := by kernel_rfl
theorem k_end_chance : cDef txt d_end_chance = some c_end_chance := by kernel_rfl
theorem z_end_chance : scopeB d_end_chance = true := by kernel_rfl
theorem k_first_in : cDef txt d_first_in = some c_first_in := by kernel_rfl
theorem z_first_in : scopeB d_first_in = true := by kernel_rfl
theorem k_near : cDef txt d_near = some c_near := by kernel_rfl
theorem z_near : scopeB d_near = true := by kernel_rfl
theorem k_first_chance : cDef txt d_first_chance = some c_first_chance := by kernel_rfl
theorem z_first_chance : scopeB d_first_chance = true := by kernel_rfl
theorem k__law_alike : cDef txt d__law_alike = some c__law_alike := by kernel_rfl
theorem z__law_alike : scopeB d__law_alike = true := by kernel_rfl
theorem k_law : cDef txt d_law = some c_law := by kernel_rfl
theorem z_law : scopeB d_law = true := by kernel_rfl
theorem isP : Is txt prg := is_of ⟨⟨k_is_in, z_is_in⟩, ⟨k_gcd, z_gcd⟩, ⟨k_reduced, z_reduced⟩, ⟨k_plus, z_plus⟩, ⟨k_times, z_times⟩, ⟨k_need_line, z_need_line⟩, ⟨k_is_cells, z_is_cells⟩, ⟨k_need_cell, z_need_cell⟩, ⟨k_held_in, z_held_in⟩, ⟨k_flanks, z_flanks⟩, ⟨k_is_flanked, z_is_flanked⟩, ⟨k_ready_in, z_ready_in⟩, ⟨k_with_turned, z_with_turned⟩, ⟨k_swings_in, z_swings_in⟩, ⟨k_stretches_in, z_stretches_in⟩, ⟨k_need_resting, z_need_resting⟩, ⟨k_is_colours, z_is_colours⟩, ⟨k_need_colours_of, z_need_colours_of⟩, ⟨k_insides, z_insides⟩, ⟨k_turned_cells, z_turned_cells⟩, ⟨k_is_full, z_is_full⟩, ⟨k_can_come, z_can_come⟩, ⟨k_is_end_in, z_is_end_in⟩, ⟨k_is_end, z_is_end⟩, ⟨k_added, z_added⟩, ⟨k_multiplied, z_multiplied⟩, ⟨k_path_sets, z_path_sets⟩, ⟨k_path_ends, z_path_ends⟩, ⟨k_ring_sets, z_ring_sets⟩, ⟨k_ring_ends, z_ring_ends⟩, ⟨k_by_turns, z_by_turns⟩, ⟨k_trimmed, z_trimmed⟩, ⟨k_comes_by_turns, z_comes_by_turns⟩, ⟨k_ends_by_turns, z_ends_by_turns⟩, ⟨k_come_count, z_come_count⟩, ⟨k_end_count, z_end_count⟩, ⟨k_all_ends, z_all_ends⟩, ⟨k_is_hopeful, z_is_hopeful⟩, ⟨k_ends, z_ends⟩, ⟨k_fewest_turns, z_fewest_turns⟩, ⟨k_most_turns, z_most_turns⟩, ⟨k_factorial, z_factorial⟩, ⟨k_ways_to, z_ways_to⟩, ⟨k_ways_in_all, z_ways_in_all⟩, ⟨k_end_with, z_end_with⟩, ⟨k_is_rest_an_end, z_is_rest_an_end⟩, ⟨k_without_carry, z_without_carry⟩, ⟨k_path_worths, z_path_worths⟩, ⟨k_worth_of, z_worth_of⟩, ⟨k_paths_behind, z_paths_behind⟩, ⟨k_paths_of, z_paths_of⟩, ⟨k_worth_in, z_worth_in⟩, ⟨k_worth, z_worth⟩, ⟨k_last_hand, z_last_hand⟩, ⟨k_winning_cells, z_winning_cells⟩, ⟨k_further, z_further⟩, ⟨k_value_of, z_value_of⟩, ⟨k_turns_value, z_turns_value⟩, ⟨k_path_turns, z_path_turns⟩, ⟨k_lots, z_lots⟩, ⟨k_turns_in, z_turns_in⟩, ⟨k_turns_chances, z_turns_chances⟩, ⟨k_mean_turns, z_mean_turns⟩, ⟨k_path_chance, z_path_chance⟩, ⟨k_ring_chance, z_ring_chance⟩, ⟨k_turn_chance, z_turn_chance⟩, ⟨k_set_chance, z_set_chance⟩, ⟨k_end_chance, z_end_chance⟩, ⟨k_first_in, z_first_in⟩, ⟨k_near, z_near⟩, ⟨k_first_chance, z_first_chance⟩, ⟨k__law_alike, z__law_alike⟩, ⟨k_law, z_law⟩, trivial⟩ rfl
theorem main (ns : List Int) (hl : ns.length ≤ 63) : ∃ h', callP prg 1000 40 72 [.ref 0] (start1 ns) = .ok (.bl true) h' := okR_is (by kernel_rfl)
theorem all_mk {l : PySem.W.OpenLaw} {w : World} {K : PySem.W.Frag} {h : Heap} {mg : Str → Option Value} {fa f0 f1 f2 f3 f4 f5 f6 f7 f8 f9 f10 f11 f12 f13 f14 f15 f16 f17 f18 f19 f20 f21 f22 f23 f24 f25 f26 f27 f28 f29 f30 f31 f32 f33 f34 f35 f36 f37 f38 f39 f40 f41 f42 f43 f44 f45 f46 f47 f48 f49 f50 f51 f52 f53 f54 f55 f56 f57 f58 f59 f60 f61 f62 f63 f64 f65 f66 f67 f68 f69 f70 f71 f72 : Addr} (X : K.In h) (G : h.Ns mainGlobals mg) (hfa : mg "law" = some (.ref fa))
    {od0 an0 od1 an1 od2 an2 od3 an3 od4 an4 od5 an5 od6 an6 od7 an7 od8 an8 od9 an9 od10 an10 od11 an11 od12 an12 od13 an13 od14 an14 od15 an15 od16 an16 od17 an17 od18 an18 od19 an19 od20 an20 od21 an21 od22 an22 od23 an23 od24 an24 od25 an25 od26 an26 od27 an27 od28 an28 od29 an29 od30 an30 od31 an31 od32 an32 od33 an33 od34 an34 od35 an35 od36 an36 od37 an37 od38 an38 od39 an39 od40 an40 od41 an41 od42 an42 od43 an43 od44 an44 od45 an45 od46 an46 od47 an47 od48 an48 od49 an49 od50 an50 od51 an51 od52 an52 od53 an53 od54 an54 od55 an55 od56 an56 od57 an57 od58 an58 od59 an59 od60 an60 od61 an61 od62 an62 od63 an63 od64 an64 od65 an65 od66 an66 od67 an67 od68 an68 od69 an69 od70 an70 od71 an71 od72 an72 : Option Addr} {sl0 sl1 sl2 sl3 sl4 sl5 sl6 sl7 sl8 sl9 sl10 sl11 sl12 sl13 sl14 sl15 sl16 sl17 sl18 sl19 sl20 sl21 sl22 sl23 sl24 sl25 sl26 sl27 sl28 sl29 sl30 sl31 sl32 sl33 sl34 sl35 sl36 sl37 sl38 sl39 sl40 sl41 sl42 sl43 sl44 sl45 sl46 sl47 sl48 sl49 sl50 sl51 sl52 sl53 sl54 sl55 sl56 sl57 sl58 sl59 sl60 sl61 sl62 sl63 sl64 sl65 sl66 sl67 sl68 sl69 sl70 sl71 sl72 : Array (Option Value)} {oc0 kV0 dc0 pm0 cd0 ct0 oc1 kV1 dc1 pm1 cd1 ct1 oc2 kV2 dc2 pm2 cd2 ct2 oc3 kV3 dc3 pm3 cd3 ct3 oc4 kV4 dc4 pm4 cd4 ct4 oc5 kV5 dc5 pm5 cd5 ct5 oc6 kV6 dc6 pm6 cd6 ct6 oc7 kV7 dc7 pm7 cd7 ct7 oc8 kV8 dc8 pm8 cd8 ct8 oc9 kV9 dc9 pm9 cd9 ct9 oc10 kV10 dc10 pm10 cd10 ct10 oc11 kV11 dc11 pm11 cd11 ct11 oc12 kV12 dc12 pm12 cd12 ct12 oc13 kV13 dc13 pm13 cd13 ct13 oc14 kV14 dc14 pm14 cd14 ct14 oc15 kV15 dc15 pm15 cd15 ct15 oc16 kV16 dc16 pm16 cd16 ct16 oc17 kV17 dc17 pm17 cd17 ct17 oc18 kV18 dc18 pm18 cd18 ct18 oc19 kV19 dc19 pm19 cd19 ct19 oc20 kV20 dc20 pm20 cd20 ct20 oc21 kV21 dc21 pm21 cd21 ct21 oc22 kV22 dc22 pm22 cd22 ct22 oc23 kV23 dc23 pm23 cd23 ct23 oc24 kV24 dc24 pm24 cd24 ct24 oc25 kV25 dc25 pm25 cd25 ct25 oc26 kV26 dc26 pm26 cd26 ct26 oc27 kV27 dc27 pm27 cd27 ct27 oc28 kV28 dc28 pm28 cd28 ct28 oc29 kV29 dc29 pm29 cd29 ct29 oc30 kV30 dc30 pm30 cd30 ct30 oc31 kV31 dc31 pm31 cd31 ct31 oc32 kV32 dc32 pm32 cd32 ct32 oc33 kV33 dc33 pm33 cd33 ct33 oc34 kV34 dc34 pm34 cd34 ct34 oc35 kV35 dc35 pm35 cd35 ct35 oc36 kV36 dc36 pm36 cd36 ct36 oc37 kV37 dc37 pm37 cd37 ct37 oc38 kV38 dc38 pm38 cd38 ct38 oc39 kV39 dc39 pm39 cd39 ct39 oc40 kV40 dc40 pm40 cd40 ct40 oc41 kV41 dc41 pm41 cd41 ct41 oc42 kV42 dc42 pm42 cd42 ct42 oc43 kV43 dc43 pm43 cd43 ct43 oc44 kV44 dc44 pm44 cd44 ct44 oc45 kV45 dc45 pm45 cd45 ct45 oc46 kV46 dc46 pm46 cd46 ct46 oc47 kV47 dc47 pm47 cd47 ct47 oc48 kV48 dc48 pm48 cd48 ct48 oc49 kV49 dc49 pm49 cd49 ct49 oc50 kV50 dc50 pm50 cd50 ct50 oc51 kV51 dc51 pm51 cd51 ct51 oc52 kV52 dc52 pm52 cd52 ct52 oc53 kV53 dc53 pm53 cd53 ct53 oc54 kV54 dc54 pm54 cd54 ct54 oc55 kV55 dc55 pm55 cd55 ct55 oc56 kV56 dc56 pm56 cd56 ct56 oc57 kV57 dc57 pm57 cd57 ct57 oc58 kV58 dc58 pm58 cd58 ct58 oc59 kV59 dc59 pm59 cd59 ct59 oc60 kV60 dc60 pm60 cd60 ct60 oc61 kV61 dc61 pm61 cd61 ct61 oc62 kV62 dc62 pm62 cd62 ct62 oc63 kV63 dc63 pm63 cd63 ct63 oc64 kV64 dc64 pm64 cd64 ct64 oc65 kV65 dc65 pm65 cd65 ct65 oc66 kV66 dc66 pm66 cd66 ct66 oc67 kV67 dc67 pm67 cd67 ct67 oc68 kV68 dc68 pm68 cd68 ct68 oc69 kV69 dc69 pm69 cd69 ct69 oc70 kV70 dc70 pm70 cd70 ct70 oc71 kV71 dc71 pm71 cd71 ct71 oc72 kV72 dc72 pm72 cd72 ct72 : Value} {t0 t1 t2 t3 t4 t5 : Tok}
    (a0 : PySem.W.nsIn K mainGlobals "is_in" = some (some (.ref f0))) (l0 : K.lookup f0 = some ⟨oc0, od0, .func (PySem.W.fnOf "is_in" "is_in" (defArgs s_is_in) (defBody s_is_in) (defScope s_is_in) .none kV0 dc0 pm0 an0 cd0 ct0), sl0⟩) (c0 : PySem.W.codeIn K cd0 "is_in" = true) (k0 : PySem.W.keepIn K (.ref f0) = true)
    (a1 : PySem.W.nsIn K mainGlobals "gcd" = some (some (.ref f1))) (l1 : K.lookup f1 = some ⟨oc1, od1, .func (PySem.W.fnOf "gcd" "gcd" (defArgs s_gcd) (defBody s_gcd) (defScope s_gcd) .none kV1 dc1 pm1 an1 cd1 ct1), sl1⟩) (c1 : PySem.W.codeIn K cd1 "gcd" = true) (k1 : PySem.W.keepIn K (.ref f1) = true)
    (a2 : PySem.W.nsIn K mainGlobals "reduced" = some (some (.ref f2))) (l2 : K.lookup f2 = some ⟨oc2, od2, .func (PySem.W.fnOf "reduced" "reduced" (defArgs s_reduced) (defBody s_reduced) (defScope s_reduced) .none kV2 dc2 pm2 an2 cd2 ct2), sl2⟩) (c2 : PySem.W.codeIn K cd2 "reduced" = true) (k2 : PySem.W.keepIn K (.ref f2) = true)
    (a3 : PySem.W.nsIn K mainGlobals "plus" = some (some (.ref f3))) (l3 : K.lookup f3 = some ⟨oc3, od3, .func (PySem.W.fnOf "plus" "plus" (defArgs s_plus) (defBody s_plus) (defScope s_plus) .none kV3 dc3 pm3 an3 cd3 ct3), sl3⟩) (c3 : PySem.W.codeIn K cd3 "plus" = true) (k3 : PySem.W.keepIn K (.ref f3) = true)
    (a4 : PySem.W.nsIn K mainGlobals "times" = some (some (.ref f4))) (l4 : K.lookup f4 = some ⟨oc4, od4, .func (PySem.W.fnOf "times" "times" (defArgs s_times) (defBody s_times) (defScope s_times) .none kV4 dc4 pm4 an4 cd4 ct4), sl4⟩) (c4 : PySem.W.codeIn K cd4 "times" = true) (k4 : PySem.W.keepIn K (.ref f4) = true)
    (a5 : PySem.W.nsIn K mainGlobals "need_line" = some (some (.ref f5))) (l5 : K.lookup f5 = some ⟨oc5, od5, .func (PySem.W.fnOf "need_line" "need_line" (defArgs s_need_line) (defBody s_need_line) (defScope s_need_line) .none kV5 dc5 pm5 an5 cd5 ct5), sl5⟩) (c5 : PySem.W.codeIn K cd5 "need_line" = true) (k5 : PySem.W.keepIn K (.ref f5) = true)
    (a6 : PySem.W.nsIn K mainGlobals "is_cells" = some (some (.ref f6))) (l6 : K.lookup f6 = some ⟨oc6, od6, .func (PySem.W.fnOf "is_cells" "is_cells" (defArgs s_is_cells) (defBody s_is_cells) (defScope s_is_cells) .none kV6 dc6 pm6 an6 cd6 ct6), sl6⟩) (c6 : PySem.W.codeIn K cd6 "is_cells" = true) (k6 : PySem.W.keepIn K (.ref f6) = true)
    (a7 : PySem.W.nsIn K mainGlobals "need_cell" = some (some (.ref f7))) (l7 : K.lookup f7 = some ⟨oc7, od7, .func (PySem.W.fnOf "need_cell" "need_cell" (defArgs s_need_cell) (defBody s_need_cell) (defScope s_need_cell) .none kV7 dc7 pm7 an7 cd7 ct7), sl7⟩) (c7 : PySem.W.codeIn K cd7 "need_cell" = true) (k7 : PySem.W.keepIn K (.ref f7) = true)
    (a8 : PySem.W.nsIn K mainGlobals "held_in" = some (some (.ref f8))) (l8 : K.lookup f8 = some ⟨oc8, od8, .func (PySem.W.fnOf "held_in" "held_in" (defArgs s_held_in) (defBody s_held_in) (defScope s_held_in) .none kV8 dc8 pm8 an8 cd8 ct8), sl8⟩) (c8 : PySem.W.codeIn K cd8 "held_in" = true) (k8 : PySem.W.keepIn K (.ref f8) = true)
    (a9 : PySem.W.nsIn K mainGlobals "flanks" = some (some (.ref f9))) (l9 : K.lookup f9 = some ⟨oc9, od9, .func (PySem.W.fnOf "flanks" "flanks" (defArgs s_flanks) (defBody s_flanks) (defScope s_flanks) .none kV9 dc9 pm9 an9 cd9 ct9), sl9⟩) (c9 : PySem.W.codeIn K cd9 "flanks" = true) (k9 : PySem.W.keepIn K (.ref f9) = true)
    (a10 : PySem.W.nsIn K mainGlobals "is_flanked" = some (some (.ref f10))) (l10 : K.lookup f10 = some ⟨oc10, od10, .func (PySem.W.fnOf "is_flanked" "is_flanked" (defArgs s_is_flanked) (defBody s_is_flanked) (defScope s_is_flanked) .none kV10 dc10 pm10 an10 cd10 ct10), sl10⟩) (c10 : PySem.W.codeIn K cd10 "is_flanked" = true) (k10 : PySem.W.keepIn K (.ref f10) = true)
    (a11 : PySem.W.nsIn K mainGlobals "ready_in" = some (some (.ref f11))) (l11 : K.lookup f11 = some ⟨oc11, od11, .func (PySem.W.fnOf "ready_in" "ready_in" (defArgs s_ready_in) (defBody s_ready_in) (defScope s_ready_in) .none kV11 dc11 pm11 an11 cd11 ct11), sl11⟩) (c11 : PySem.W.codeIn K cd11 "ready_in" = true) (k11 : PySem.W.keepIn K (.ref f11) = true)
    (a12 : PySem.W.nsIn K mainGlobals "with_turned" = some (some (.ref f12))) (l12 : K.lookup f12 = some ⟨oc12, od12, .func (PySem.W.fnOf "with_turned" "with_turned" (defArgs s_with_turned) (defBody s_with_turned) (defScope s_with_turned) .none kV12 dc12 pm12 an12 cd12 ct12), sl12⟩) (c12 : PySem.W.codeIn K cd12 "with_turned" = true) (k12 : PySem.W.keepIn K (.ref f12) = true)
    (a13 : PySem.W.nsIn K mainGlobals "swings_in" = some (some (.ref f13))) (l13 : K.lookup f13 = some ⟨oc13, od13, .func (PySem.W.fnOf "swings_in" "swings_in" (defArgs s_swings_in) (defBody s_swings_in) (defScope s_swings_in) .none kV13 dc13 pm13 an13 cd13 ct13), sl13⟩) (c13 : PySem.W.codeIn K cd13 "swings_in" = true) (k13 : PySem.W.keepIn K (.ref f13) = true)
    (a14 : PySem.W.nsIn K mainGlobals "stretches_in" = some (some (.ref f14))) (l14 : K.lookup f14 = some ⟨oc14, od14, .func (PySem.W.fnOf "stretches_in" "stretches_in" (defArgs s_stretches_in) (defBody s_stretches_in) (defScope s_stretches_in) .none kV14 dc14 pm14 an14 cd14 ct14), sl14⟩) (c14 : PySem.W.codeIn K cd14 "stretches_in" = true) (k14 : PySem.W.keepIn K (.ref f14) = true)
    (a15 : PySem.W.nsIn K mainGlobals "need_resting" = some (some (.ref f15))) (l15 : K.lookup f15 = some ⟨oc15, od15, .func (PySem.W.fnOf "need_resting" "need_resting" (defArgs s_need_resting) (defBody s_need_resting) (defScope s_need_resting) .none kV15 dc15 pm15 an15 cd15 ct15), sl15⟩) (c15 : PySem.W.codeIn K cd15 "need_resting" = true) (k15 : PySem.W.keepIn K (.ref f15) = true)
    (a16 : PySem.W.nsIn K mainGlobals "is_colours" = some (some (.ref f16))) (l16 : K.lookup f16 = some ⟨oc16, od16, .func (PySem.W.fnOf "is_colours" "is_colours" (defArgs s_is_colours) (defBody s_is_colours) (defScope s_is_colours) .none kV16 dc16 pm16 an16 cd16 ct16), sl16⟩) (c16 : PySem.W.codeIn K cd16 "is_colours" = true) (k16 : PySem.W.keepIn K (.ref f16) = true)
    (a17 : PySem.W.nsIn K mainGlobals "need_colours_of" = some (some (.ref f17))) (l17 : K.lookup f17 = some ⟨oc17, od17, .func (PySem.W.fnOf "need_colours_of" "need_colours_of" (defArgs s_need_colours_of) (defBody s_need_colours_of) (defScope s_need_colours_of) .none kV17 dc17 pm17 an17 cd17 ct17), sl17⟩) (c17 : PySem.W.codeIn K cd17 "need_colours_of" = true) (k17 : PySem.W.keepIn K (.ref f17) = true)
    (a18 : PySem.W.nsIn K mainGlobals "insides" = some (some (.ref f18))) (l18 : K.lookup f18 = some ⟨oc18, od18, .func (PySem.W.fnOf "insides" "insides" (defArgs s_insides) (defBody s_insides) (defScope s_insides) .none kV18 dc18 pm18 an18 cd18 ct18), sl18⟩) (c18 : PySem.W.codeIn K cd18 "insides" = true) (k18 : PySem.W.keepIn K (.ref f18) = true)
    (a19 : PySem.W.nsIn K mainGlobals "turned_cells" = some (some (.ref f19))) (l19 : K.lookup f19 = some ⟨oc19, od19, .func (PySem.W.fnOf "turned_cells" "turned_cells" (defArgs s_turned_cells) (defBody s_turned_cells) (defScope s_turned_cells) .none kV19 dc19 pm19 an19 cd19 ct19), sl19⟩) (c19 : PySem.W.codeIn K cd19 "turned_cells" = true) (k19 : PySem.W.keepIn K (.ref f19) = true)
    (a20 : PySem.W.nsIn K mainGlobals "is_full" = some (some (.ref f20))) (l20 : K.lookup f20 = some ⟨oc20, od20, .func (PySem.W.fnOf "is_full" "is_full" (defArgs s_is_full) (defBody s_is_full) (defScope s_is_full) .none kV20 dc20 pm20 an20 cd20 ct20), sl20⟩) (c20 : PySem.W.codeIn K cd20 "is_full" = true) (k20 : PySem.W.keepIn K (.ref f20) = true)
    (a21 : PySem.W.nsIn K mainGlobals "can_come" = some (some (.ref f21))) (l21 : K.lookup f21 = some ⟨oc21, od21, .func (PySem.W.fnOf "can_come" "can_come" (defArgs s_can_come) (defBody s_can_come) (defScope s_can_come) .none kV21 dc21 pm21 an21 cd21 ct21), sl21⟩) (c21 : PySem.W.codeIn K cd21 "can_come" = true) (k21 : PySem.W.keepIn K (.ref f21) = true)
    (a22 : PySem.W.nsIn K mainGlobals "is_end_in" = some (some (.ref f22))) (l22 : K.lookup f22 = some ⟨oc22, od22, .func (PySem.W.fnOf "is_end_in" "is_end_in" (defArgs s_is_end_in) (defBody s_is_end_in) (defScope s_is_end_in) .none kV22 dc22 pm22 an22 cd22 ct22), sl22⟩) (c22 : PySem.W.codeIn K cd22 "is_end_in" = true) (k22 : PySem.W.keepIn K (.ref f22) = true)
    (a23 : PySem.W.nsIn K mainGlobals "is_end" = some (some (.ref f23))) (l23 : K.lookup f23 = some ⟨oc23, od23, .func (PySem.W.fnOf "is_end" "is_end" (defArgs s_is_end) (defBody s_is_end) (defScope s_is_end) .none kV23 dc23 pm23 an23 cd23 ct23), sl23⟩) (c23 : PySem.W.codeIn K cd23 "is_end" = true) (k23 : PySem.W.keepIn K (.ref f23) = true)
    (a24 : PySem.W.nsIn K mainGlobals "added" = some (some (.ref f24))) (l24 : K.lookup f24 = some ⟨oc24, od24, .func (PySem.W.fnOf "added" "added" (defArgs s_added) (defBody s_added) (defScope s_added) .none kV24 dc24 pm24 an24 cd24 ct24), sl24⟩) (c24 : PySem.W.codeIn K cd24 "added" = true) (k24 : PySem.W.keepIn K (.ref f24) = true)
    (a25 : PySem.W.nsIn K mainGlobals "multiplied" = some (some (.ref f25))) (l25 : K.lookup f25 = some ⟨oc25, od25, .func (PySem.W.fnOf "multiplied" "multiplied" (defArgs s_multiplied) (defBody s_multiplied) (defScope s_multiplied) .none kV25 dc25 pm25 an25 cd25 ct25), sl25⟩) (c25 : PySem.W.codeIn K cd25 "multiplied" = true) (k25 : PySem.W.keepIn K (.ref f25) = true)
    (a26 : PySem.W.nsIn K mainGlobals "path_sets" = some (some (.ref f26))) (l26 : K.lookup f26 = some ⟨oc26, od26, .func (PySem.W.fnOf "path_sets" "path_sets" (defArgs s_path_sets) (defBody s_path_sets) (defScope s_path_sets) .none kV26 dc26 pm26 an26 cd26 ct26), sl26⟩) (c26 : PySem.W.codeIn K cd26 "path_sets" = true) (k26 : PySem.W.keepIn K (.ref f26) = true)
    (a27 : PySem.W.nsIn K mainGlobals "path_ends" = some (some (.ref f27))) (l27 : K.lookup f27 = some ⟨oc27, od27, .func (PySem.W.fnOf "path_ends" "path_ends" (defArgs s_path_ends) (defBody s_path_ends) (defScope s_path_ends) .none kV27 dc27 pm27 an27 cd27 ct27), sl27⟩) (c27 : PySem.W.codeIn K cd27 "path_ends" = true) (k27 : PySem.W.keepIn K (.ref f27) = true)
    (a28 : PySem.W.nsIn K mainGlobals "ring_sets" = some (some (.ref f28))) (l28 : K.lookup f28 = some ⟨oc28, od28, .func (PySem.W.fnOf "ring_sets" "ring_sets" (defArgs s_ring_sets) (defBody s_ring_sets) (defScope s_ring_sets) .none kV28 dc28 pm28 an28 cd28 ct28), sl28⟩) (c28 : PySem.W.codeIn K cd28 "ring_sets" = true) (k28 : PySem.W.keepIn K (.ref f28) = true)
    (a29 : PySem.W.nsIn K mainGlobals "ring_ends" = some (some (.ref f29))) (l29 : K.lookup f29 = some ⟨oc29, od29, .func (PySem.W.fnOf "ring_ends" "ring_ends" (defArgs s_ring_ends) (defBody s_ring_ends) (defScope s_ring_ends) .none kV29 dc29 pm29 an29 cd29 ct29), sl29⟩) (c29 : PySem.W.codeIn K cd29 "ring_ends" = true) (k29 : PySem.W.keepIn K (.ref f29) = true)
    (a30 : PySem.W.nsIn K mainGlobals "by_turns" = some (some (.ref f30))) (l30 : K.lookup f30 = some ⟨oc30, od30, .func (PySem.W.fnOf "by_turns" "by_turns" (defArgs s_by_turns) (defBody s_by_turns) (defScope s_by_turns) .none kV30 dc30 pm30 an30 cd30 ct30), sl30⟩) (c30 : PySem.W.codeIn K cd30 "by_turns" = true) (k30 : PySem.W.keepIn K (.ref f30) = true)
    (a31 : PySem.W.nsIn K mainGlobals "trimmed" = some (some (.ref f31))) (l31 : K.lookup f31 = some ⟨oc31, od31, .func (PySem.W.fnOf "trimmed" "trimmed" (defArgs s_trimmed) (defBody s_trimmed) (defScope s_trimmed) .none kV31 dc31 pm31 an31 cd31 ct31), sl31⟩) (c31 : PySem.W.codeIn K cd31 "trimmed" = true) (k31 : PySem.W.keepIn K (.ref f31) = true)
    (a32 : PySem.W.nsIn K mainGlobals "comes_by_turns" = some (some (.ref f32))) (l32 : K.lookup f32 = some ⟨oc32, od32, .func (PySem.W.fnOf "comes_by_turns" "comes_by_turns" (defArgs s_comes_by_turns) (defBody s_comes_by_turns) (defScope s_comes_by_turns) .none kV32 dc32 pm32 an32 cd32 ct32), sl32⟩) (c32 : PySem.W.codeIn K cd32 "comes_by_turns" = true) (k32 : PySem.W.keepIn K (.ref f32) = true)
    (a33 : PySem.W.nsIn K mainGlobals "ends_by_turns" = some (some (.ref f33))) (l33 : K.lookup f33 = some ⟨oc33, od33, .func (PySem.W.fnOf "ends_by_turns" "ends_by_turns" (defArgs s_ends_by_turns) (defBody s_ends_by_turns) (defScope s_ends_by_turns) .none kV33 dc33 pm33 an33 cd33 ct33), sl33⟩) (c33 : PySem.W.codeIn K cd33 "ends_by_turns" = true) (k33 : PySem.W.keepIn K (.ref f33) = true)
    (a34 : PySem.W.nsIn K mainGlobals "come_count" = some (some (.ref f34))) (l34 : K.lookup f34 = some ⟨oc34, od34, .func (PySem.W.fnOf "come_count" "come_count" (defArgs s_come_count) (defBody s_come_count) (defScope s_come_count) .none kV34 dc34 pm34 an34 cd34 ct34), sl34⟩) (c34 : PySem.W.codeIn K cd34 "come_count" = true) (k34 : PySem.W.keepIn K (.ref f34) = true)
    (a35 : PySem.W.nsIn K mainGlobals "end_count" = some (some (.ref f35))) (l35 : K.lookup f35 = some ⟨oc35, od35, .func (PySem.W.fnOf "end_count" "end_count" (defArgs s_end_count) (defBody s_end_count) (defScope s_end_count) .none kV35 dc35 pm35 an35 cd35 ct35), sl35⟩) (c35 : PySem.W.codeIn K cd35 "end_count" = true) (k35 : PySem.W.keepIn K (.ref f35) = true)
    (a36 : PySem.W.nsIn K mainGlobals "all_ends" = some (some (.ref f36))) (l36 : K.lookup f36 = some ⟨oc36, od36, .func (PySem.W.fnOf "all_ends" "all_ends" (defArgs s_all_ends) (defBody s_all_ends) (defScope s_all_ends) .none kV36 dc36 pm36 an36 cd36 ct36), sl36⟩) (c36 : PySem.W.codeIn K cd36 "all_ends" = true) (k36 : PySem.W.keepIn K (.ref f36) = true)
    (a37 : PySem.W.nsIn K mainGlobals "is_hopeful" = some (some (.ref f37))) (l37 : K.lookup f37 = some ⟨oc37, od37, .func (PySem.W.fnOf "is_hopeful" "is_hopeful" (defArgs s_is_hopeful) (defBody s_is_hopeful) (defScope s_is_hopeful) .none kV37 dc37 pm37 an37 cd37 ct37), sl37⟩) (c37 : PySem.W.codeIn K cd37 "is_hopeful" = true) (k37 : PySem.W.keepIn K (.ref f37) = true)
    (a38 : PySem.W.nsIn K mainGlobals "ends" = some (some (.ref f38))) (l38 : K.lookup f38 = some ⟨oc38, od38, .func (PySem.W.fnOf "ends" "ends" (defArgs s_ends) (defBody s_ends) (defScope s_ends) .none kV38 dc38 pm38 an38 cd38 ct38), sl38⟩) (c38 : PySem.W.codeIn K cd38 "ends" = true) (k38 : PySem.W.keepIn K (.ref f38) = true)
    (a39 : PySem.W.nsIn K mainGlobals "fewest_turns" = some (some (.ref f39))) (l39 : K.lookup f39 = some ⟨oc39, od39, .func (PySem.W.fnOf "fewest_turns" "fewest_turns" (defArgs s_fewest_turns) (defBody s_fewest_turns) (defScope s_fewest_turns) .none kV39 dc39 pm39 an39 cd39 ct39), sl39⟩) (c39 : PySem.W.codeIn K cd39 "fewest_turns" = true) (k39 : PySem.W.keepIn K (.ref f39) = true)
    (a40 : PySem.W.nsIn K mainGlobals "most_turns" = some (some (.ref f40))) (l40 : K.lookup f40 = some ⟨oc40, od40, .func (PySem.W.fnOf "most_turns" "most_turns" (defArgs s_most_turns) (defBody s_most_turns) (defScope s_most_turns) .none kV40 dc40 pm40 an40 cd40 ct40), sl40⟩) (c40 : PySem.W.codeIn K cd40 "most_turns" = true) (k40 : PySem.W.keepIn K (.ref f40) = true)
    (a41 : PySem.W.nsIn K mainGlobals "factorial" = some (some (.ref f41))) (l41 : K.lookup f41 = some ⟨oc41, od41, .func (PySem.W.fnOf "factorial" "factorial" (defArgs s_factorial) (defBody s_factorial) (defScope s_factorial) .none kV41 dc41 pm41 an41 cd41 ct41), sl41⟩) (c41 : PySem.W.codeIn K cd41 "factorial" = true) (k41 : PySem.W.keepIn K (.ref f41) = true)
    (a42 : PySem.W.nsIn K mainGlobals "ways_to" = some (some (.ref f42))) (l42 : K.lookup f42 = some ⟨oc42, od42, .func (PySem.W.fnOf "ways_to" "ways_to" (defArgs s_ways_to) (defBody s_ways_to) (defScope s_ways_to) .none kV42 dc42 pm42 an42 cd42 ct42), sl42⟩) (c42 : PySem.W.codeIn K cd42 "ways_to" = true) (k42 : PySem.W.keepIn K (.ref f42) = true)
    (a43 : PySem.W.nsIn K mainGlobals "ways_in_all" = some (some (.ref f43))) (l43 : K.lookup f43 = some ⟨oc43, od43, .func (PySem.W.fnOf "ways_in_all" "ways_in_all" (defArgs s_ways_in_all) (defBody s_ways_in_all) (defScope s_ways_in_all) .none kV43 dc43 pm43 an43 cd43 ct43), sl43⟩) (c43 : PySem.W.codeIn K cd43 "ways_in_all" = true) (k43 : PySem.W.keepIn K (.ref f43) = true)
    (a44 : PySem.W.nsIn K mainGlobals "end_with" = some (some (.ref f44))) (l44 : K.lookup f44 = some ⟨oc44, od44, .func (PySem.W.fnOf "end_with" "end_with" (defArgs s_end_with) (defBody s_end_with) (defScope s_end_with) .none kV44 dc44 pm44 an44 cd44 ct44), sl44⟩) (c44 : PySem.W.codeIn K cd44 "end_with" = true) (k44 : PySem.W.keepIn K (.ref f44) = true)
    (a45 : PySem.W.nsIn K mainGlobals "is_rest_an_end" = some (some (.ref f45))) (l45 : K.lookup f45 = some ⟨oc45, od45, .func (PySem.W.fnOf "is_rest_an_end" "is_rest_an_end" (defArgs s_is_rest_an_end) (defBody s_is_rest_an_end) (defScope s_is_rest_an_end) .none kV45 dc45 pm45 an45 cd45 ct45), sl45⟩) (c45 : PySem.W.codeIn K cd45 "is_rest_an_end" = true) (k45 : PySem.W.keepIn K (.ref f45) = true)
    (a46 : PySem.W.nsIn K mainGlobals "without_carry" = some (some (.ref f46))) (l46 : K.lookup f46 = some ⟨oc46, od46, .func (PySem.W.fnOf "without_carry" "without_carry" (defArgs s_without_carry) (defBody s_without_carry) (defScope s_without_carry) .none kV46 dc46 pm46 an46 cd46 ct46), sl46⟩) (c46 : PySem.W.codeIn K cd46 "without_carry" = true) (k46 : PySem.W.keepIn K (.ref f46) = true)
    (a47 : PySem.W.nsIn K mainGlobals "path_worths" = some (some (.ref f47))) (l47 : K.lookup f47 = some ⟨oc47, od47, .func (PySem.W.fnOf "path_worths" "path_worths" (defArgs s_path_worths) (defBody s_path_worths) (defScope s_path_worths) .none kV47 dc47 pm47 an47 cd47 ct47), sl47⟩) (c47 : PySem.W.codeIn K cd47 "path_worths" = true) (k47 : PySem.W.keepIn K (.ref f47) = true)
    (a48 : PySem.W.nsIn K mainGlobals "worth_of" = some (some (.ref f48))) (l48 : K.lookup f48 = some ⟨oc48, od48, .func (PySem.W.fnOf "worth_of" "worth_of" (defArgs s_worth_of) (defBody s_worth_of) (defScope s_worth_of) .none kV48 dc48 pm48 an48 cd48 ct48), sl48⟩) (c48 : PySem.W.codeIn K cd48 "worth_of" = true) (k48 : PySem.W.keepIn K (.ref f48) = true)
    (a49 : PySem.W.nsIn K mainGlobals "paths_behind" = some (some (.ref f49))) (l49 : K.lookup f49 = some ⟨oc49, od49, .func (PySem.W.fnOf "paths_behind" "paths_behind" (defArgs s_paths_behind) (defBody s_paths_behind) (defScope s_paths_behind) .none kV49 dc49 pm49 an49 cd49 ct49), sl49⟩) (c49 : PySem.W.codeIn K cd49 "paths_behind" = true) (k49 : PySem.W.keepIn K (.ref f49) = true)
    (a50 : PySem.W.nsIn K mainGlobals "paths_of" = some (some (.ref f50))) (l50 : K.lookup f50 = some ⟨oc50, od50, .func (PySem.W.fnOf "paths_of" "paths_of" (defArgs s_paths_of) (defBody s_paths_of) (defScope s_paths_of) .none kV50 dc50 pm50 an50 cd50 ct50), sl50⟩) (c50 : PySem.W.codeIn K cd50 "paths_of" = true) (k50 : PySem.W.keepIn K (.ref f50) = true)
    (a51 : PySem.W.nsIn K mainGlobals "worth_in" = some (some (.ref f51))) (l51 : K.lookup f51 = some ⟨oc51, od51, .func (PySem.W.fnOf "worth_in" "worth_in" (defArgs s_worth_in) (defBody s_worth_in) (defScope s_worth_in) .none kV51 dc51 pm51 an51 cd51 ct51), sl51⟩) (c51 : PySem.W.codeIn K cd51 "worth_in" = true) (k51 : PySem.W.keepIn K (.ref f51) = true)
    (a52 : PySem.W.nsIn K mainGlobals "worth" = some (some (.ref f52))) (l52 : K.lookup f52 = some ⟨oc52, od52, .func (PySem.W.fnOf "worth" "worth" (defArgs s_worth) (defBody s_worth) (defScope s_worth) .none kV52 dc52 pm52 an52 cd52 ct52), sl52⟩) (c52 : PySem.W.codeIn K cd52 "worth" = true) (k52 : PySem.W.keepIn K (.ref f52) = true)
    (a53 : PySem.W.nsIn K mainGlobals "last_hand" = some (some (.ref f53))) (l53 : K.lookup f53 = some ⟨oc53, od53, .func (PySem.W.fnOf "last_hand" "last_hand" (defArgs s_last_hand) (defBody s_last_hand) (defScope s_last_hand) .none kV53 dc53 pm53 an53 cd53 ct53), sl53⟩) (c53 : PySem.W.codeIn K cd53 "last_hand" = true) (k53 : PySem.W.keepIn K (.ref f53) = true)
    (a54 : PySem.W.nsIn K mainGlobals "winning_cells" = some (some (.ref f54))) (l54 : K.lookup f54 = some ⟨oc54, od54, .func (PySem.W.fnOf "winning_cells" "winning_cells" (defArgs s_winning_cells) (defBody s_winning_cells) (defScope s_winning_cells) .none kV54 dc54 pm54 an54 cd54 ct54), sl54⟩) (c54 : PySem.W.codeIn K cd54 "winning_cells" = true) (k54 : PySem.W.keepIn K (.ref f54) = true)
    (a55 : PySem.W.nsIn K mainGlobals "further" = some (some (.ref f55))) (l55 : K.lookup f55 = some ⟨oc55, od55, .func (PySem.W.fnOf "further" "further" (defArgs s_further) (defBody s_further) (defScope s_further) .none kV55 dc55 pm55 an55 cd55 ct55), sl55⟩) (c55 : PySem.W.codeIn K cd55 "further" = true) (k55 : PySem.W.keepIn K (.ref f55) = true)
    (a56 : PySem.W.nsIn K mainGlobals "value_of" = some (some (.ref f56))) (l56 : K.lookup f56 = some ⟨oc56, od56, .func (PySem.W.fnOf "value_of" "value_of" (defArgs s_value_of) (defBody s_value_of) (defScope s_value_of) .none kV56 dc56 pm56 an56 cd56 ct56), sl56⟩) (c56 : PySem.W.codeIn K cd56 "value_of" = true) (k56 : PySem.W.keepIn K (.ref f56) = true)
    (a57 : PySem.W.nsIn K mainGlobals "turns_value" = some (some (.ref f57))) (l57 : K.lookup f57 = some ⟨oc57, od57, .func (PySem.W.fnOf "turns_value" "turns_value" (defArgs s_turns_value) (defBody s_turns_value) (defScope s_turns_value) .none kV57 dc57 pm57 an57 cd57 ct57), sl57⟩) (c57 : PySem.W.codeIn K cd57 "turns_value" = true) (k57 : PySem.W.keepIn K (.ref f57) = true)
    (a58 : PySem.W.nsIn K mainGlobals "path_turns" = some (some (.ref f58))) (l58 : K.lookup f58 = some ⟨oc58, od58, .func (PySem.W.fnOf "path_turns" "path_turns" (defArgs s_path_turns) (defBody s_path_turns) (defScope s_path_turns) .none kV58 dc58 pm58 an58 cd58 ct58), sl58⟩) (c58 : PySem.W.codeIn K cd58 "path_turns" = true) (k58 : PySem.W.keepIn K (.ref f58) = true)
    (a59 : PySem.W.nsIn K mainGlobals "lots" = some (some (.ref f59))) (l59 : K.lookup f59 = some ⟨oc59, od59, .func (PySem.W.fnOf "lots" "lots" (defArgs s_lots) (defBody s_lots) (defScope s_lots) .none kV59 dc59 pm59 an59 cd59 ct59), sl59⟩) (c59 : PySem.W.codeIn K cd59 "lots" = true) (k59 : PySem.W.keepIn K (.ref f59) = true)
    (a60 : PySem.W.nsIn K mainGlobals "turns_in" = some (some (.ref f60))) (l60 : K.lookup f60 = some ⟨oc60, od60, .func (PySem.W.fnOf "turns_in" "turns_in" (defArgs s_turns_in) (defBody s_turns_in) (defScope s_turns_in) .none kV60 dc60 pm60 an60 cd60 ct60), sl60⟩) (c60 : PySem.W.codeIn K cd60 "turns_in" = true) (k60 : PySem.W.keepIn K (.ref f60) = true)
    (a61 : PySem.W.nsIn K mainGlobals "turns_chances" = some (some (.ref f61))) (l61 : K.lookup f61 = some ⟨oc61, od61, .func (PySem.W.fnOf "turns_chances" "turns_chances" (defArgs s_turns_chances) (defBody s_turns_chances) (defScope s_turns_chances) .none kV61 dc61 pm61 an61 cd61 ct61), sl61⟩) (c61 : PySem.W.codeIn K cd61 "turns_chances" = true) (k61 : PySem.W.keepIn K (.ref f61) = true)
    (a62 : PySem.W.nsIn K mainGlobals "mean_turns" = some (some (.ref f62))) (l62 : K.lookup f62 = some ⟨oc62, od62, .func (PySem.W.fnOf "mean_turns" "mean_turns" (defArgs s_mean_turns) (defBody s_mean_turns) (defScope s_mean_turns) .none kV62 dc62 pm62 an62 cd62 ct62), sl62⟩) (c62 : PySem.W.codeIn K cd62 "mean_turns" = true) (k62 : PySem.W.keepIn K (.ref f62) = true)
    (a63 : PySem.W.nsIn K mainGlobals "path_chance" = some (some (.ref f63))) (l63 : K.lookup f63 = some ⟨oc63, od63, .func (PySem.W.fnOf "path_chance" "path_chance" (defArgs s_path_chance) (defBody s_path_chance) (defScope s_path_chance) .none kV63 dc63 pm63 an63 cd63 ct63), sl63⟩) (c63 : PySem.W.codeIn K cd63 "path_chance" = true) (k63 : PySem.W.keepIn K (.ref f63) = true)
    (a64 : PySem.W.nsIn K mainGlobals "ring_chance" = some (some (.ref f64))) (l64 : K.lookup f64 = some ⟨oc64, od64, .func (PySem.W.fnOf "ring_chance" "ring_chance" (defArgs s_ring_chance) (defBody s_ring_chance) (defScope s_ring_chance) .none kV64 dc64 pm64 an64 cd64 ct64), sl64⟩) (c64 : PySem.W.codeIn K cd64 "ring_chance" = true) (k64 : PySem.W.keepIn K (.ref f64) = true)
    (a65 : PySem.W.nsIn K mainGlobals "turn_chance" = some (some (.ref f65))) (l65 : K.lookup f65 = some ⟨oc65, od65, .func (PySem.W.fnOf "turn_chance" "turn_chance" (defArgs s_turn_chance) (defBody s_turn_chance) (defScope s_turn_chance) .none kV65 dc65 pm65 an65 cd65 ct65), sl65⟩) (c65 : PySem.W.codeIn K cd65 "turn_chance" = true) (k65 : PySem.W.keepIn K (.ref f65) = true)
    (a66 : PySem.W.nsIn K mainGlobals "set_chance" = some (some (.ref f66))) (l66 : K.lookup f66 = some ⟨oc66, od66, .func (PySem.W.fnOf "set_chance" "set_chance" (defArgs s_set_chance) (defBody s_set_chance) (defScope s_set_chance) .none kV66 dc66 pm66 an66 cd66 ct66), sl66⟩) (c66 : PySem.W.codeIn K cd66 "set_chance" = true) (k66 : PySem.W.keepIn K (.ref f66) = true)
    (a67 : PySem.W.nsIn K mainGlobals "end_chance" = some (some (.ref f67))) (l67 : K.lookup f67 = some ⟨oc67, od67, .func (PySem.W.fnOf "end_chance" "end_chance" (defArgs s_end_chance) (defBody s_end_chance) (defScope s_end_chance) .none kV67 dc67 pm67 an67 cd67 ct67), sl67⟩) (c67 : PySem.W.codeIn K cd67 "end_chance" = true) (k67 : PySem.W.keepIn K (.ref f67) = true)
    (a68 : PySem.W.nsIn K mainGlobals "first_in" = some (some (.ref f68))) (l68 : K.lookup f68 = some ⟨oc68, od68, .func (PySem.W.fnOf "first_in" "first_in" (defArgs s_first_in) (defBody s_first_in) (defScope s_first_in) .none kV68 dc68 pm68 an68 cd68 ct68), sl68⟩) (c68 : PySem.W.codeIn K cd68 "first_in" = true) (k68 : PySem.W.keepIn K (.ref f68) = true)
    (a69 : PySem.W.nsIn K mainGlobals "near" = some (some (.ref f69))) (l69 : K.lookup f69 = some ⟨oc69, od69, .func (PySem.W.fnOf "near" "near" (defArgs s_near) (defBody s_near) (defScope s_near) .none kV69 dc69 pm69 an69 cd69 ct69), sl69⟩) (c69 : PySem.W.codeIn K cd69 "near" = true) (k69 : PySem.W.keepIn K (.ref f69) = true)
    (a70 : PySem.W.nsIn K mainGlobals "first_chance" = some (some (.ref f70))) (l70 : K.lookup f70 = some ⟨oc70, od70, .func (PySem.W.fnOf "first_chance" "first_chance" (defArgs s_first_chance) (defBody s_first_chance) (defScope s_first_chance) .none kV70 dc70 pm70 an70 cd70 ct70), sl70⟩) (c70 : PySem.W.codeIn K cd70 "first_chance" = true) (k70 : PySem.W.keepIn K (.ref f70) = true)
    (a71 : PySem.W.nsIn K mainGlobals "_law_alike" = some (some (.ref f71))) (l71 : K.lookup f71 = some ⟨oc71, od71, .func (PySem.W.fnOf "_law_alike" "_law_alike" (defArgs s__law_alike) (defBody s__law_alike) (defScope s__law_alike) .none kV71 dc71 pm71 an71 cd71 ct71), sl71⟩) (c71 : PySem.W.codeIn K cd71 "_law_alike" = true) (k71 : PySem.W.keepIn K (.ref f71) = true)
    (a72 : PySem.W.nsIn K mainGlobals "law" = some (some (.ref f72))) (l72 : K.lookup f72 = some ⟨oc72, od72, .func (PySem.W.fnOf "law" "law" (defArgs s_law) (defBody s_law) (defScope s_law) .none kV72 dc72 pm72 an72 cd72 ct72), sl72⟩) (c72 : PySem.W.codeIn K cd72 "law" = true) (k72 : PySem.W.keepIn K (.ref f72) = true)
    (g0 : PySem.W.nsIn K mainGlobals "MOST_CELLS" = some (some (.int 40 t0)))
    (g1 : PySem.W.nsIn K mainGlobals "MOST_COLOUR" = some (some (.int 9 t1)))
    (g2 : PySem.W.nsIn K mainGlobals "LEAST_RING" = some (some (.int 3 t2)))
    (g3 : PySem.W.nsIn K mainGlobals "MOST_ENDS" = some (some (.int 2000 t3)))
    (g4 : PySem.W.nsIn K mainGlobals "MOST_READY_hands" = some (some (.int 16 t4)))
    (g5 : PySem.W.nsIn K mainGlobals "MOST_READY_chances" = some (some (.int 16 t5)))
    (z0 : PySem.W.nsIn K mainGlobals "len" = some none)
    (z1 : PySem.W.nsIn K mainGlobals "max" = some none)
    (z2 : PySem.W.nsIn K mainGlobals "range" = some none)
    (z3 : PySem.W.nsIn K mainGlobals "list" = some none)
    (z4 : PySem.W.nsIn K mainGlobals "set" = some none)
    (z5 : PySem.W.nsIn K mainGlobals "sorted" = some none)
    (z6 : PySem.W.nsIn K mainGlobals "tuple" = some none)
    (z7 : PySem.W.nsIn K mainGlobals "bool" = some none)
    (z8 : PySem.W.nsIn K mainGlobals "enumerate" = some none)
    (z9 : PySem.W.nsIn K mainGlobals "isinstance" = some none)
    (z10 : PySem.W.nsIn K mainGlobals "int" = some none)
    (z11 : PySem.W.nsIn K mainGlobals "sum" = some none)
    (z12 : PySem.W.nsIn K mainGlobals "zip" = some none)
    (z13 : PySem.W.nsIn K mainGlobals "min" = some none)
    (z14 : PySem.W.nsIn K mainGlobals "abs" = some none)
    (z15 : PySem.W.nsIn K mainGlobals "str" = some none)
    : ∃ fd : FuncData, (∀ (s : Shared) (v : Value), BindsTo s fd ⟨[v], []⟩ [("_law_script", v)]) ∧ ∀ base : Heap, K.In base → base.Ns mainGlobals mg → FnOk l.prog w K mg base (L2.CX l.prog w) 120 fa fd ["_law_script"] (spLaw K) := by
  have e := hfa.symm.trans (PySem.W.mg_of X G a72)
  cases e
  have FA : Facts ⟨K, w, fun k => ([f0, f1, f2, f3, f4, f5, f6, f7, f8, f9, f10, f11, f12, f13, f14, f15, f16, f17, f18, f19, f20, f21, f22, f23, f24, f25, f26, f27, f28, f29, f30, f31, f32, f33, f34, f35, f36, f37, f38, f39, f40, f41, f42, f43, f44, f45, f46, f47, f48, f49, f50, f51, f52, f53, f54, f55, f56, f57, f58, f59, f60, f61, f62, f63, f64, f65, f66, f67, f68, f69, f70, f71, fa] : List Addr).getD k 0, fun k => ([] : List Addr).getD k 0, 0, 0, "", none, fun i => ([] : List Addr).getD i 0, fun i => ([] : List Nat).contains i, false⟩ mg txt := facts_of
    ⟨⟨_, fun_mk (st := s_is_in) l0 c0 k0, fun _ => PySem.W.mg_of X G a0, (fun_mk (st := s_is_in) l0 c0 k0).binds (ps := ["value", "least", "most"]) fun _ _ _ _ _ _ us hl => match us, hl with | [_, _, _], _ => rfl⟩,
      ⟨_, fun_mk (st := s_gcd) l1 c1 k1, fun _ => PySem.W.mg_of X G a1, (fun_mk (st := s_gcd) l1 c1 k1).binds (ps := ["one", "other"]) fun _ _ _ _ _ _ us hl => match us, hl with | [_, _], _ => rfl⟩,
      ⟨_, fun_mk (st := s_reduced) l2 c2 k2, fun _ => PySem.W.mg_of X G a2, (fun_mk (st := s_reduced) l2 c2 k2).binds (ps := ["numerator", "denominator"]) fun _ _ _ _ _ _ us hl => match us, hl with | [_, _], _ => rfl⟩,
      ⟨_, fun_mk (st := s_plus) l3 c3 k3, fun _ => PySem.W.mg_of X G a3, (fun_mk (st := s_plus) l3 c3 k3).binds (ps := ["one", "other"]) fun _ _ _ _ _ _ us hl => match us, hl with | [_, _], _ => rfl⟩,
      ⟨_, fun_mk (st := s_times) l4 c4 k4, fun _ => PySem.W.mg_of X G a4, (fun_mk (st := s_times) l4 c4 k4).binds (ps := ["one", "other"]) fun _ _ _ _ _ _ us hl => match us, hl with | [_, _], _ => rfl⟩,
      ⟨_, fun_mk (st := s_need_line) l5 c5 k5, fun _ => PySem.W.mg_of X G a5, (fun_mk (st := s_need_line) l5 c5 k5).binds (ps := ["line"]) fun _ _ _ _ _ _ us hl => match us, hl with | [_], _ => rfl⟩,
      ⟨_, fun_mk (st := s_is_cells) l6 c6 k6, fun _ => PySem.W.mg_of X G a6, (fun_mk (st := s_is_cells) l6 c6 k6).binds (ps := ["many", "value"]) fun _ _ _ _ _ _ us hl => match us, hl with | [_, _], _ => rfl⟩,
      ⟨_, fun_mk (st := s_need_cell) l7 c7 k7, fun _ => PySem.W.mg_of X G a7, (fun_mk (st := s_need_cell) l7 c7 k7).binds (ps := ["line", "cell"]) fun _ _ _ _ _ _ us hl => match us, hl with | [_, _], _ => rfl⟩,
      ⟨_, fun_mk (st := s_held_in) l8 c8 k8, fun _ => PySem.W.mg_of X G a8, (fun_mk (st := s_held_in) l8 c8 k8).binds (ps := ["line"]) fun _ _ _ _ _ _ us hl => match us, hl with | [_], _ => rfl⟩,
      ⟨_, fun_mk (st := s_flanks) l9 c9 k9, fun _ => PySem.W.mg_of X G a9, (fun_mk (st := s_flanks) l9 c9 k9).binds (ps := ["many", "cell"]) fun _ _ _ _ _ _ us hl => match us, hl with | [_, _], _ => rfl⟩,
      ⟨_, fun_mk (st := s_is_flanked) l10 c10 k10, fun _ => PySem.W.mg_of X G a10, (fun_mk (st := s_is_flanked) l10 c10 k10).binds (ps := ["cells", "cell"]) fun _ _ _ _ _ _ us hl => match us, hl with | [_, _], _ => rfl⟩,
      ⟨_, fun_mk (st := s_ready_in) l11 c11 k11, fun _ => PySem.W.mg_of X G a11, (fun_mk (st := s_ready_in) l11 c11 k11).binds (ps := ["line"]) fun _ _ _ _ _ _ us hl => match us, hl with | [_], _ => rfl⟩,
      ⟨_, fun_mk (st := s_with_turned) l12 c12 k12, fun _ => PySem.W.mg_of X G a12, (fun_mk (st := s_with_turned) l12 c12 k12).binds (ps := ["cells", "some"]) fun _ _ _ _ _ _ us hl => match us, hl with | [_, _], _ => rfl⟩,
      ⟨_, fun_mk (st := s_swings_in) l13 c13 k13, fun _ => PySem.W.mg_of X G a13, (fun_mk (st := s_swings_in) l13 c13 k13).binds (ps := ["line"]) fun _ _ _ _ _ _ us hl => match us, hl with | [_], _ => rfl⟩,
      ⟨_, fun_mk (st := s_stretches_in) l14 c14 k14, fun _ => PySem.W.mg_of X G a14, (fun_mk (st := s_stretches_in) l14 c14 k14).binds (ps := ["line"]) fun _ _ _ _ _ _ us hl => match us, hl with | [_], _ => rfl⟩,
      ⟨_, fun_mk (st := s_need_resting) l15 c15 k15, fun _ => PySem.W.mg_of X G a15, (fun_mk (st := s_need_resting) l15 c15 k15).binds (ps := ["line"]) fun _ _ _ _ _ _ us hl => match us, hl with | [_], _ => rfl⟩,
      ⟨_, fun_mk (st := s_is_colours) l16 c16 k16, fun _ => PySem.W.mg_of X G a16, (fun_mk (st := s_is_colours) l16 c16 k16).binds (ps := ["line", "value"]) fun _ _ _ _ _ _ us hl => match us, hl with | [_, _], _ => rfl⟩,
      ⟨_, fun_mk (st := s_need_colours_of) l17 c17 k17, fun _ => PySem.W.mg_of X G a17, (fun_mk (st := s_need_colours_of) l17 c17 k17).binds (ps := ["line", "cells"]) fun _ _ _ _ _ _ us hl => match us, hl with | [_, _], _ => rfl⟩,
      ⟨_, fun_mk (st := s_insides) l18 c18 k18, fun _ => PySem.W.mg_of X G a18, (fun_mk (st := s_insides) l18 c18 k18).binds (ps := ["line"]) fun _ _ _ _ _ _ us hl => match us, hl with | [_], _ => rfl⟩,
      ⟨_, fun_mk (st := s_turned_cells) l19 c19 k19, fun _ => PySem.W.mg_of X G a19, (fun_mk (st := s_turned_cells) l19 c19 k19).binds (ps := ["line", "cells"]) fun _ _ _ _ _ _ us hl => match us, hl with | [_, _], _ => rfl⟩,
      ⟨_, fun_mk (st := s_is_full) l20 c20 k20, fun _ => PySem.W.mg_of X G a20, (fun_mk (st := s_is_full) l20 c20 k20).binds (ps := ["line", "some"]) fun _ _ _ _ _ _ us hl => match us, hl with | [_, _], _ => rfl⟩,
      ⟨_, fun_mk (st := s_can_come) l21 c21 k21, fun _ => PySem.W.mg_of X G a21, (fun_mk (st := s_can_come) l21 c21 k21).binds (ps := ["line", "cells"]) fun _ _ _ _ _ _ us hl => match us, hl with | [_, _], _ => rfl⟩,
      ⟨_, fun_mk (st := s_is_end_in) l22 c22 k22, fun _ => PySem.W.mg_of X G a22, (fun_mk (st := s_is_end_in) l22 c22 k22).binds (ps := ["line", "cells"]) fun _ _ _ _ _ _ us hl => match us, hl with | [_, _], _ => rfl⟩,
      ⟨_, fun_mk (st := s_is_end) l23 c23 k23, fun _ => PySem.W.mg_of X G a23, (fun_mk (st := s_is_end) l23 c23 k23).binds (ps := ["line", "cells"]) fun _ _ _ _ _ _ us hl => match us, hl with | [_, _], _ => rfl⟩,
      ⟨_, fun_mk (st := s_added) l24 c24 k24, fun _ => PySem.W.mg_of X G a24, (fun_mk (st := s_added) l24 c24 k24).binds (ps := ["one", "other"]) fun _ _ _ _ _ _ us hl => match us, hl with | [_, _], _ => rfl⟩,
      ⟨_, fun_mk (st := s_multiplied) l25 c25 k25, fun _ => PySem.W.mg_of X G a25, (fun_mk (st := s_multiplied) l25 c25 k25).binds (ps := ["one", "other"]) fun _ _ _ _ _ _ us hl => match us, hl with | [_, _], _ => rfl⟩,
      ⟨_, fun_mk (st := s_path_sets) l26 c26 k26, fun _ => PySem.W.mg_of X G a26, (fun_mk (st := s_path_sets) l26 c26 k26).binds (ps := ["many"]) fun _ _ _ _ _ _ us hl => match us, hl with | [_], _ => rfl⟩,
      ⟨_, fun_mk (st := s_path_ends) l27 c27 k27, fun _ => PySem.W.mg_of X G a27, (fun_mk (st := s_path_ends) l27 c27 k27).binds (ps := ["many"]) fun _ _ _ _ _ _ us hl => match us, hl with | [_], _ => rfl⟩,
      ⟨_, fun_mk (st := s_ring_sets) l28 c28 k28, fun _ => PySem.W.mg_of X G a28, (fun_mk (st := s_ring_sets) l28 c28 k28).binds (ps := ["many"]) fun _ _ _ _ _ _ us hl => match us, hl with | [_], _ => rfl⟩,
      ⟨_, fun_mk (st := s_ring_ends) l29 c29 k29, fun _ => PySem.W.mg_of X G a29, (fun_mk (st := s_ring_ends) l29 c29 k29).binds (ps := ["many"]) fun _ _ _ _ _ _ us hl => match us, hl with | [_], _ => rfl⟩,
      ⟨_, fun_mk (st := s_by_turns) l30 c30 k30, fun _ => PySem.W.mg_of X G a30, (fun_mk (st := s_by_turns) l30 c30 k30).binds (ps := ["line", "path", "ring"]) fun _ _ _ _ _ _ us hl => match us, hl with | [_, _, _], _ => rfl⟩,
      ⟨_, fun_mk (st := s_trimmed) l31 c31 k31, fun _ => PySem.W.mg_of X G a31, (fun_mk (st := s_trimmed) l31 c31 k31).binds (ps := ["counts"]) fun _ _ _ _ _ _ us hl => match us, hl with | [_], _ => rfl⟩,
      ⟨_, fun_mk (st := s_comes_by_turns) l32 c32 k32, fun _ => PySem.W.mg_of X G a32, (fun_mk (st := s_comes_by_turns) l32 c32 k32).binds (ps := ["line"]) fun _ _ _ _ _ _ us hl => match us, hl with | [_], _ => rfl⟩,
      ⟨_, fun_mk (st := s_ends_by_turns) l33 c33 k33, fun _ => PySem.W.mg_of X G a33, (fun_mk (st := s_ends_by_turns) l33 c33 k33).binds (ps := ["line"]) fun _ _ _ _ _ _ us hl => match us, hl with | [_], _ => rfl⟩,
      ⟨_, fun_mk (st := s_come_count) l34 c34 k34, fun _ => PySem.W.mg_of X G a34, (fun_mk (st := s_come_count) l34 c34 k34).binds (ps := ["line"]) fun _ _ _ _ _ _ us hl => match us, hl with | [_], _ => rfl⟩,
      ⟨_, fun_mk (st := s_end_count) l35 c35 k35, fun _ => PySem.W.mg_of X G a35, (fun_mk (st := s_end_count) l35 c35 k35).binds (ps := ["line"]) fun _ _ _ _ _ _ us hl => match us, hl with | [_], _ => rfl⟩,
      ⟨_, fun_mk (st := s_all_ends) l36 c36 k36, fun _ => PySem.W.mg_of X G a36, (fun_mk (st := s_all_ends) l36 c36 k36).binds (ps := ["line"]) fun _ _ _ _ _ _ us hl => match us, hl with | [_], _ => rfl⟩,
      ⟨_, fun_mk (st := s_is_hopeful) l37 c37 k37, fun _ => PySem.W.mg_of X G a37, (fun_mk (st := s_is_hopeful) l37 c37 k37).binds (ps := ["line", "ready", "some", "last"]) fun _ _ _ _ _ _ us hl => match us, hl with | [_, _, _, _], _ => rfl⟩,
      ⟨_, fun_mk (st := s_ends) l38 c38 k38, fun _ => PySem.W.mg_of X G a38, (fun_mk (st := s_ends) l38 c38 k38).binds (ps := ["line"]) fun _ _ _ _ _ _ us hl => match us, hl with | [_], _ => rfl⟩,
      ⟨_, fun_mk (st := s_fewest_turns) l39 c39 k39, fun _ => PySem.W.mg_of X G a39, (fun_mk (st := s_fewest_turns) l39 c39 k39).binds (ps := ["line"]) fun _ _ _ _ _ _ us hl => match us, hl with | [_], _ => rfl⟩,
      ⟨_, fun_mk (st := s_most_turns) l40 c40 k40, fun _ => PySem.W.mg_of X G a40, (fun_mk (st := s_most_turns) l40 c40 k40).binds (ps := ["line"]) fun _ _ _ _ _ _ us hl => match us, hl with | [_], _ => rfl⟩,
      ⟨_, fun_mk (st := s_factorial) l41 c41 k41, fun _ => PySem.W.mg_of X G a41, (fun_mk (st := s_factorial) l41 c41 k41).binds (ps := ["many"]) fun _ _ _ _ _ _ us hl => match us, hl with | [_], _ => rfl⟩,
      ⟨_, fun_mk (st := s_ways_to) l42 c42 k42, fun _ => PySem.W.mg_of X G a42, (fun_mk (st := s_ways_to) l42 c42 k42).binds (ps := ["line", "cells"]) fun _ _ _ _ _ _ us hl => match us, hl with | [_, _], _ => rfl⟩,
      ⟨_, fun_mk (st := s_ways_in_all) l43 c43 k43, fun _ => PySem.W.mg_of X G a43, (fun_mk (st := s_ways_in_all) l43 c43 k43).binds (ps := ["line"]) fun _ _ _ _ _ _ us hl => match us, hl with | [_], _ => rfl⟩,
      ⟨_, fun_mk (st := s_end_with) l44 c44 k44, fun _ => PySem.W.mg_of X G a44, (fun_mk (st := s_end_with) l44 c44 k44).binds (ps := ["line", "many"]) fun _ _ _ _ _ _ us hl => match us, hl with | [_, _], _ => rfl⟩,
      ⟨_, fun_mk (st := s_is_rest_an_end) l45 c45 k45, fun _ => PySem.W.mg_of X G a45, (fun_mk (st := s_is_rest_an_end) l45 c45 k45).binds (ps := ["line"]) fun _ _ _ _ _ _ us hl => match us, hl with | [_], _ => rfl⟩,
      ⟨_, fun_mk (st := s_without_carry) l46 c46 k46, fun _ => PySem.W.mg_of X G a46, (fun_mk (st := s_without_carry) l46 c46 k46).binds (ps := ["one", "other"]) fun _ _ _ _ _ _ us hl => match us, hl with | [_, _], _ => rfl⟩,
      ⟨_, fun_mk (st := s_path_worths) l47 c47 k47, fun _ => PySem.W.mg_of X G a47, (fun_mk (st := s_path_worths) l47 c47 k47).binds (ps := ["many"]) fun _ _ _ _ _ _ us hl => match us, hl with | [_], _ => rfl⟩,
      ⟨_, fun_mk (st := s_worth_of) l48 c48 k48, fun _ => PySem.W.mg_of X G a48, (fun_mk (st := s_worth_of) l48 c48 k48).binds (ps := ["paths"]) fun _ _ _ _ _ _ us hl => match us, hl with | [_], _ => rfl⟩,
      ⟨_, fun_mk (st := s_paths_behind) l49 c49 k49, fun _ => PySem.W.mg_of X G a49, (fun_mk (st := s_paths_behind) l49 c49 k49).binds (ps := ["line", "cell"]) fun _ _ _ _ _ _ us hl => match us, hl with | [_, _], _ => rfl⟩,
      ⟨_, fun_mk (st := s_paths_of) l50 c50 k50, fun _ => PySem.W.mg_of X G a50, (fun_mk (st := s_paths_of) l50 c50 k50).binds (ps := ["line", "ready"]) fun _ _ _ _ _ _ us hl => match us, hl with | [_, _], _ => rfl⟩,
      ⟨_, fun_mk (st := s_worth_in) l51 c51 k51, fun _ => PySem.W.mg_of X G a51, (fun_mk (st := s_worth_in) l51 c51 k51).binds (ps := ["line"]) fun _ _ _ _ _ _ us hl => match us, hl with | [_], _ => rfl⟩,
      ⟨_, fun_mk (st := s_worth) l52 c52 k52, fun _ => PySem.W.mg_of X G a52, (fun_mk (st := s_worth) l52 c52 k52).binds (ps := ["line"]) fun _ _ _ _ _ _ us hl => match us, hl with | [_], _ => rfl⟩,
      ⟨_, fun_mk (st := s_last_hand) l53 c53 k53, fun _ => PySem.W.mg_of X G a53, (fun_mk (st := s_last_hand) l53 c53 k53).binds (ps := ["line"]) fun _ _ _ _ _ _ us hl => match us, hl with | [_], _ => rfl⟩,
      ⟨_, fun_mk (st := s_winning_cells) l54 c54 k54, fun _ => PySem.W.mg_of X G a54, (fun_mk (st := s_winning_cells) l54 c54 k54).binds (ps := ["line"]) fun _ _ _ _ _ _ us hl => match us, hl with | [_], _ => rfl⟩,
      ⟨_, fun_mk (st := s_further) l55 c55 k55, fun _ => PySem.W.mg_of X G a55, (fun_mk (st := s_further) l55 c55 k55).binds (ps := ["paths"]) fun _ _ _ _ _ _ us hl => match us, hl with | [_], _ => rfl⟩,
      ⟨_, fun_mk (st := s_value_of) l56 c56 k56, fun _ => PySem.W.mg_of X G a56, (fun_mk (st := s_value_of) l56 c56 k56).binds (ps := ["paths", "is_more", "known"]) fun _ _ _ _ _ _ us hl => match us, hl with | [_, _, _], _ => rfl⟩,
      ⟨_, fun_mk (st := s_turns_value) l57 c57 k57, fun _ => PySem.W.mg_of X G a57, (fun_mk (st := s_turns_value) l57 c57 k57).binds (ps := ["line", "is_more"]) fun _ _ _ _ _ _ us hl => match us, hl with | [_, _], _ => rfl⟩,
      ⟨_, fun_mk (st := s_path_turns) l58 c58 k58, fun _ => PySem.W.mg_of X G a58, (fun_mk (st := s_path_turns) l58 c58 k58).binds (ps := ["many"]) fun _ _ _ _ _ _ us hl => match us, hl with | [_], _ => rfl⟩,
      ⟨_, fun_mk (st := s_lots) l59 c59 k59, fun _ => PySem.W.mg_of X G a59, (fun_mk (st := s_lots) l59 c59 k59).binds (ps := ["line"]) fun _ _ _ _ _ _ us hl => match us, hl with | [_], _ => rfl⟩,
      ⟨_, fun_mk (st := s_turns_in) l60 c60 k60, fun _ => PySem.W.mg_of X G a60, (fun_mk (st := s_turns_in) l60 c60 k60).binds (ps := ["line"]) fun _ _ _ _ _ _ us hl => match us, hl with | [_], _ => rfl⟩,
      ⟨_, fun_mk (st := s_turns_chances) l61 c61 k61, fun _ => PySem.W.mg_of X G a61, (fun_mk (st := s_turns_chances) l61 c61 k61).binds (ps := ["line"]) fun _ _ _ _ _ _ us hl => match us, hl with | [_], _ => rfl⟩,
      ⟨_, fun_mk (st := s_mean_turns) l62 c62 k62, fun _ => PySem.W.mg_of X G a62, (fun_mk (st := s_mean_turns) l62 c62 k62).binds (ps := ["line"]) fun _ _ _ _ _ _ us hl => match us, hl with | [_], _ => rfl⟩,
      ⟨_, fun_mk (st := s_path_chance) l63 c63 k63, fun _ => PySem.W.mg_of X G a63, (fun_mk (st := s_path_chance) l63 c63 k63).binds (ps := ["many", "at", "known"]) fun _ _ _ _ _ _ us hl => match us, hl with | [_, _, _], _ => rfl⟩,
      ⟨_, fun_mk (st := s_ring_chance) l64 c64 k64, fun _ => PySem.W.mg_of X G a64, (fun_mk (st := s_ring_chance) l64 c64 k64).binds (ps := ["many"]) fun _ _ _ _ _ _ us hl => match us, hl with | [_], _ => rfl⟩,
      ⟨_, fun_mk (st := s_turn_chance) l65 c65 k65, fun _ => PySem.W.mg_of X G a65, (fun_mk (st := s_turn_chance) l65 c65 k65).binds (ps := ["line", "cell"]) fun _ _ _ _ _ _ us hl => match us, hl with | [_, _], _ => rfl⟩,
      ⟨_, fun_mk (st := s_set_chance) l66 c66 k66, fun _ => PySem.W.mg_of X G a66, (fun_mk (st := s_set_chance) l66 c66 k66).binds (ps := ["some", "chosen", "known"]) fun _ _ _ _ _ _ us hl => match us, hl with | [_, _, _], _ => rfl⟩,
      ⟨_, fun_mk (st := s_end_chance) l67 c67 k67, fun _ => PySem.W.mg_of X G a67, (fun_mk (st := s_end_chance) l67 c67 k67).binds (ps := ["line", "cells"]) fun _ _ _ _ _ _ us hl => match us, hl with | [_, _], _ => rfl⟩,
      ⟨_, fun_mk (st := s_first_in) l68 c68 k68, fun _ => PySem.W.mg_of X G a68, (fun_mk (st := s_first_in) l68 c68 k68).binds (ps := ["ready", "many", "one", "other", "known"]) fun _ _ _ _ _ _ us hl => match us, hl with | [_, _, _, _, _], _ => rfl⟩,
      ⟨_, fun_mk (st := s_near) l69 c69 k69, fun _ => PySem.W.mg_of X G a69, (fun_mk (st := s_near) l69 c69 k69).binds (ps := ["line", "cell"]) fun _ _ _ _ _ _ us hl => match us, hl with | [_, _], _ => rfl⟩,
      ⟨_, fun_mk (st := s_first_chance) l70 c70 k70, fun _ => PySem.W.mg_of X G a70, (fun_mk (st := s_first_chance) l70 c70 k70).binds (ps := ["line", "one", "other"]) fun _ _ _ _ _ _ us hl => match us, hl with | [_, _, _], _ => rfl⟩,
      ⟨_, fun_mk (st := s__law_alike) l71 c71 k71, fun _ => PySem.W.mg_of X G a71, (fun_mk (st := s__law_alike) l71 c71 k71).binds (ps := ["_law_found", "_law_due"]) fun _ _ _ _ _ _ us hl => match us, hl with | [_, _], _ => rfl⟩,
      ⟨_, fun_mk (st := s_law) l72 c72 k72, fun _ => PySem.W.mg_of X G a72, (fun_mk (st := s_law) l72 c72 k72).binds (ps := ["_law_script"]) fun _ _ _ _ _ _ us hl => match us, hl with | [_], _ => rfl⟩, trivial⟩
    ⟨ko_int (PySem.W.mg_of X G g0), ko_int (PySem.W.mg_of X G g1), ko_int (PySem.W.mg_of X G g2), ko_int (PySem.W.mg_of X G g3), ko_int (PySem.W.mg_of X G g4), ko_int (PySem.W.mg_of X G g5), trivial⟩
    ⟨PySem.W.mg_none_of X G z0, PySem.W.mg_none_of X G z1, PySem.W.mg_none_of X G z2, PySem.W.mg_none_of X G z3, PySem.W.mg_none_of X G z4, PySem.W.mg_none_of X G z5, PySem.W.mg_none_of X G z6, PySem.W.mg_none_of X G z7, PySem.W.mg_none_of X G z8, PySem.W.mg_none_of X G z9, PySem.W.mg_none_of X G z10, PySem.W.mg_none_of X G z11, PySem.W.mg_none_of X G z12, PySem.W.mg_none_of X G z13, PySem.W.mg_none_of X G z14, PySem.W.mg_none_of X G z15, trivial⟩
    ⟨fun x i z => (nomatch z), fun x i y j z => (nomatch z), fun z => absurd rfl z⟩
    (ClAll.no rfl rfl fun _ => rfl)
  exact ⟨_, fun s v => .of_eq rfl, fun base _ _ => (fn_ok FA isP (fun z => absurd rfl z) 40 72 d_law rfl _ (fun_mk (st := s_law) l72 c72 k72)).ok.imp (law_sp (c := ⟨K, w, fun k => ([f0, f1, f2, f3, f4, f5, f6, f7, f8, f9, f10, f11, f12, f13, f14, f15, f16, f17, f18, f19, f20, f21, f22, f23, f24, f25, f26, f27, f28, f29, f30, f31, f32, f33, f34, f35, f36, f37, f38, f39, f40, f41, f42, f43, f44, f45, f46, f47, f48, f49, f50, f51, f52, f53, f54, f55, f56, f57, f58, f59, f60, f61, f62, f63, f64, f65, f66, f67, f68, f69, f70, f71, fa] : List Addr).getD k 0, fun k => ([] : List Addr).getD k 0, 0, 0, "", none, fun i => ([] : List Addr).getD i 0, fun i => ([] : List Nat).contains i, false⟩) rfl main)⟩
end Lk45
open PySem PySem.W PyProof.Rows
set_option maxHeartbeats 0 in
theorem PySem.Challenge.cw_flankturns_k45_known_turns_holds : PySem.Challenge.rw_flankturns_k45_known_turns.Holds := by
  w_on; o_law; k_head; (case hw => w_witness2)
  k_fill
  refine L2.walk_of (l := PySem.Challenge.rw_flankturns_k45_known_turns) (n := 63) (k := 120) (x := "_law_script") (CX := fun w => L2.CX (PySem.Challenge.rw_flankturns_k45_known_turns).prog w) (sp := fun w => Pyx.spLaw _) rfl (by decide) rfl ⟨rfl, by decide, by decide⟩ (fun w h Y => PySem.W.kIn_of Y) ?F (fun _ _ a ns hl ho hS => ⟨a, ns, rfl, hS, hl, ho, fun _ => rfl⟩) (fun _ _ _ _ _ h => by obtain ⟨_, _, _, _, _, _, _, _, _, _, _, _, z⟩ := h; exact z)
  case F =>
    intro w mg fa h KX G hmg
    refine' Lk45.all_mk KX G hmg ?pa0 ?pl0 ?pc0 ?pk0 ?pa1 ?pl1 ?pc1 ?pk1 ?pa2 ?pl2 ?pc2 ?pk2 ?pa3 ?pl3 ?pc3 ?pk3 ?pa4 ?pl4 ?pc4 ?pk4 ?pa5 ?pl5 ?pc5 ?pk5 ?pa6 ?pl6 ?pc6 ?pk6 ?pa7 ?pl7 ?pc7 ?pk7 ?pa8 ?pl8 ?pc8 ?pk8 ?pa9 ?pl9 ?pc9 ?pk9 ?pa10 ?pl10 ?pc10 ?pk10 ?pa11 ?pl11 ?pc11 ?pk11 ?pa12 ?pl12 ?pc12 ?pk12 ?pa13 ?pl13 ?pc13 ?pk13 ?pa14 ?pl14 ?pc14 ?pk14 ?pa15 ?pl15 ?pc15 ?pk15 ?pa16 ?pl16 ?pc16 ?pk16 ?pa17 ?pl17 ?pc17 ?pk17 ?pa18 ?pl18 ?pc18 ?pk18 ?pa19 ?pl19 ?pc19 ?pk19 ?pa20 ?pl20 ?pc20 ?pk20 ?pa21 ?pl21 ?pc21 ?pk21 ?pa22 ?pl22 ?pc22 ?pk22 ?pa23 ?pl23 ?pc23 ?pk23 ?pa24 ?pl24 ?pc24 ?pk24 ?pa25 ?pl25 ?pc25 ?pk25 ?pa26 ?pl26 ?pc26 ?pk26 ?pa27 ?pl27 ?pc27 ?pk27 ?pa28 ?pl28 ?pc28 ?pk28 ?pa29 ?pl29 ?pc29 ?pk29 ?pa30 ?pl30 ?pc30 ?pk30 ?pa31 ?pl31 ?pc31 ?pk31 ?pa32 ?pl32 ?pc32 ?pk32 ?pa33 ?pl33 ?pc33 ?pk33 ?pa34 ?pl34 ?pc34 ?pk34 ?pa35 ?pl35 ?pc35 ?pk35 ?pa36 ?pl36 ?pc36 ?pk36 ?pa37 ?pl37 ?pc37 ?pk37 ?pa38 ?pl38 ?pc38 ?pk38 ?pa39 ?pl39 ?pc39 ?pk39 ?pa40 ?pl40 ?pc40 ?pk40 ?pa41 ?pl41 ?pc41 ?pk41 ?pa42 ?pl42 ?pc42 ?pk42 ?pa43 ?pl43 ?pc43 ?pk43 ?pa44 ?pl44 ?pc44 ?pk44 ?pa45 ?pl45 ?pc45 ?pk45 ?pa46 ?pl46 ?pc46 ?pk46 ?pa47 ?pl47 ?pc47 ?pk47 ?pa48 ?pl48 ?pc48 ?pk48 ?pa49 ?pl49 ?pc49 ?pk49 ?pa50 ?pl50 ?pc50 ?pk50 ?pa51 ?pl51 ?pc51 ?pk51 ?pa52 ?pl52 ?pc52 ?pk52 ?pa53 ?pl53 ?pc53 ?pk53 ?pa54 ?pl54 ?pc54 ?pk54 ?pa55 ?pl55 ?pc55 ?pk55 ?pa56 ?pl56 ?pc56 ?pk56 ?pa57 ?pl57 ?pc57 ?pk57 ?pa58 ?pl58 ?pc58 ?pk58 ?pa59 ?pl59 ?pc59 ?pk59 ?pa60 ?pl60 ?pc60 ?pk60 ?pa61 ?pl61 ?pc61 ?pk61 ?pa62 ?pl62 ?pc62 ?pk62 ?pa63 ?pl63 ?pc63 ?pk63 ?pa64 ?pl64 ?pc64 ?pk64 ?pa65 ?pl65 ?pc65 ?pk65 ?pa66 ?pl66 ?pc66 ?pk66 ?pa67 ?pl67 ?pc67 ?pk67 ?pa68 ?pl68 ?pc68 ?pk68 ?pa69 ?pl69 ?pc69 ?pk69 ?pa70 ?pl70 ?pc70 ?pk70 ?pa71 ?pl71 ?pc71 ?pk71 ?pa72 ?pl72 ?pc72 ?pk72 ?pg0 ?pg1 ?pg2 ?pg3 ?pg4 ?pg5 ?pz0 ?pz1 ?pz2 ?pz3 ?pz4 ?pz5 ?pz6 ?pz7 ?pz8 ?pz9 ?pz10 ?pz11 ?pz12 ?pz13 ?pz14 ?pz15
    (case pa0 => k_is)
    (case pl0 => k_is)
    (case pc0 => k_is)
    (case pk0 => k_is)
    (case pa1 => k_is)
    (case pl1 => k_is)
    (case pc1 => k_is)
    (case pk1 => k_is)
    (case pa2 => k_is)
    (case pl2 => k_is)
    (case pc2 => k_is)
    (case pk2 => k_is)
    (case pa3 => k_is)
    (case pl3 => k_is)
    (case pc3 => k_is)
    (case pk3 => k_is)
    (case pa4 => k_is)
    (case pl4 => k_is)
    (case pc4 => k_is)
    (case pk4 => k_is)
    (case pa5 => k_is)
    (case pl5 => k_is)
    (case pc5 => k_is)
    (case pk5 => k_is)
    (case pa6 => k_is)
    (case pl6 => k_is)
    (case pc6 => k_is)
    (case pk6 => k_is)
    (case pa7 => k_is)
    (case pl7 => k_is)
    (case pc7 => k_is)
    (case pk7 => k_is)
    (case pa8 => k_is)
    (case pl8 => k_is)
    (case pc8 => k_is)
    (case pk8 => k_is)
    (case pa9 => k_is)
    (case pl9 => k_is)
    (case pc9 => k_is)
    (case pk9 => k_is)
    (case pa10 => k_is)
    (case pl10 => k_is)
    (case pc10 => k_is)
    (case pk10 => k_is)
    (case pa11 => k_is)
    (case pl11 => k_is)
    (case pc11 => k_is)
    (case pk11 => k_is)
    (case pa12 => k_is)
    (case pl12 => k_is)
    (case pc12 => k_is)
    (case pk12 => k_is)
    (case pa13 => k_is)
    (case pl13 => k_is)
    (case pc13 => k_is)
    (case pk13 => k_is)
    (case pa14 => k_is)
    (case pl14 => k_is)
    (case pc14 => k_is)
    (case pk14 => k_is)
    (case pa15 => k_is)
    (case pl15 => k_is)
    (case pc15 => k_is)
    (case pk15 => k_is)
    (case pa16 => k_is)
    (case pl16 => k_is)
    (case pc16 => k_is)
    (case pk16 => k_is)
    (case pa17 => k_is)
    (case pl17 => k_is)
    (case pc17 => k_is)
    (case pk17 => k_is)
    (case pa18 => k_is)
    (case pl18 => k_is)
    (case pc18 => k_is)
    (case pk18 => k_is)
    (case pa19 => k_is)
    (case pl19 => k_is)
    (case pc19 => k_is)
    (case pk19 => k_is)
    (case pa20 => k_is)
    (case pl20 => k_is)
    (case pc20 => k_is)
    (case pk20 => k_is)
    (case pa21 => k_is)
    (case pl21 => k_is)
    (case pc21 => k_is)
    (case pk21 => k_is)
    (case pa22 => k_is)
    (case pl22 => k_is)
    (case pc22 => k_is)
    (case pk22 => k_is)
    (case pa23 => k_is)
    (case pl23 => k_is)
    (case pc23 => k_is)
    (case pk23 => k_is)
    (case pa24 => k_is)
    (case pl24 => k_is)
    (case pc24 => k_is)
    (case pk24 => k_is)
    (case pa25 => k_is)
    (case pl25 => k_is)
    (case pc25 => k_is)
    (case pk25 => k_is)
    (case pa26 => k_is)
    (case pl26 => k_is)
    (case pc26 => k_is)
    (case pk26 => k_is)
    (case pa27 => k_is)
    (case pl27 => k_is)
    (case pc27 => k_is)
    (case pk27 => k_is)
    (case pa28 => k_is)
    (case pl28 => k_is)
    (case pc28 => k_is)
    (case pk28 => k_is)
    (case pa29 => k_is)
    (case pl29 => k_is)
    (case pc29 => k_is)
    (case pk29 => k_is)
    (case pa30 => k_is)
    (case pl30 => k_is)
    (case pc30 => k_is)
    (case pk30 => k_is)
    (case pa31 => k_is)
    (case pl31 => k_is)
    (case pc31 => k_is)
    (case pk31 => k_is)
    (case pa32 => k_is)
    (case pl32 => k_is)
    (case pc32 => k_is)
    (case pk32 => k_is)
    (case pa33 => k_is)
    (case pl33 => k_is)
    (case pc33 => k_is)
    (case pk33 => k_is)
    (case pa34 => k_is)
    (case pl34 => k_is)
    (case pc34 => k_is)
    (case pk34 => k_is)
    (case pa35 => k_is)
    (case pl35 => k_is)
    (case pc35 => k_is)
    (case pk35 => k_is)
    (case pa36 => k_is)
    (case pl36 => k_is)
    (case pc36 => k_is)
    (case pk36 => k_is)
    (case pa37 => k_is)
    (case pl37 => k_is)
    (case pc37 => k_is)
    (case pk37 => k_is)
    (case pa38 => k_is)
    (case pl38 => k_is)
    (case pc38 => k_is)
    (case pk38 => k_is)
    (case pa39 => k_is)
    (case pl39 => k_is)
    (case pc39 => k_is)
    (case pk39 => k_is)
    (case pa40 => k_is)
    (case pl40 => k_is)
    (case pc40 => k_is)
    (case pk40 => k_is)
    (case pa41 => k_is)
    (case pl41 => k_is)
    (case pc41 => k_is)
    (case pk41 => k_is)
    (case pa42 => k_is)
    (case pl42 => k_is)
    (case pc42 => k_is)
    (case pk42 => k_is)
    (case pa43 => k_is)
    (case pl43 => k_is)
    (case pc43 => k_is)
    (case pk43 => k_is)
    (case pa44 => k_is)
    (case pl44 => k_is)
    (case pc44 => k_is)
    (case pk44 => k_is)
    (case pa45 => k_is)
    (case pl45 => k_is)
    (case pc45 => k_is)
    (case pk45 => k_is)
    (case pa46 => k_is)
    (case pl46 => k_is)
    (case pc46 => k_is)
    (case pk46 => k_is)
    (case pa47 => k_is)
    (case pl47 => k_is)
    (case pc47 => k_is)
    (case pk47 => k_is)
    (case pa48 => k_is)
    (case pl48 => k_is)
    (case pc48 => k_is)
    (case pk48 => k_is)
    (case pa49 => k_is)
    (case pl49 => k_is)
    (case pc49 => k_is)
    (case pk49 => k_is)
    (case pa50 => k_is)
    (case pl50 => k_is)
    (case pc50 => k_is)
    (case pk50 => k_is)
    (case pa51 => k_is)
    (case pl51 => k_is)
    (case pc51 => k_is)
    (case pk51 => k_is)
    (case pa52 => k_is)
    (case pl52 => k_is)
    (case pc52 => k_is)
    (case pk52 => k_is)
    (case pa53 => k_is)
    (case pl53 => k_is)
    (case pc53 => k_is)
    (case pk53 => k_is)
    (case pa54 => k_is)
    (case pl54 => k_is)
    (case pc54 => k_is)
    (case pk54 => k_is)
    (case pa55 => k_is)
    (case pl55 => k_is)
    (case pc55 => k_is)
    (case pk55 => k_is)
    (case pa56 => k_is)
    (case pl56 => k_is)
    (case pc56 => k_is)
    (case pk56 => k_is)
    (case pa57 => k_is)
    (case pl57 => k_is)
    (case pc57 => k_is)
    (case pk57 => k_is)
    (case pa58 => k_is)
    (case pl58 => k_is)
    (case pc58 => k_is)
    (case pk58 => k_is)
    (case pa59 => k_is)
    (case pl59 => k_is)
    (case pc59 => k_is)
    (case pk59 => k_is)
    (case pa60 => k_is)
    (case pl60 => k_is)
    (case pc60 => k_is)
    (case pk60 => k_is)
    (case pa61 => k_is)
    (case pl61 => k_is)
    (case pc61 => k_is)
    (case pk61 => k_is)
    (case pa62 => k_is)
    (case pl62 => k_is)
    (case pc62 => k_is)
    (case pk62 => k_is)
    (case pa63 => k_is)
    (case pl63 => k_is)
    (case pc63 => k_is)
    (case pk63 => k_is)
    (case pa64 => k_is)
    (case pl64 => k_is)
    (case pc64 => k_is)
    (case pk64 => k_is)
    (case pa65 => k_is)
    (case pl65 => k_is)
    (case pc65 => k_is)
    (case pk65 => k_is)
    (case pa66 => k_is)
    (case pl66 => k_is)
    (case pc66 => k_is)
    (case pk66 => k_is)
    (case pa67 => k_is)
    (case pl67 => k_is)
    (case pc67 => k_is)
    (case pk67 => k_is)
    (case pa68 => k_is)
    (case pl68 => k_is)
    (case pc68 => k_is)
    (case pk68 => k_is)
    (case pa69 => k_is)
    (case pl69 => k_is)
    (case pc69 => k_is)
    (case pk69 => k_is)
    (case pa70 => k_is)
    (case pl70 => k_is)
    (case pc70 => k_is)
    (case pk70 => k_is)
    (case pa71 => k_is)
    (case pl71 => k_is)
    (case pc71 => k_is)
    (case pk71 => k_is)
    (case pa72 => k_is)
    (case pl72 => k_is)
    (case pc72 => k_is)
    (case pk72 => k_is)
    (case pg0 => k_is)
    (case pg1 => k_is)
    (case pg2 => k_is)
    (case pg3 => k_is)
    (case pg4 => k_is)
    (case pg5 => k_is)
    (case pz0 => k_is)
    (case pz1 => k_is)
    (case pz2 => k_is)
    (case pz3 => k_is)
    (case pz4 => k_is)
    (case pz5 => k_is)
    (case pz6 => k_is)
    (case pz7 => k_is)
    (case pz8 => k_is)
    (case pz9 => k_is)
    (case pz10 => k_is)
    (case pz11 => k_is)
    (case pz12 => k_is)
    (case pz13 => k_is)
    (case pz14 => k_is)
    (case pz15 => k_is)
