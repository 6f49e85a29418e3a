import PyProof.Rows.All
import Wide.All
import OpenK.AllK
import Wide.FinOn
import HandS.ForMost
import HandS.TupAny
import HandS.TupMul
import HandS.Wide
import HandS.SortInts
import HandS.Strs
import HandS.SetFor
import HandS.Deep
import HandS.IsInst
import HandS.Zip
import HandS.Conv
import HandS.Flow
import HandS.Style
import HandS.TupLen
import HandS.CallLocal
import HandS.Exc
import HandS.ExcOwn
import HandS.ExcIs
import HandS.WordsExc
import HandS.Lambda
import HandS.EndOwn
import HandS.WideMore
import HandS.TupLe
import HandS.NoneIn
import HandS.NamedTupSort
import KE.KDictCopyH
import KE.KSortedM
import KE.GoesEnum
import KE.KDictList
import PySem.Challenge.RW_flankturns_k04_whole_steps
set_option Elab.async false
set_option linter.all false
set_option maxRecDepth 100000
set_option maxHeartbeats 4000000
namespace Pyx
open PySem L2

inductive PV where
  | non | bl (b : Bool) | int (i : Int) | str (s : Str) | tup (xs : List PV) | ref (i : Nat) | fn (k : Nat)
  deriving Inhabited
inductive PO where
  | lst (xs : List PV) | fz (xs : List PV) | set (xs : List Int) | dK (kvs : List (Int × PV)) | dT (kvs : List (List Int × PV)) | tb | lT (kvs : List (List Int × PV)) | lK (kvs : List (Int × PV))
structure PH where
  n : Nat
  os : List PO
def PH.get (h : PH) (i : Nat) : Option PO := match Nat.blt i h.n with
  | true => h.os[h.n - 1 - i]?
  | false => none
def PH.push (h : PH) (o : PO) : PH := ⟨h.n + 1, o :: h.os⟩
def PH.set (h : PH) (i : Nat) (o : PO) : PH := ⟨h.n, h.os.set (h.n - 1 - i) o⟩

inductive R (α : Type) where
  | ok (a : α) (h : PH) | stuck
abbrev PSt := List (Option PV)

inductive Bop where | add | sub | mul | fdiv | mod | pow
inductive Cop where | eq | ne | lt | le | gt | ge | is | nis
inductive Bi where | len | min | max | sum | sorted | list | tuple | int | set | abs | dict
inductive Ty where | int | bool | str | tuple | list
inductive Mt where | append | pop | count | index
inductive CT where
  | nm (i : Nat) | tup (ts : List CT)
mutual
inductive CE where
  | stuck | var (i : Nat) | val (v : PV) | bin (op : Bop) (a b : CE) | neg (a : CE)
  | cmp (op : Cop) (a b : CE) | chain (o1 o2 : Cop) (a b c : CE) | isin (neg : Bool) (a b : CE)
  | and (a b : CE) | or (a b : CE) | not (a : CE) | ite (t : CB) (a b : CE)
  | tup (es : List CE) | lst (es : List CE)
  | call (k : Nat) (es : List CE) | bi (b : Bi) (es : List CE) | isi (a : CE) (t : Ty) | isis (a : CE) (t u : Ty)
  | mt (m : Mt) (o : CE) (es : List CE) | ix (a b : CE) | sl (a : CE) (lo hi : Option CE)
  | lc (it : CI) (tg : CT) (vs : List Nat) (ifs : Option CB) (elt : CE)
  | lrg (a b : CE)
  | lrg1 (b : CE) | lc2 (it : CI) (tg : CT) (it1 : CI) (tg1 : CT) (vs vs1 : List Nat) (elt : CE)
  | callv (i : Nat) (es : List CE) | rev (a : CE) | dnew (t : Bool) | disp (ks vs : List CE)
  | lam (b xe : CE) (hs : List (Nat × PV)) (aft : Option Bool)
  | get2 (d k x : CE) | dispT (k v : CE) | isE (a : CE) | trg (b : CE) | skeys (a : CE) | lockE (i : Nat) (e : CE) | lk (a : CE) | vals (a : CE)
inductive CB where
  | val (e : CE) | bl (e : CE) | not (b : CB) | and (a b : CB) | or (a b : CB)
inductive CI where
  | over (e : CE) | rng1 (e : CE) | rng2 (a b : CE) | enum (e : CE) | zip (a b : CE) | keys (e : CE)
end
inductive CS where
  | stuck | pass | expr (e : CE) | asg (t : CT) (e : CE) | par (i j : Nat) (a b : CE) | par3 (i j l : Nat) (a b d : CE)
  | setix (o i e : CE) | augn (i : Nat) (op : Bop) (e : CE)
  | augix (o i : CE) (op : Bop) (e : CE)
  | ret (e : CE) | retN | ite (b : CB) (t u : List CS) | while (b : CB) (t : List CS) | for (t : CT) (it : CI) (b : List CS) | brk | cont
  | tryx (b : CS) (xe : CE) (j : Nat) (tgt : Option Nat) (hs : List (Nat × PV)) | lock (i : Nat) (s : CS)

def truth (v : PV) (h : PH) : Option Bool := match v with
  | .non => some false
  | .bl b => some b
  | .int i => some (i != 0)
  | .tup xs => some (!xs.isEmpty)
  | .ref i => match h.get i with
    | some (.lst xs) => some (!xs.isEmpty)
    | some (.fz xs) => some (!xs.isEmpty)
    | _ => none
  | _ => none
def seqL (v : PV) (h : PH) : Option (List PV) := match v with
  | .ref i => match h.get i with
    | some (.lst xs) => some xs
    | some (.fz xs) => some xs
    | _ => none
  | _ => none
def seqOf (v : PV) (h : PH) : Option (List PV) := match v with
  | .tup xs => some xs
  | .ref i => match h.get i with
    | some (.lst xs) => some xs
    | some (.fz xs) => some xs
    | _ => none
  | _ => none
def toDs (f : PV → Option PyData) : List PV → Option (List PyData)
  | [] => some []
  | x :: r => match f x with
    | none => none
    | some d => match toDs f r with
      | none => none
      | some ds => some (d :: ds)
def toD : Nat → PH → PV → Option PyData
  | 0, _, _ => none
  | n + 1, h, v => match v with
    | .non => some .none
    | .bl b => some (.bool b)
    | .int i => some (.int i)
    | .str s => some (.str s)
    | .tup xs => match toDs (toD n h) xs with
      | some ds => some (.tuple ds)
      | none => none
    | .ref i => match h.get i with
      | some (.lst xs) => match toDs (toD n h) xs with
        | some ds => some (.list ds)
        | none => none
      | some (.fz xs) => match toDs (toD n h) xs with
        | some ds => some (.list ds)
        | none => none
      | _ => none
    | .fn _ => none
def toDat (h : PH) (v : PV) : Option PyData := match toD 20 h v with
  | some d => match SeqAt.shaped d with
    | true => some d
    | false => none
  | none => none
def eqP (h : PH) (v w : PV) : Option Bool := match toDat h v with
  | some d => match toDat h w with
    | some e => some (PyData.eqv d e)
    | none => none
  | none => none
def int2 (g : Int → Int → Bool) : PV → PV → Option Bool
  | .int i, .int j => some (g i j)
  | _, _ => none
def isNo : PV → Option Bool
  | .non => some true
  | .fn _ => none
  | _ => some false
def isP (v w : PV) : Option Bool := match w with
  | .non => isNo v
  | .bl b => match v with
    | .bl a => some (decide (a = b))
    | _ => none
  | _ => none
def negO : Option Bool → Option Bool
  | some k => some (!k)
  | none => none
def intsP : List PV → Option (List Int)
  | [] => some []
  | .int i :: r => match intsP r with
    | some is => some (i :: is)
    | none => none
  | _ :: _ => none
def ltT (xs ys : List PV) : Option Bool := match intsP xs with
  | some ns => match intsP ys with
    | some ms => some (HT.lexLt ns ms)
    | none => none
  | none => none
def ltP (v w : PV) : Option Bool := match v, w with
  | .int i, .int j => some (decide (i < j))
  | .tup xs, .tup ys => ltT xs ys
  | _, _ => none
def leP (v w : PV) : Option Bool := match v, w with
  | .int i, .int j => some (decide (i ≤ j))
  | .tup xs, .tup ys => negO (ltT ys xs)
  | _, _ => none
def cmpP (op : Cop) (v w : PV) (h : PH) : Option Bool := match op with
  | .eq => eqP h v w
  | .ne => negO (eqP h v w)
  | .is => isP v w
  | .nis => negO (isP v w)
  | .lt => ltP v w
  | .le => leP v w
  | .gt => int2 (fun i j => decide (j < i)) v w
  | .ge => int2 (fun i j => decide (j ≤ i)) v w
def flatP : PV → Bool
  | .non => true
  | .bl _ => true
  | .int _ => true
  | .str _ => true
  | _ => false
def eqF : PV → PV → Bool
  | .non, .non => true
  | .bl a, .bl b => a == b
  | .bl a, .int b => (if a then 1 else 0) == b
  | .int a, .bl b => a == (if b then 1 else 0)
  | .int a, .int b => a == b
  | .str a, .str b => a == b
  | _, _ => false
def valG {κ : Type} [DecidableEq κ] (k : κ) : List (κ × PV) → Option PV
  | [] => none
  | p :: r => match decide (p.1 = k) with
    | true => some p.2
    | false => valG k r
def putG {κ : Type} [DecidableEq κ] (k : κ) (v : PV) : List (κ × PV) → List (κ × PV)
  | [] => [(k, v)]
  | p :: r => match decide (p.1 = k) with
    | true => (p.1, v) :: r
    | false => p :: putG k v r
def keyT : PV → Option (List Int)
  | .tup xs => intsP xs
  | _ => none
def dLook (d w : PV) (h : PH) : Option (Option PV) := match d with
  | .ref i => match h.get i with
    | some (.dK kvs) => match w with
      | .int k => some (valG k kvs)
      | _ => none
    | some (.dT kvs) => match keyT w with
      | some k => some (valG k kvs)
      | none => none
    | some (.lT kvs) => match keyT w with
      | some k => some (valG k kvs)
      | none => none
    | some (.lK kvs) => match w with
      | .int k => some (valG k kvs)
      | _ => none
    | _ => none
  | _ => none
def dGetP (d w : PV) (h : PH) : Option PV := match dLook d w h with
  | some (some v) => some v
  | _ => none
def dInP (d w : PV) (h : PH) : Option Bool := match dLook d w h with
  | some o => some o.isSome
  | none => none
def dPutP (d w v : PV) (h : PH) : Option PH := match d with
  | .ref i => match h.get i with
    | some (.dK kvs) => match w, Nat.ble kvs.length 100000 with
      | .int k, true => some (h.set i (.dK (putG k v kvs)))
      | _, _ => none
    | some (.dT kvs) => match keyT w, Nat.ble kvs.length 100000 with
      | some k, true => some (h.set i (.dT (putG k v kvs)))
      | _, _ => none
    | _ => none
  | _ => none
def dLen (d : PV) (h : PH) : Option Nat := match d with
  | .ref i => match h.get i with
    | some (.dK kvs) => match Nat.ble kvs.length 100000 with
      | true => some kvs.length
      | false => none
    | some (.dT kvs) => match Nat.ble kvs.length 100000 with
      | true => some kvs.length
      | false => none
    | _ => none
  | _ => none
def inD (v w : PV) (h : PH) : Option Bool := match toDat h v with
  | some d => match toDat h w with
    | some (.list ds) => some (ds.any fun z => PyData.eqv z d)
    | _ => none
  | none => none
def inP (v w : PV) (h : PH) : Option Bool := match seqOf w h with
  | some xs => match flatP v && xs.all flatP with
    | true => some (xs.any fun y => eqF y v)
    | false => inD v w h
  | none => dInP w v h
def small {α : Type} (xs : List α) : Bool := Nat.ble xs.length 100000
def wide (i : Int) : Bool := decide (-18446744073709551616 < i) && decide (i < 18446744073709551616)
def cutP {α : Type} (xs : List α) (lo hi : Option Int) : List α := (xs.drop (HT.sIx xs.length 0 lo)).take (HT.sIx xs.length xs.length hi - HT.sIx xs.length 0 lo)
def okT (xs : List PV) (h : PH) : R PV := match small xs with
  | true => .ok (.tup xs) h
  | false => .stuck
def okL (xs : List PV) (h : PH) : R PV := match small xs with
  | true => .ok (.ref h.n) (h.push (.lst xs))
  | false => .stuck
def okO {α : Type} (o : Option α) (h : PH) : R α := match o with
  | some v => .ok v h
  | none => .stuck
def lstAt (v : PV) (h : PH) : Option (Nat × List PV) := match v with
  | .ref i => match h.get i with
    | some (.lst xs) => some (i, xs)
    | _ => none
  | _ => none
def binP (op : Bop) (v w : PV) (h : PH) : R PV := match op, v, w with
  | .add, .int i, .int j => .ok (.int (i + j)) h
  | .sub, .int i, .int j => .ok (.int (i - j)) h
  | .mul, .int i, .int j => match wide i || wide j || Nat.blt (i.natAbs.log2 + j.natAbs.log2) 1000000 with
    | true => .ok (.int (i * j)) h
    | false => .stuck
  | .fdiv, .int i, .int j => match decide (0 < j) && (decide (j < 1073741824) || Nat.blt j.natAbs.log2 9000) with
    | true => .ok (.int (i / j)) h
    | false => .stuck
  | .mod, .int i, .int j => match decide (0 < j) with
    | true => .ok (.int (i % j)) h
    | false => .stuck
  | .pow, .int i, .int j => match decide (0 ≤ j) && decide (j ≤ 1000000) && Nat.blt i.natAbs 18446744073709551616 with
    | true => .ok (.int (i ^ j.toNat)) h
    | false => .stuck
  | .add, .tup xs, .tup ys => okT (xs ++ ys) h
  | .add, .ref i, .ref j => match lstAt (.ref i) h, lstAt (.ref j) h with
    | some (_, xs), some (_, ys) => okL (xs ++ ys) h
    | _, _ => .stuck
  | .mul, .tup xs, .int k => match decide (k = 1) with
    | true => .ok (.tup xs) h
    | false => match decide (2 ≤ k) && decide (k ≤ 1000) && Nat.ble xs.length 1000 && !xs.isEmpty with
      | true => okT (List.replicate k.toNat xs).flatten h
      | false => .stuck
  | .mul, .ref i, .int k => match lstAt (.ref i) h, decide (0 ≤ k) && decide (k ≤ 1000) with
    | some (_, xs), true => match Nat.ble xs.length 1000 with
      | true => okL (List.replicate k.toNat xs).flatten h
      | false => .stuck
    | _, _ => .stuck
  | _, _, _ => .stuck
def insI (x : Int) : List Int → List Int
  | [] => [x]
  | y :: r => match decide (x ≤ y) with
    | true => x :: y :: r
    | false => y :: insI x r
def sortI : List Int → List Int
  | [] => []
  | x :: r => insI x (sortI r)
def tupsP : List PV → Option (List (List Int))
  | [] => some []
  | .tup xs :: r => match intsP xs with
    | some (i :: is) => match tupsP r with
      | some ts => some ((i :: is) :: ts)
      | none => none
    | _ => none
  | _ :: _ => none
def insT (x : List Int) : List (List Int) → List (List Int)
  | [] => [x]
  | y :: r => match HT.lexLt y x with
    | true => y :: insT x r
    | false => x :: y :: r
def sortT : List (List Int) → List (List Int)
  | [] => []
  | x :: r => insT x (sortT r)
def tupI (t : List Int) : PV := .tup (t.map PV.int)
def maxI : Int → List Int → Int
  | m, [] => m
  | m, x :: r => maxI (match decide (m ≤ x) with | true => x | false => m) r
def minI : Int → List Int → Int
  | m, [] => m
  | m, x :: r => minI (match decide (x ≤ m) with | true => x | false => m) r
def sumI : List Int → Int
  | [] => 0
  | x :: r => x + sumI r
def dedI : List Int → List Int
  | [] => []
  | x :: r => match r.contains x with
    | true => dedI r
    | false => x :: dedI r
def intsOf (v : PV) (h : PH) : Option (List Int) := match seqOf v h with
  | some xs => intsP xs
  | none => none
def intsOfL (v : PV) (h : PH) : Option (List Int) := match seqL v h with
  | some xs => intsP xs
  | none => none
def tupsOfL (v : PV) (h : PH) : Option (List (List Int)) := match seqL v h with
  | some xs => tupsP xs
  | none => none
def setOf (v : PV) (h : PH) : Option (List Int) := match v with
  | .ref i => match h.get i with
    | some (.set xs) => some xs
    | _ => none
  | _ => none
def biP (b : Bi) (vs : List PV) (h : PH) : R PV := match b, vs with
  | .len, [v] => match seqOf v h with
    | some xs => .ok (.int xs.length) h
    | none => match dLen v h with
      | some n => .ok (.int n) h
      | none => match setOf v h with
        | some xs => .ok (.int xs.length) h
        | none => .stuck
  | .abs, [.int i] => .ok (.int (if i < 0 then -i else i)) h
  | .min, [.int i, .int j] => .ok (.int (if j < i then j else i)) h
  | .max, [.int i, .int j] => .ok (.int (if j > i then j else i)) h
  | .min, [v] => match intsOfL v h with
    | some (i :: is) => .ok (.int (minI i is)) h
    | _ => .stuck
  | .max, [v] => match intsOfL v h with
    | some (i :: is) => .ok (.int (maxI i is)) h
    | _ => .stuck
  | .sum, [v] => match intsOf v h with
    | some is => .ok (.int (sumI is)) h
    | _ => .stuck
  | .sorted, [v] => match setOf v h with
    | some is => match Nat.blt is.length 64 with
      | true => okL ((sortI is).map PV.int) h
      | false => .stuck
    | none => match intsOf v h with
      | some is => okL ((sortI is).map PV.int) h
      | none => match tupsOfL v h with
        | some ts => okL ((sortT ts).map tupI) h
        | none => .stuck
  | .set, [v] => match intsOf v h with
    | some is => match Nat.ble is.length 60 with
      | true => .ok (.ref h.n) (h.push (.set (dedI is)))
      | false => .stuck
    | none => .stuck
  | .list, [v] => match seqOf v h with
    | some xs => okL xs h
    | none => .stuck
  | .tuple, [v] => match seqOf v h with
    | some xs => okT xs h
    | none => .stuck
  | .dict, [v] => match v with
    | .ref i => match h.get i with
      | some (.dK kvs) => .ok (.ref h.n) (h.push (.dK kvs))
      | _ => .stuck
    | _ => .stuck
  | .int, [.int i] => .ok (.int i) h
  | .int, [.bl k] => .ok (.int (if k then 1 else 0)) h
  | _, _ => .stuck
def isTy (v : PV) (h : PH) (t : Ty) : Option Bool := match v with
  | .non => some false
  | .bl _ => match t with | .int => some true | .bool => some true | _ => some false
  | .int _ => match t with | .int => some true | _ => some false
  | .str _ => match t with | .str => some true | _ => some false
  | .tup _ => match t with | .tuple => some true | _ => some false
  | .ref i => match h.get i with
    | some (.lst _) => match t with | .list => some true | _ => some false
    | some (.fz _) => match t with | .list => some true | _ => some false
    | some (.dK _) => some false
    | some (.dT _) => some false
    | _ => none
  | .fn _ => none
def appP (o : PV) (vs : List PV) (h : PH) : R PV := match vs with
  | [v] => match lstAt o h with
    | some (i, xs) => match small xs with
      | true => .ok .non (h.set i (.lst (xs ++ [v])))
      | false => .stuck
    | none => .stuck
  | _ => .stuck
def popP (o : PV) (vs : List PV) (h : PH) : R PV := match vs with
  | [] => match lstAt o h with
    | some (i, xs) => match xs[xs.length - 1]? with
      | some v => .ok v (h.set i (.lst xs.dropLast))
      | none => .stuck
    | none => .stuck
  | _ => .stuck
def cntP (o : PV) (vs : List PV) (h : PH) : R PV := match vs with
  | [.int k] => match intsOfL o h with
    | some is => .ok (.int (is.count k : Nat)) h
    | none => .stuck
  | _ => .stuck
def fdI (k : Int) : List Int → Nat → Option Nat
  | [], _ => none
  | x :: r, i => match decide (x = k) with
    | true => some i
    | false => fdI k r (i + 1)
def fdD (d : PyData) : List PyData → Nat → Option Nat
  | [], _ => none
  | z :: r, i => match PyData.eqv z d with
    | true => some i
    | false => fdD d r (i + 1)
def idxP (o : PV) (vs : List PV) (h : PH) : R PV := match vs with
  | [.int k] => match intsOfL o h with
    | some is => match fdI k is 0 with
      | some i => .ok (.int (i : Nat)) h
      | none => .stuck
    | none => .stuck
  | [v] => match toDat h v with
    | some d => match toDat h o with
      | some (.list ds) => match fdD d ds 0 with
        | some i => .ok (.int (i : Nat)) h
        | none => .stuck
      | _ => .stuck
    | none => .stuck
  | _ => .stuck
def mtP (m : Mt) (o : PV) (vs : List PV) (h : PH) : R PV := match m with
  | .append => appP o vs h
  | .pop => popP o vs h
  | .count => cntP o vs h
  | .index => idxP o vs h
def ixP (v w : PV) (h : PH) : Option PV := match w with
  | .int i => match seqOf v h with
    | some xs => atI xs i
    | none => dGetP v w h
  | _ => dGetP v w h
def slP (v : PV) (lo hi : Option Int) (h : PH) : R PV := match v with
  | .tup xs => okT (cutP xs lo hi) h
  | .ref i => match seqL (.ref i) h with
    | some xs => okL (cutP xs lo hi) h
    | none => .stuck
  | _ => .stuck
def setP (o i v : PV) (h : PH) : Option PH := match i, lstAt o h with
  | .int k, some (a, xs) => match ixN xs.length k with
    | some j => some (h.set a (.lst (xs.set j v)))
    | none => none
  | _, _ => dPutP o i v h

inductive IV where
  | lst (i : Nat) | tup (xs : List PV) | rng (lo : Int) (n : Nat) | enumL (i : Nat) | enumT (xs : List PV) | zipL (i j : Nat) | zipT (xs ys : List PV) | keysT (i : Nat) | keysK (i : Nat)
inductive Nx where
  | stuck | stop | item (v : PV)
def pick : Option PV → Nx
  | some v => .item v
  | none => .stop
def ivN (iv : IV) (k : Nat) (h : PH) : Nx := match iv with
  | .lst i => match seqL (.ref i) h with
    | some xs => pick xs[k]?
    | none => .stuck
  | .tup xs => pick xs[k]?
  | .rng lo n => match Nat.blt k n with
    | true => .item (.int (lo + k))
    | false => .stop
  | .enumL i => match seqL (.ref i) h with
    | some xs => match xs[k]? with
      | some v => .item (.tup [.int k, v])
      | none => .stop
    | none => .stuck
  | .enumT xs => match xs[k]? with
    | some v => .item (.tup [.int k, v])
    | none => .stop
  | .zipL i j => match seqL (.ref i) h, seqL (.ref j) h with
    | some xs, some ys => match xs[k]?, ys[k]? with
      | some x, some y => .item (.tup [x, y])
      | _, _ => .stop
    | _, _ => .stuck
  | .zipT xs ys => match xs[k]?, ys[k]? with
    | some x, some y => .item (.tup [x, y])
    | _, _ => .stop
  | .keysT i => match h.get i with
    | some (.lT kvs) => match kvs[k]? with
      | some p => .item (tupI p.1)
      | none => .stop
    | _ => .stuck
  | .keysK i => match h.get i with
    | some (.lK kvs) => match kvs[k]? with
      | some p => .item (.int p.1)
      | none => .stop
    | _ => .stuck
mutual
def asgT : CT → PV → PSt → Option PSt
  | .nm i, v, st => some (st.set i (some v))
  | .tup ts, v, st => match v with
    | .tup xs => asgTs ts xs st
    | _ => none
def asgTs : List CT → List PV → PSt → Option PSt
  | [], [], st => some st
  | t :: ts, x :: xs, st => match asgT t x st with
    | some st' => asgTs ts xs st'
    | none => none
  | _, _, _ => none
end
def asgL (t : CT) (v : PV) (st : PSt) (h : PH) : Option PSt := match t with
  | .tup ts => match v with
    | .ref i => match seqL (.ref i) h with
      | some xs => asgTs ts xs st
      | none => none
    | _ => none
  | _ => none
def asgA (t : CT) (v : PV) (st : PSt) (h : PH) : Option PSt := match asgT t v st with
  | some s => some s
  | none => asgL t v st h
theorem asgA_of {t : CT} {v : PV} {st st' : PSt} {h : PH} (e : asgT t v st = some st') : asgA t v st h = some st' := by
  unfold asgA
  rw [e]
def wipeP (st : PSt) : List Nat → PSt
  | [] => st
  | v :: vs => (wipeP st vs).set v none

def evL (rec : CE → PSt → PH → R PV) : List CE → PSt → PH → R (List PV)
  | [], _, h => .ok [] h
  | e :: es, st, h => match rec e st h with
    | .stuck => .stuck
    | .ok v h1 => match evL rec es st h1 with
      | .stuck => .stuck
      | .ok vs h2 => .ok (v :: vs) h2
def evO (rec : CE → PSt → PH → R PV) : Option CE → PSt → PH → R (Option Int)
  | none, _, h => .ok none h
  | some e, st, h => match rec e st h with
    | .ok (.int i) h1 => .ok (some i) h1
    | _ => .stuck
def evB (rec : CE → PSt → PH → R PV) : CB → PSt → PH → R Bool
  | .val e, st, h => match rec e st h with
    | .stuck => .stuck
    | .ok v h1 => okO (truth v h1) h1
  | .bl e, st, h => match rec e st h with
    | .ok (.bl k) h1 => .ok k h1
    | _ => .stuck
  | .not b, st, h => match evB rec b st h with
    | .stuck => .stuck
    | .ok k h1 => .ok (!k) h1
  | .and a b, st, h => match evB rec a st h with
    | .stuck => .stuck
    | .ok true h1 => evB rec b st h1
    | .ok false h1 => .ok false h1
  | .or a b, st, h => match evB rec a st h with
    | .stuck => .stuck
    | .ok true h1 => .ok true h1
    | .ok false h1 => evB rec b st h1
def evI (rec : CE → PSt → PH → R PV) (it : CI) (st : PSt) (h : PH) : R IV := match it with
  | .over e => match rec e st h with
    | .ok (.ref i) h1 => match seqL (.ref i) h1 with
      | some _ => .ok (.lst i) h1
      | none => .stuck
    | .ok (.tup xs) h1 => .ok (.tup xs) h1
    | _ => .stuck
  | .keys e => match rec e st h with
    | .ok (.ref i) h1 => match h1.get i with
      | some (.lT _) => .ok (.keysT i) h1
      | some (.lK _) => .ok (.keysK i) h1
      | _ => .stuck
    | _ => .stuck
  | .rng1 e => match rec e st h with
    | .ok (.int j) h1 => match decide (-1000000 ≤ j) && decide (j ≤ 1000000) with
      | true => .ok (.rng 0 j.toNat) h1
      | false => .stuck
    | _ => .stuck
  | .rng2 a b => match rec a st h with
    | .ok (.int i) h1 => match rec b st h1 with
      | .ok (.int j) h2 => match decide (-1000000 ≤ i) && decide (i ≤ 1000000) && decide (-1000000 ≤ j) && decide (j ≤ 1000000) with
        | true => .ok (.rng i (j - i).toNat) h2
        | false => .stuck
      | _ => .stuck
    | _ => .stuck
  | .enum e => match rec e st h with
    | .ok (.ref i) h1 => match seqL (.ref i) h1 with
      | some _ => .ok (.enumL i) h1
      | none => .stuck
    | .ok (.tup xs) h1 => .ok (.enumT xs) h1
    | _ => .stuck
  | .zip a b => match rec a st h with
    | .ok x h1 => match rec b st h1 with
      | .ok y h2 => match x, y with
        | .ref i, .ref j => match seqL (.ref i) h2, seqL (.ref j) h2 with
          | some _, some _ => .ok (.zipL i j) h2
          | _, _ => .stuck
        | .tup xs, .tup ys => .ok (.zipT xs ys) h2
        | _, _ => .stuck
      | _ => .stuck
    | _ => .stuck
def evIf (rec : CE → PSt → PH → R PV) : Option CB → PSt → PH → R Bool
  | none, _, h => .ok true h
  | some b, st, h => evB rec b st h
def lcL (rec : CE → PSt → PH → R PV) (iv : IV) (tg : CT) (ifs : Option CB) (elt : CE) (st : PSt) (d : Nat) : Nat → Nat → PH → R Unit
  | 0, _, _ => .stuck
  | m + 1, k, h => match ivN iv k h with
    | .stuck => .stuck
    | .stop => .ok () h
    | .item v => match asgT tg v st with
      | none => .stuck
      | some st1 => match evIf rec ifs st1 h with
        | .stuck => .stuck
        | .ok false h1 => lcL rec iv tg ifs elt st d m (k + 1) h1
        | .ok true h1 => match rec elt st1 h1 with
          | .stuck => .stuck
          | .ok v h2 => match lstAt (.ref d) h2 with
            | some (_, acc) => match small acc with
              | true => lcL rec iv tg ifs elt st d m (k + 1) (h2.set d (.lst (acc ++ [v])))
              | false => .stuck
            | none => .stuck
mutual
def tgIn : CT → List Nat → Bool
  | .nm i, vs => vs.contains i
  | .tup ts, vs => tgsIn ts vs
def tgsIn : List CT → List Nat → Bool
  | [], _ => true
  | t :: ts, vs => tgIn t vs && tgsIn ts vs
end
def eVar (rec : CE → PSt → PH → R PV) (i : Nat) (st : PSt) (h : PH) : R PV := match st[i]? with
  | some (some v) => .ok v h
  | _ => .stuck
def eVal (rec : CE → PSt → PH → R PV) (v : PV) (st : PSt) (h : PH) : R PV := .ok v h
def eBin (rec : CE → PSt → PH → R PV) (op : Bop) (a : CE) (b : CE) (st : PSt) (h : PH) : R PV := match rec a st h with
  | .stuck => .stuck
  | .ok v h1 => match rec b st h1 with
    | .stuck => .stuck
    | .ok w h2 => binP op v w h2
def eNeg (rec : CE → PSt → PH → R PV) (a : CE) (st : PSt) (h : PH) : R PV := match rec a st h with
  | .ok (.int i) h1 => .ok (.int (-i)) h1
  | _ => .stuck
def eCmp (rec : CE → PSt → PH → R PV) (op : Cop) (a : CE) (b : CE) (st : PSt) (h : PH) : R PV := match rec a st h with
  | .stuck => .stuck
  | .ok v h1 => match rec b st h1 with
    | .stuck => .stuck
    | .ok w h2 => match cmpP op v w h2 with
      | some k => .ok (.bl k) h2
      | none => .stuck
def eChain (rec : CE → PSt → PH → R PV) (o1 : Cop) (o2 : Cop) (a : CE) (b : CE) (c : CE) (st : PSt) (h : PH) : R PV := match rec a st h with
  | .stuck => .stuck
  | .ok v h1 => match rec b st h1 with
    | .stuck => .stuck
    | .ok w h2 => match cmpP o1 v w h2 with
      | some true => match rec c st h2 with
        | .stuck => .stuck
        | .ok u h3 => match cmpP o2 w u h3 with
          | some k => .ok (.bl k) h3
          | none => .stuck
      | some false => .ok (.bl false) h2
      | none => .stuck
def eIsin (rec : CE → PSt → PH → R PV) (ng : Bool) (a : CE) (b : CE) (st : PSt) (h : PH) : R PV := match rec a st h with
  | .stuck => .stuck
  | .ok v h1 => match rec b st h1 with
    | .stuck => .stuck
    | .ok w h2 => match inP v w h2 with
      | some k => .ok (.bl (if ng then !k else k)) h2
      | none => .stuck
def eAnd (rec : CE → PSt → PH → R PV) (a : CE) (b : CE) (st : PSt) (h : PH) : R PV := match rec a st h with
  | .ok (.bl true) h1 => rec b st h1
  | .ok (.bl false) h1 => .ok (.bl false) h1
  | _ => .stuck
def eOr (rec : CE → PSt → PH → R PV) (a : CE) (b : CE) (st : PSt) (h : PH) : R PV := match rec a st h with
  | .ok (.bl true) h1 => .ok (.bl true) h1
  | .ok (.bl false) h1 => rec b st h1
  | _ => .stuck
def eNot (rec : CE → PSt → PH → R PV) (a : CE) (st : PSt) (h : PH) : R PV := match rec a st h with
  | .ok (.bl k) h1 => .ok (.bl (!k)) h1
  | _ => .stuck
def eIte (rec : CE → PSt → PH → R PV) (t : CB) (a : CE) (b : CE) (st : PSt) (h : PH) : R PV := match evB rec t st h with
  | .stuck => .stuck
  | .ok true h1 => rec a st h1
  | .ok false h1 => rec b st h1
def eTup (rec : CE → PSt → PH → R PV) (es : List CE) (st : PSt) (h : PH) : R PV := match evL rec es st h with
  | .stuck => .stuck
  | .ok vs h1 => okT vs h1
def eLst (rec : CE → PSt → PH → R PV) (es : List CE) (st : PSt) (h : PH) : R PV := match evL rec es st h with
  | .stuck => .stuck
  | .ok vs h1 => okL vs h1
def eCall (call : Nat → List PV → PH → R PV) (rec : CE → PSt → PH → R PV) (k : Nat) (es : List CE) (st : PSt) (h : PH) : R PV := match evL rec es st h with
  | .stuck => .stuck
  | .ok vs h1 => call k vs h1
def eBi (rec : CE → PSt → PH → R PV) (b : Bi) (es : List CE) (st : PSt) (h : PH) : R PV := match evL rec es st h with
  | .stuck => .stuck
  | .ok vs h1 => biP b vs h1
def eIsi (rec : CE → PSt → PH → R PV) (a : CE) (t : Ty) (st : PSt) (h : PH) : R PV := match rec a st h with
  | .stuck => .stuck
  | .ok v h1 => match isTy v h1 t with
    | some k => .ok (.bl k) h1
    | none => .stuck
def eIsis (rec : CE → PSt → PH → R PV) (a : CE) (t : Ty) (u : Ty) (st : PSt) (h : PH) : R PV := match rec a st h with
  | .stuck => .stuck
  | .ok v h1 => match isTy v h1 t with
    | some true => .ok (.bl true) h1
    | some false => match isTy v h1 u with
      | some k => .ok (.bl k) h1
      | none => .stuck
    | none => .stuck
def eMt (rec : CE → PSt → PH → R PV) (m : Mt) (o : CE) (es : List CE) (st : PSt) (h : PH) : R PV := match rec o st h with
  | .stuck => .stuck
  | .ok v h1 => match seqL v h1 with
    | none => .stuck
    | some _ => match evL rec es st h1 with
      | .stuck => .stuck
      | .ok vs h2 => mtP m v vs h2
def eIx (rec : CE → PSt → PH → R PV) (a : CE) (b : CE) (st : PSt) (h : PH) : R PV := match rec a st h with
  | .stuck => .stuck
  | .ok v h1 => match rec b st h1 with
    | .stuck => .stuck
    | .ok w h2 => okO (ixP v w h2) h2
def eSl (rec : CE → PSt → PH → R PV) (a : CE) (lo : Option CE) (hi : Option CE) (st : PSt) (h : PH) : R PV := match rec a st h with
  | .stuck => .stuck
  | .ok v h1 => match evO rec lo st h1 with
    | .stuck => .stuck
    | .ok l h2 => match evO rec hi st h2 with
      | .stuck => .stuck
      | .ok u h3 => slP v l u h3
def eLc (n : Nat) (rec : CE → PSt → PH → R PV) (it : CI) (tg : CT) (vs : List Nat) (ifs : Option CB) (elt : CE) (st : PSt) (h : PH) : R PV := match tgIn tg vs with
  | false => .stuck
  | true => match evI rec it st h with
    | .stuck => .stuck
    | .ok iv h1 => match lcL rec iv tg ifs elt (wipeP st vs) h1.n n 0 (h1.push (.lst [])) with
      | .stuck => .stuck
      | .ok _ h2 => .ok (.ref h1.n) h2
def lcO (rec : CE → PSt → PH → R PV) (n : Nat) (iv : IV) (tg : CT) (it1 : CI) (tg1 : CT) (vs1 : List Nat) (elt : CE) (st : PSt) (d : Nat) : Nat → Nat → PH → R Unit
  | 0, _, _ => .stuck
  | m + 1, k, h => match ivN iv k h with
    | .stuck => .stuck
    | .stop => .ok () h
    | .item v => match asgT tg v st with
      | none => .stuck
      | some st1 => match evI rec it1 st1 h with
        | .stuck => .stuck
        | .ok iv1 h1 => match lcL rec iv1 tg1 none elt (wipeP st1 vs1) d n 0 h1 with
          | .stuck => .stuck
          | .ok _ h2 => lcO rec n iv tg it1 tg1 vs1 elt st d m (k + 1) h2
def eLc2 (n : Nat) (rec : CE → PSt → PH → R PV) (it : CI) (tg : CT) (it1 : CI) (tg1 : CT) (vs vs1 : List Nat) (elt : CE) (st : PSt) (h : PH) : R PV := match tgIn tg vs && tgIn tg1 vs1 with
  | false => .stuck
  | true => match evI rec it st h with
    | .stuck => .stuck
    | .ok iv h1 => match lcO rec n iv tg it1 tg1 vs1 elt (wipeP st vs) h1.n n 0 (h1.push (.lst [])) with
      | .stuck => .stuck
      | .ok _ h2 => .ok (.ref h1.n) h2
def rgP (i j : Int) : List PV := (List.range (j - i).toNat).map fun k => .int (i + (k : Nat))
def eLrg (rec : CE → PSt → PH → R PV) (a b : CE) (st : PSt) (h : PH) : R PV := match rec a st h with
  | .ok (.int i) h1 => match rec b st h1 with
    | .ok (.int j) h2 => match decide (-1000 ≤ i) && decide (i ≤ 1000) && decide (-1000 ≤ j) && decide (j ≤ 1000) with
      | true => okL (rgP i j) h2
      | false => .stuck
    | _ => .stuck
  | _ => .stuck
def xbig : Nat := 1000000
def eLrg1 (rec : CE → PSt → PH → R PV) (b : CE) (st : PSt) (h : PH) : R PV := match rec b st h with
  | .ok (.int j) h2 => match decide (-1000 ≤ j) && decide (j ≤ 1000) with
    | true => okL (rgP 0 j) h2
    | false => .stuck
  | _ => .stuck
def eTrg (rec : CE → PSt → PH → R PV) (b : CE) (st : PSt) (h : PH) : R PV := match rec b st h with
  | .ok (.int j) h2 => match decide (-1000 ≤ j) && decide (j ≤ 1000) with
    | true => okT (rgP 0 j) h2
    | false => .stuck
  | _ => .stuck
def eCallV (call : Nat → List PV → PH → R PV) (rec : CE → PSt → PH → R PV) (i : Nat) (es : List CE) (st : PSt) (h : PH) : R PV := match st[i]? with
  | some (some (.fn k)) => match Nat.blt k xbig with
    | true => match evL rec es st h with
      | .stuck => .stuck
      | .ok vs h1 => call k vs h1
    | false => .stuck
  | _ => .stuck
def eRev (rec : CE → PSt → PH → R PV) (a : CE) (st : PSt) (h : PH) : R PV := match rec a st h with
  | .stuck => .stuck
  | .ok (.tup xs) h1 => okT xs.reverse h1
  | .ok v h1 => match seqL v h1 with
    | some xs => okL xs.reverse h1
    | none => .stuck
def eDnew (t : Bool) (h : PH) : R PV := match t with
  | true => .ok (.ref h.n) (h.push (.dT []))
  | false => .ok (.ref h.n) (h.push (.dK []))
def evPs (rec : CE → PSt → PH → R PV) : List CE → List CE → PSt → PH → R (List (Int × PV))
  | [], [], _, h => .ok [] h
  | k :: ks, v :: vs, st, h => match rec k st h with
    | .ok (.int i) h1 => match rec v st h1 with
      | .stuck => .stuck
      | .ok x h2 => match evPs rec ks vs st h2 with
        | .stuck => .stuck
        | .ok r h3 => .ok ((i, x) :: r) h3
    | _ => .stuck
  | _, _, _, _ => .stuck
def mergeG (more : List (Int × PV)) (kvs : List (Int × PV)) : List (Int × PV) := more.foldl (fun acc p => putG p.1 p.2 acc) kvs
def eDisp (rec : CE → PSt → PH → R PV) (ks vs : List CE) (st : PSt) (h : PH) : R PV := match evPs rec ks vs st (h.push (.dK [])) with
  | .stuck => .stuck
  | .ok ps h1 => match h1.get h.n with
    | some (.dK []) => match Nat.ble ps.length 15 with
      | true => .ok (.ref h.n) (h1.set h.n (.dK (mergeG ps [])))
      | false => .stuck
    | _ => .stuck
def hvAt (k : Int) : List (Nat × PV) → Option PV
  | [] => none
  | p :: r => match decide (k = (p.1 : Int)) with
    | true => some p.2
    | false => hvAt k r
def eLam (rec : CE → PSt → PH → R PV) (b xe : CE) (hs : List (Nat × PV)) (aft : Option Bool) (st : PSt) (h : PH) : R PV := match h.get 1 with
  | some .tb => match rec xe st h with
    | .ok (.int k) h1 => match hvAt k hs with
      | some v => .ok v h1
      | none => .stuck
    | .ok _ _ => match rec b st h with
      | .stuck => .stuck
      | .ok v h1 => match aft with
        | none => .ok v h1
        | some w => .ok (.bl w) h1
    | .stuck => .stuck
  | _ => .stuck
def isDic (v : PV) (h : PH) : Bool := match v with
  | .ref i => match h.get i with
    | some (.dK _) => true
    | some (.dT _) => true
    | some (.lT _) => true
    | some (.lK _) => true
    | _ => false
  | _ => false
def eGet2 (rec : CE → PSt → PH → R PV) (d k x : CE) (st : PSt) (h : PH) : R PV := match rec d st h with
  | .stuck => .stuck
  | .ok v h1 => match isDic v h1 with
    | false => .stuck
    | true => match rec k st h1 with
      | .stuck => .stuck
      | .ok w h2 => match rec x st h2 with
        | .stuck => .stuck
        | .ok z h3 => match dLook v w h3 with
          | some (some u) => .ok u h3
          | some none => .ok z h3
          | none => .stuck
def eDispT (rec : CE → PSt → PH → R PV) (k v : CE) (st : PSt) (h : PH) : R PV := match rec k st (h.push (.dT [])) with
  | .stuck => .stuck
  | .ok w h1 => match rec v st h1 with
    | .stuck => .stuck
    | .ok x h2 => match h2.get h.n, keyT w with
      | some (.dT []), some ks => .ok (.ref h.n) (h2.set h.n (.dT [(ks, x)]))
      | _, _ => .stuck
def eIsE (rec : CE → PSt → PH → R PV) (a : CE) (st : PSt) (h : PH) : R PV := match rec a st h with
  | .ok (.ref i) h1 => match h1.get i with
    | some (.dT kvs) => .ok (.bl kvs.isEmpty) h1
    | _ => .stuck
  | _ => .stuck
def eSkeys (rec : CE → PSt → PH → R PV) (a : CE) (st : PSt) (h : PH) : R PV := match rec a st h with
  | .ok (.ref i) h1 => match h1.get i with
    | some (.dT kvs) => match kvs.all fun p => !p.1.isEmpty with
      | true => okL ((sortT (kvs.map (·.1))).map tupI) h1
      | false => .stuck
    | _ => .stuck
  | _ => .stuck
def unl {α : Type} (a : Nat) : R α → R α
  | .ok x h => match h.get a with
    | some (.lT kvs) => .ok x (h.set a (.dT kvs))
    | _ => .stuck
  | .stuck => .stuck
def lockP (st : PSt) (h : PH) (i : Nat) : Option (Nat × List (List Int × PV)) := match st[i]? with
  | some (some (.ref a)) => match h.get a with
    | some (.dT kvs) => some (a, kvs)
    | _ => none
  | _ => none
def unlK {α : Type} (a : Nat) : R α → R α
  | .ok x h => match h.get a with
    | some (.lK kvs) => .ok x (h.set a (.dK kvs))
    | _ => .stuck
  | .stuck => .stuck
def lockK (st : PSt) (h : PH) (i : Nat) : Option (Nat × List (Int × PV)) := match st[i]? with
  | some (some (.ref a)) => match h.get a with
    | some (.dK kvs) => some (a, kvs)
    | _ => none
  | _ => none
def eLockE (rec : CE → PSt → PH → R PV) (i : Nat) (e : CE) (st : PSt) (h : PH) : R PV := match lockP st h i with
  | some (a, kvs) => unl a (rec e st (h.set a (.lT kvs)))
  | none => match lockK st h i with
    | some (a, kvs) => unlK a (rec e st (h.set a (.lK kvs)))
    | none => .stuck
def eLk (rec : CE → PSt → PH → R PV) (a : CE) (st : PSt) (h : PH) : R PV := match rec a st h with
  | .ok (.ref i) h1 => match h1.get i with
    | some (.dT kvs) => .ok (.ref i) (h1.set i (.lT kvs))
    | some (.dK kvs) => .ok (.ref i) (h1.set i (.lK kvs))
    | _ => .stuck
  | _ => .stuck
def eVals (rec : CE → PSt → PH → R PV) (a : CE) (st : PSt) (h : PH) : R PV := match rec a st h with
  | .ok (.ref i) h1 => match h1.get i with
    | some (.dK kvs) => okL (kvs.map (·.2)) h1
    | _ => .stuck
  | _ => .stuck
def stepE (call : Nat → List PV → PH → R PV) (n : Nat) (rec : CE → PSt → PH → R PV) (c : CE) (st : PSt) (h : PH) : R PV := match c with
  | .stuck => .stuck
  | .var i => eVar rec i st h
  | .val v => eVal rec v st h
  | .bin op a b => eBin rec op a b st h
  | .neg a => eNeg rec a st h
  | .cmp op a b => eCmp rec op a b st h
  | .chain o1 o2 a b c => eChain rec o1 o2 a b c st h
  | .isin ng a b => eIsin rec ng a b st h
  | .and a b => eAnd rec a b st h
  | .or a b => eOr rec a b st h
  | .not a => eNot rec a st h
  | .ite t a b => eIte rec t a b st h
  | .tup es => eTup rec es st h
  | .lst es => eLst rec es st h
  | .call k es => eCall call rec k es st h
  | .bi b es => eBi rec b es st h
  | .isi a t => eIsi rec a t st h
  | .isis a t u => eIsis rec a t u st h
  | .mt m o es => eMt rec m o es st h
  | .ix a b => eIx rec a b st h
  | .sl a lo hi => eSl rec a lo hi st h
  | .lc it tg vs ifs elt => eLc n rec it tg vs ifs elt st h
  | .lrg a b => eLrg rec a b st h
  | .lrg1 b => eLrg1 rec b st h
  | .trg b => eTrg rec b st h
  | .lc2 it tg it1 tg1 vs vs1 elt => eLc2 n rec it tg it1 tg1 vs vs1 elt st h
  | .callv i es => eCallV call rec i es st h
  | .rev a => eRev rec a st h
  | .dnew t => eDnew t h
  | .disp ks vs => eDisp rec ks vs st h
  | .lam b xe hs aft => eLam rec b xe hs aft st h
  | .get2 d k x => eGet2 rec d k x st h
  | .dispT k v => eDispT rec k v st h
  | .isE a => eIsE rec a st h
  | .skeys a => eSkeys rec a st h
  | .lockE i e => eLockE rec i e st h
  | .lk a => eLk rec a st h
  | .vals a => eVals rec a st h
def evE (call : Nat → List PV → PH → R PV) : Nat → CE → PSt → PH → R PV
  | 0, _, _, _ => .stuck
  | n + 1, c, st, h => stepE call n (evE call n) c st h

inductive FR where
  | nx (st : PSt) | rt (v : PV) | bk (st : PSt) | ct (st : PSt)
def evSs (rec : CS → PSt → PH → R FR) : List CS → PSt → PH → R FR
  | [], st, h => .ok (.nx st) h
  | s :: ss, st, h => match rec s st h with
    | .ok (.nx st1) h1 => evSs rec ss st1 h1
    | r => r
def forL (body : PSt → PH → R FR) (iv : IV) (tg : CT) : Nat → Nat → PSt → PH → R FR
  | 0, _, _, _ => .stuck
  | m + 1, k, st, h => match ivN iv k h with
    | .stuck => .stuck
    | .stop => .ok (.nx st) h
    | .item v => match asgT tg v st with
      | none => .stuck
      | some st1 => match body st1 h with
        | .ok (.nx st2) h2 => forL body iv tg m (k + 1) st2 h2
        | .ok (.ct st2) h2 => forL body iv tg m (k + 1) st2 h2
        | .ok (.bk st2) h2 => .ok (.nx st2) h2
        | .ok (.rt v) h2 => .ok (.rt v) h2
        | .stuck => .stuck
def whL (test : PSt → PH → R Bool) (body : PSt → PH → R FR) : Nat → PSt → PH → R FR
  | 0, _, _ => .stuck
  | m + 1, st, h => match test st h with
    | .stuck => .stuck
    | .ok false h1 => .ok (.nx st) h1
    | .ok true h1 => match body st h1 with
      | .ok (.nx st2) h2 => whL test body m st2 h2
      | .ok (.ct st2) h2 => whL test body m st2 h2
      | .ok (.bk st2) h2 => .ok (.nx st2) h2
      | .ok (.rt v) h2 => .ok (.rt v) h2
      | .stuck => .stuck
def xExpr (n : Nat) (ev : CE → PSt → PH → R PV) (rec : CS → PSt → PH → R FR) (e : CE) (st : PSt) (h : PH) : R FR := match ev e st h with
  | .stuck => .stuck
  | .ok _ h1 => .ok (.nx st) h1
def xAsg (n : Nat) (ev : CE → PSt → PH → R PV) (rec : CS → PSt → PH → R FR) (t : CT) (e : CE) (st : PSt) (h : PH) : R FR := match ev e st h with
  | .stuck => .stuck
  | .ok v h1 => match asgA t v st h1 with
    | some st1 => .ok (.nx st1) h1
    | none => .stuck
def xPar (n : Nat) (ev : CE → PSt → PH → R PV) (rec : CS → PSt → PH → R FR) (i : Nat) (j : Nat) (a : CE) (b : CE) (st : PSt) (h : PH) : R FR := match ev a st h with
  | .stuck => .stuck
  | .ok v h1 => match ev b st h1 with
    | .stuck => .stuck
    | .ok w h2 => .ok (.nx ((st.set i (some v)).set j (some w))) h2
def xPar3 (n : Nat) (ev : CE → PSt → PH → R PV) (rec : CS → PSt → PH → R FR) (i j l : Nat) (a b d : CE) (st : PSt) (h : PH) : R FR := match ev a st h with
  | .stuck => .stuck
  | .ok v h1 => match ev b st h1 with
    | .stuck => .stuck
    | .ok w h2 => match ev d st h2 with
      | .stuck => .stuck
      | .ok u h3 => .ok (.nx (((st.set i (some v)).set j (some w)).set l (some u))) h3
def xSetix (n : Nat) (ev : CE → PSt → PH → R PV) (rec : CS → PSt → PH → R FR) (o : CE) (i : CE) (e : CE) (st : PSt) (h : PH) : R FR := match ev e st h with
  | .stuck => .stuck
  | .ok v h1 => match ev o st h1 with
    | .stuck => .stuck
    | .ok a h2 => match ev i st h2 with
      | .stuck => .stuck
      | .ok k h3 => match setP a k v h3 with
        | some h4 => .ok (.nx st) h4
        | none => .stuck
def augI (op : Bop) (x y : Int) : Option Int := match op with
  | .add => some (x + y)
  | .sub => some (x - y)
  | .mul => match wide x || wide y with
    | true => some (x * y)
    | false => none
  | .fdiv => match decide (0 < y) && decide (y < 1073741824) with
    | true => some (x / y)
    | false => none
  | .mod => match decide (0 < y) with
    | true => some (x % y)
    | false => none
  | .pow => none
def xAugn (n : Nat) (ev : CE → PSt → PH → R PV) (rec : CS → PSt → PH → R FR) (i : Nat) (op : Bop) (e : CE) (st : PSt) (h : PH) : R FR := match st[i]? with
  | some (some (.int x)) => match ev e st h with
    | .ok (.int y) h1 => match augI op x y with
      | some z => .ok (.nx (st.set i (some (.int z)))) h1
      | none => .stuck
    | _ => .stuck
  | _ => .stuck
def xAugix (n : Nat) (ev : CE → PSt → PH → R PV) (rec : CS → PSt → PH → R FR) (o i : CE) (op : Bop) (e : CE) (st : PSt) (h : PH) : R FR := match ev o st h with
  | .stuck => .stuck
  | .ok a h1 => match ev i st h1 with
    | .stuck => .stuck
    | .ok k h2 => match ixP a k h2 with
      | some (.int x) => match ev e st h2 with
        | .ok (.int y) h3 => match augI op x y with
          | some z => match setP a k (.int z) h3 with
            | some h4 => .ok (.nx st) h4
            | none => .stuck
          | none => .stuck
        | _ => .stuck
      | _ => .stuck
def xRet (n : Nat) (ev : CE → PSt → PH → R PV) (rec : CS → PSt → PH → R FR) (e : CE) (st : PSt) (h : PH) : R FR := match ev e st h with
  | .stuck => .stuck
  | .ok v h1 => .ok (.rt v) h1
def xIte (n : Nat) (ev : CE → PSt → PH → R PV) (rec : CS → PSt → PH → R FR) (b : CB) (t : List CS) (u : List CS) (st : PSt) (h : PH) : R FR := match evB ev b st h with
  | .stuck => .stuck
  | .ok true h1 => evSs rec t st h1
  | .ok false h1 => evSs rec u st h1
def xWhile (n : Nat) (ev : CE → PSt → PH → R PV) (rec : CS → PSt → PH → R FR) (b : CB) (t : List CS) (st : PSt) (h : PH) : R FR := whL (evB ev b) (evSs rec t) n st h
def xFor (n : Nat) (ev : CE → PSt → PH → R PV) (rec : CS → PSt → PH → R FR) (t : CT) (it : CI) (b : List CS) (st : PSt) (h : PH) : R FR := match evI ev it st h with
  | .stuck => .stuck
  | .ok iv h1 => forL (evSs rec b) iv t n 0 st h1
def xTry (n : Nat) (ev : CE → PSt → PH → R PV) (rec : CS → PSt → PH → R FR) (b : CS) (xe : CE) (j : Nat) (tgt : Option Nat) (hs : List (Nat × PV)) (st : PSt) (h : PH) : R FR := match ev xe st h with
  | .ok (.int k) h1 => match hvAt k hs with
    | some v => match tgt with
      | none => .ok (.rt v) h1
      | some i => .ok (.nx ((st.set j none).set i (some v))) h1
    | none => .stuck
  | .ok _ _ => rec b st h
  | .stuck => .stuck
def xLock (rec : CS → PSt → PH → R FR) (i : Nat) (s : CS) (st : PSt) (h : PH) : R FR := match lockP st h i with
  | some (a, kvs) => unl a (rec s st (h.set a (.lT kvs)))
  | none => match lockK st h i with
    | some (a, kvs) => unlK a (rec s st (h.set a (.lK kvs)))
    | none => .stuck
def stepS (n : Nat) (ev : CE → PSt → PH → R PV) (rec : CS → PSt → PH → R FR) (c : CS) (st : PSt) (h : PH) : R FR := match c with
  | .stuck => .stuck
  | .pass => .ok (.nx st) h
  | .expr e => xExpr n ev rec e st h
  | .asg t e => xAsg n ev rec t e st h
  | .par i j a b => xPar n ev rec i j a b st h
  | .par3 i j l a b d => xPar3 n ev rec i j l a b d st h
  | .setix o i e => xSetix n ev rec o i e st h
  | .augn i op e => xAugn n ev rec i op e st h
  | .augix o i op e => xAugix n ev rec o i op e st h
  | .ret e => xRet n ev rec e st h
  | .retN => .ok (.rt .non) h
  | .ite b t u => xIte n ev rec b t u st h
  | .while b t => xWhile n ev rec b t st h
  | .for t it b => xFor n ev rec t it b st h
  | .brk => .ok (.bk st) h
  | .cont => .ok (.ct st) h
  | .tryx b xe j tgt hs => xTry n ev rec b xe j tgt hs st h
  | .lock i s => xLock rec i s st h
def evS (call : Nat → List PV → PH → R PV) : Nat → CS → PSt → PH → R FR
  | 0, _, _, _ => .stuck
  | n + 1, c, st, h => stepS n (evE call n) (evS call n) c st h

inductive XS where
  | no | rz (k : Nat) | call (k : Nat) (es : List CE) | ite (b : CB) (t : List CS) (tx : List XS) (u : List CS) (ux : List XS)
structure Def where
  ar : Nat
  sz : Nat
  body : List CS
  xb : List XS := []
abbrev Prg := List Def
def runD (call : Nat → List PV → PH → R PV) (n : Nat) (d : Def) (vs : List PV) (h : PH) : R PV := match Nat.beq vs.length d.ar with
  | false => .stuck
  | true => match evSs (evS call n) d.body (vs.map some ++ List.replicate (d.sz - vs.length) none) h with
    | .ok (.rt v) h1 => .ok v h1
    | .ok (.nx _) h1 => .ok .non h1
    | _ => .stuck
def xvSs (rec : CS → PSt → PH → R FR) (xr : XS → PSt → PH → R PV) : List CS → List XS → PSt → PH → R PV
  | s :: ss, x :: xs, st, h => match xr x st h with
    | .stuck => .stuck
    | .ok (.int k) h1 => .ok (.int k) h1
    | .ok _ _ => match rec s st h with
      | .stuck => .stuck
      | .ok (.nx st1) h1 => xvSs rec xr ss xs st1 h1
      | .ok _ _ => .ok .non h
  | _, _, _, h => .ok .non h
def xvS (ev : CE → PSt → PH → R PV) (rec : CS → PSt → PH → R FR) : Nat → XS → PSt → PH → R PV
  | 0, _, _, _ => .stuck
  | m + 1, c, st, h => match c with
    | .no => .ok .non h
    | .rz k => .ok (.int (k : Nat)) h
    | .ite b t tx u ux => match evB ev b st h with
      | .stuck => .stuck
      | .ok true h1 => xvSs rec (xvS ev rec m) t tx st h1
      | .ok false h1 => xvSs rec (xvS ev rec m) u ux st h1
    | .call k es => ev (.call (xbig + k) es) st h
def runX (call : Nat → List PV → PH → R PV) (n : Nat) (d : Def) (vs : List PV) (h : PH) : R PV := match Nat.beq vs.length d.ar with
  | false => .stuck
  | true => xvSs (evS call n) (xvS (evE call n) (evS call n) 20) d.body d.xb (vs.map some ++ List.replicate (d.sz - vs.length) none) h
def callP (P : Prg) (n : Nat) : Nat → Nat → List PV → PH → R PV
  | 0, _, _, _ => .stuck
  | d + 1, k, vs, h => match P[k]? with
    | some f => runD (callP P n d) n f vs h
    | none => match Nat.ble xbig k with
      | true => match P[k - xbig]? with
        | some f => runX (callP P n d) n f vs h
        | none => .stuck
      | false => .stuck
end Pyx

namespace Pyx
open PySem PySem.Spec PyProof.Rows L2

structure Rc where
  K : PySem.W.Frag
  w : World
  F : Nat → Addr
  C : Nat → Addr := fun _ => 0
  cd : Addr := 0
  tb : Addr := 0
  lq : Str := ""
  sc : Option Addr := none
def Frz (c : Rc) (H : Hp) (a : Addr) (xs : List V) : Prop :=
  (∃ o, H a = some (.frz o (.lst xs))) ∨
    (∃ (o : Obj) (its : Array Value) (n : Nat), c.K.lookup a = some o ∧ o.cls = .type "list" ∧ o.dict = none ∧ o.data = .seq its n ∧ its.size ≤ sizeLine ∧ Vals xs its.toList) ∨
    (c.sc = some a ∧ H a = some (.lst xs))
theorem Frz.seq {c : Rc} {H : Hp} {a : Addr} {xs : List V} (h : Frz c H a xs) : SqL c.K H a xs := by
  rcases h with ⟨o, h⟩ | h | h
  · exact .inl (.inr ⟨o, h⟩)
  · exact .inr h
  · exact .inl (.inl h.2)
mutual
inductive RV (c : Rc) (f : Nat → Addr) (n : Nat) (H : Hp) : PV → V → Prop where
  | non : RV c f n H .non .non
  | bl (b : Bool) : RV c f n H (.bl b) (.bl b)
  | int (i : Int) : RV c f n H (.int i) (.int i)
  | str (s : Str) : RV c f n H (.str s) (.str s)
  | tup {a : Addr} {xs : List PV} {vs : List V} : H a = some (.tup vs) → RVs c f n H xs vs → RV c f n H (.tup xs) (.ref a)
  | ref {i : Nat} : i < n → RV c f n H (.ref i) (.ref (f i))
  | fn (k : Nat) : RV c f n H (.fn k) (.ref (c.F k))
inductive RVs (c : Rc) (f : Nat → Addr) (n : Nat) (H : Hp) : List PV → List V → Prop where
  | nil : RVs c f n H [] []
  | cons {x : PV} {v : V} {xs : List PV} {vs : List V} : RV c f n H x v → RVs c f n H xs vs → RVs c f n H (x :: xs) (v :: vs)
end
def IsDt : HO → Prop
  | .dT _ => True
  | .dK _ => True
  | _ => False
structure Ext (f : Nat → Addr) (n : Nat) (H : Hp) (f' : Nat → Addr) (n' : Nat) (H' : Hp) : Prop where
  le : n ≤ n'
  eq : ∀ i, i < n → f' i = f i
  tup : ∀ a vs, H a = some (.tup vs) → H' a = some (.tup vs)
  cod : ∀ a q, H a = some (LamX.CodeO a q) → H' a = some (LamX.CodeO a q)
  frz : ∀ a o u, IsDt u → H a = some (.frz o u) → H' a = some (.frz o u)
section
variable {c : Rc} {f f' f1 f2 : Nat → Addr} {n n' n1 n2 : Nat} {H H' H1 H2 : Hp}
theorem Ext.refl : Ext f n H f n H := ⟨Nat.le_refl _, fun _ _ => rfl, fun _ _ h => h, fun _ _ h => h, fun _ _ _ _ h => h⟩
theorem Ext.trans (a : Ext f n H f1 n1 H1) (b : Ext f1 n1 H1 f2 n2 H2) : Ext f n H f2 n2 H2 :=
  ⟨Nat.le_trans a.le b.le, fun i h => (b.eq i (Nat.lt_of_lt_of_le h a.le)).trans (a.eq i h), fun x vs h => b.tup x vs (a.tup x vs h), fun x q h => b.cod x q (a.cod x q h), fun x o q d h => b.frz x o q d (a.frz x o q d h)⟩
mutual
theorem RV.mono (e : Ext f n H f' n' H') {x : PV} {v : V} : RV c f n H x v → RV c f' n' H' x v
  | .non => .non
  | .bl b => .bl b
  | .int i => .int i
  | .str s => .str s
  | .tup h r => .tup (e.tup _ _ h) (RVs.mono e r)
  | .ref h => by
    have q := RV.ref (c := c) (f := f') (H := H') (Nat.lt_of_lt_of_le h e.le)
    rw [e.eq _ h] at q
    exact q
  | .fn k => .fn k
theorem RVs.mono (e : Ext f n H f' n' H') {xs : List PV} {vs : List V} : RVs c f n H xs vs → RVs c f' n' H' xs vs
  | .nil => .nil
  | .cons h r => .cons (RV.mono e h) (RVs.mono e r)
end
theorem RVs.length : ∀ {xs : List PV} {vs : List V}, RVs c f n H xs vs → xs.length = vs.length
  | [], [], _ => rfl
  | _ :: _, _ :: _, .cons _ r => congrArg (· + 1) r.length
theorem RVs.app : ∀ {xs ys : List PV} {vs ws : List V}, RVs c f n H xs vs → RVs c f n H ys ws → RVs c f n H (xs ++ ys) (vs ++ ws)
  | [], _, [], _, _, h => h
  | _ :: _, _, _ :: _, _, .cons r t, h => .cons r (t.app h)
theorem RVs.get : ∀ {xs : List PV} {vs : List V}, RVs c f n H xs vs → ∀ (i : Nat) (x : PV), xs[i]? = some x → ∃ v, vs[i]? = some v ∧ RV c f n H x v
  | _ :: _, _ :: _, .cons r t, 0, x, h => by
    rw [List.getElem?_cons_zero] at h
    cases h
    exact ⟨_, rfl, r⟩
  | _ :: _, _ :: _, .cons r t, i + 1, x, h => by
    rw [List.getElem?_cons_succ] at h
    obtain ⟨v, e, q⟩ := RVs.get t i x h
    exact ⟨v, by rw [List.getElem?_cons_succ]; exact e, q⟩
  | [], [], .nil, i, x, h => by simp at h
theorem RVs.set : ∀ {xs : List PV} {vs : List V} (i : Nat) {x : PV} {v : V}, RVs c f n H xs vs → RV c f n H x v → RVs c f n H (xs.set i x) (vs.set i v)
  | [], [], _, _, _, .nil, _ => .nil
  | _ :: _, _ :: _, 0, _, _, .cons _ t, h => .cons h t
  | _ :: _, _ :: _, i + 1, _, _, .cons r t, h => .cons r (t.set i h)
theorem RVs.take : ∀ {xs : List PV} {vs : List V} (i : Nat), RVs c f n H xs vs → RVs c f n H (xs.take i) (vs.take i)
  | _, _, 0, _ => by rw [List.take_zero, List.take_zero]; exact .nil
  | [], [], i + 1, .nil => .nil
  | _ :: _, _ :: _, i + 1, .cons r t => .cons r (t.take i)
theorem RVs.drop : ∀ {xs : List PV} {vs : List V} (i : Nat), RVs c f n H xs vs → RVs c f n H (xs.drop i) (vs.drop i)
  | _, _, 0, h => h
  | [], [], i + 1, .nil => .nil
  | _ :: _, _ :: _, i + 1, .cons _ t => t.drop i
theorem RVs.rep {xs : List PV} {vs : List V} (r : RVs c f n H xs vs) : ∀ k : Nat, RVs c f n H (List.replicate k xs).flatten (List.replicate k vs).flatten
  | 0 => .nil
  | k + 1 => by
    rw [List.replicate_succ, List.replicate_succ, List.flatten_cons, List.flatten_cons]
    exact r.app (r.rep k)
theorem RVs.dropLast : ∀ {xs : List PV} {vs : List V}, RVs c f n H xs vs → RVs c f n H xs.dropLast vs.dropLast
  | [], [], .nil => .nil
  | [_], [_], .cons _ .nil => .nil
  | _ :: _ :: _, _ :: _ :: _, .cons r (.cons r2 t) => .cons r (RVs.dropLast (.cons r2 t))
theorem RVs.cut {xs : List PV} {vs : List V} (r : RVs c f n H xs vs) (lo hi : Option Int) : RVs c f n H (cutP xs lo hi) (cutV vs lo hi) := by
  unfold cutP cutV
  rw [r.length]
  exact (r.drop _).take _

inductive RD {κ κ' : Type} (e : κ → κ') (c : Rc) (f : Nat → Addr) (n : Nat) (H : Hp) : List (κ × PV) → List (κ' × V) → Prop where
  | nil : RD e c f n H [] []
  | cons {k : κ} {x : PV} {v : V} {r : List (κ × PV)} {s : List (κ' × V)} : RV c f n H x v → RD e c f n H r s → RD e c f n H ((k, x) :: r) ((e k, v) :: s)
theorem RD.mono {κ κ' : Type} {ek : κ → κ'} (e : Ext f n H f' n' H') : ∀ {r : List (κ × PV)} {s : List (κ' × V)}, RD ek c f n H r s → RD ek c f' n' H' r s
  | _, _, .nil => .nil
  | _, _, .cons h t => .cons (h.mono e) (RD.mono e t)
theorem RD.length {κ κ' : Type} {ek : κ → κ'} : ∀ {r : List (κ × PV)} {s : List (κ' × V)}, RD ek c f n H r s → r.length = s.length
  | _, _, .nil => rfl
  | _, _, .cons _ t => congrArg (· + 1) t.length
theorem RD.val {κ κ' : Type} [DecidableEq κ] [DecidableEq κ'] {ek : κ → κ'} (inj : ∀ a b, ek a = ek b → a = b) (k : κ) : ∀ {r : List (κ × PV)} {s : List (κ' × V)}, RD ek c f n H r s → (valG k r = none ∧ valV s (ek k) = none) ∨ ∃ x v, valG k r = some x ∧ valV s (ek k) = some v ∧ RV c f n H x v
  | _, _, .nil => .inl ⟨rfl, rfl⟩
  | _, _, .cons (k := j) (x := x) (v := v) (r := r) (s := s) h t => by
    by_cases hk : j = k
    · subst hk
      refine .inr ⟨x, v, ?_, valV_pos rfl, h⟩
      unfold valG
      rw [decide_eq_true rfl]
    · have h1 : valG k ((j, x) :: r) = valG k r := by
        show (match decide (j = k) with | true => some x | false => valG k r) = _
        rw [decide_eq_false hk]
      rw [h1, valV_neg (fun z => hk (inj _ _ z))]
      exact t.val inj k
theorem putK_cons_pos {κ : Type} [DecidableEq κ] {k : κ} {v w : V} {r : List (κ × V)} (nd : valV r k = none) : putK ((k, w) :: r) k v = (k, v) :: r := by
  unfold putK
  rw [if_pos (by simp)]
  rw [List.map_cons, if_pos rfl]
  congr 1
  have key : ∀ l : List (κ × V), valV l k = none → (l.map fun kv => if kv.1 = k then (kv.1, v) else kv) = l := by
    intro l
    induction l with
    | nil => intro _; rfl
    | cons p l ih =>
      intro hn
      by_cases hp : p.1 = k
      · rw [valV_pos hp] at hn; cases hn
      · rw [valV_neg hp] at hn
        rw [List.map_cons, if_neg hp, ih hn]
  exact key r nd
theorem putK_cons_neg {κ : Type} [DecidableEq κ] {k j : κ} {v w : V} {r : List (κ × V)} (hk : ¬ j = k) : putK ((j, w) :: r) k v = (j, w) :: putK r k v := by
  unfold putK
  by_cases ha : (r.any fun kv => decide (kv.1 = k)) = true
  · rw [if_pos (by rw [List.any_cons, ha, Bool.or_true]), if_pos ha, List.map_cons, if_neg hk]
  · rw [if_neg (by rw [List.any_cons]; simpa [hk] using ha), if_neg ha]
    rfl
def NoTw {κ : Type} [DecidableEq κ] : List (κ × V) → Prop
  | [] => True
  | p :: r => valV r p.1 = none ∧ NoTw r
theorem valV_putK_ne {κ : Type} [DecidableEq κ] {k j : κ} {v : V} (hk : ¬ j = k) : ∀ r : List (κ × V), valV r j = none → valV (putK r k v) j = none := fun r h => by
  rw [valV_put, if_neg hk]
  exact h
theorem NoTw.put {κ : Type} [DecidableEq κ] {k : κ} {v : V} : ∀ {r : List (κ × V)}, NoTw r → NoTw (putK r k v)
  | [], _ => by
    have e : putK ([] : List (κ × V)) k v = [(k, v)] := rfl
    rw [e]
    exact ⟨rfl, trivial⟩
  | (j, w) :: r, h => by
    by_cases hk : j = k
    · subst hk
      rw [putK_cons_pos h.1]
      exact h
    · rw [putK_cons_neg hk]
      exact ⟨valV_putK_ne hk r h.1, NoTw.put h.2⟩
theorem RD.put {κ κ' : Type} [DecidableEq κ] [DecidableEq κ'] {ek : κ → κ'} (inj : ∀ a b, ek a = ek b → a = b) (k : κ) {x : PV} {v : V} (rv : RV c f n H x v) : ∀ {r : List (κ × PV)} {s : List (κ' × V)}, RD ek c f n H r s → NoTw s → RD ek c f n H (putG k x r) (putK s (ek k) v)
  | _, _, .nil, _ => .cons rv .nil
  | _, _, .cons (k := j) (x := y) (v := w) (r := r) (s := s) h t, nt => by
    by_cases hk : j = k
    · subst hk
      rw [putK_cons_pos nt.1]
      have h1 : putG j x ((j, y) :: r) = (j, x) :: r := by
        show (match decide (j = j) with | true => (j, x) :: r | false => (j, y) :: putG j x r) = _
        rw [decide_eq_true rfl]
      rw [h1]
      exact .cons rv t
    · rw [putK_cons_neg (fun z => hk (inj _ _ z))]
      have h1 : putG k x ((j, y) :: r) = (j, y) :: putG k x r := by
        show (match decide (j = k) with | true => (j, x) :: r | false => (j, y) :: putG k x r) = _
        rw [decide_eq_false hk]
      rw [h1]
      exact .cons h (t.put inj k rv nt.2)
def kI (i : Int) : Key := .inl i
def kT (is : List Int) : List Key := is.map kI
theorem kI_inj (a b : Int) (h : kI a = kI b) : a = b := by
  cases h
  rfl
theorem kT_inj : ∀ a b : List Int, kT a = kT b → a = b
  | [], [], _ => rfl
  | [], _ :: _, h => by cases h
  | _ :: _, [], h => by cases h
  | x :: a, y :: b, h => by
    have h1 := List.cons.inj h
    rw [kI_inj _ _ h1.1, kT_inj a b h1.2]
inductive RO (c : Rc) (f : Nat → Addr) (n : Nat) (H : Hp) : PO → Addr → Prop where
  | lst {xs : List PV} {vs : List V} {a : Addr} : H a = some (.lst vs) → RVs c f n H xs vs → c.sc ≠ some a → RO c f n H (.lst xs) a
  | fz {xs : List PV} {vs : List V} {a : Addr} : Frz c H a vs → RVs c f n H xs vs → RO c f n H (.fz xs) a
  | set {xs : List Int} {S : Int → Bool} {k : Nat} {a : Addr} : H a = some (SetO c.w a S k) → (∀ j, S j = true ↔ j ∈ xs) → k = xs.length → xs.Nodup → RO c f n H (.set xs) a
  | dK {kvs : List (Int × PV)} {ws : List (Key × V)} {a : Addr} : H a = some (.dK ws) → RD kI c f n H kvs ws → NoTw ws → RO c f n H (.dK kvs) a
  | dT {kvs : List (List Int × PV)} {ws : List (List Key × V)} {a : Addr} : H a = some (.dT ws) → RD kT c f n H kvs ws → NoTw ws → RO c f n H (.dT kvs) a
  | tb {a : Addr} : a = c.tb → LamX.TabS H a c.lq → RO c f n H .tb a
  | lT {kvs : List (List Int × PV)} {ws : List (List Key × V)} {a : Addr} {o : Obj} : H a = some (.frz o (.dT ws)) → RD kT c f n H kvs ws → NoTw ws → RO c f n H (.lT kvs) a
  | lK {kvs : List (Int × PV)} {ws : List (Key × V)} {a : Addr} {o : Obj} : H a = some (.frz o (.dK ws)) → RD kI c f n H kvs ws → NoTw ws → RO c f n H (.lK kvs) a
def mutO : PO → Bool
  | .lst _ => true
  | .dK _ => true
  | .dT _ => true
  | .lT _ => true
  | .lK _ => true
  | _ => false
structure Rel (c : Rc) (f : Nat → Addr) (h : PH) (H : Hp) : Prop where
  len : h.os.length = h.n
  obj : ∀ i o, h.get i = some o → RO c f h.n H o (f i)
  inj : ∀ i j o u, h.get i = some o → h.get j = some u → mutO o = true → mutO u = true → f i = f j → i = j
  scr : ∀ a, c.sc = some a → ∃ xs, H a = some (.lst xs)
theorem get_lt {h : PH} {i : Nat} {o : PO} (e : h.get i = some o) : i < h.n := by
  unfold PH.get at e
  split at e
  · rename_i hb
    exact Nat.le_of_ble_eq_true hb
  · cases e
theorem get_at {h : PH} {i : Nat} (hi : i < h.n) : h.get i = h.os[h.n - 1 - i]? := by
  unfold PH.get
  rw [show Nat.blt i h.n = true from Nat.ble_eq_true_of_le hi]
theorem get_push {h : PH} {o : PO} (i : Nat) : (h.push o).get i = if i = h.n then some o else h.get i := by
  unfold PH.push
  by_cases e : i = h.n
  · subst e
    rw [if_pos rfl, get_at (h := ⟨h.n + 1, o :: h.os⟩) (Nat.lt_succ_self _)]
    show (o :: h.os)[h.n + 1 - 1 - h.n]? = some o
    rw [Nat.add_sub_cancel, Nat.sub_self, List.getElem?_cons_zero]
  · rw [if_neg e]
    by_cases hi : i < h.n
    · rw [get_at (h := ⟨h.n + 1, o :: h.os⟩) (Nat.lt_succ_of_lt hi), get_at hi]
      show (o :: h.os)[h.n + 1 - 1 - i]? = _
      rw [show h.n + 1 - 1 - i = (h.n - 1 - i) + 1 by omega, List.getElem?_cons_succ]
    · have h1 : ∀ g : PH, ¬ i < g.n → g.get i = none := fun g hg => by
        cases q : g.get i with
        | none => rfl
        | some u => exact absurd (get_lt q) hg
      rw [h1 h hi, h1 _ (show ¬ i < h.n + 1 by omega)]
theorem get_set {h : PH} {j : Nat} {o : PO} (len : h.os.length = h.n) (hj : j < h.n) (i : Nat) : (h.set j o).get i = if i = j then some o else h.get i := by
  unfold PH.set
  by_cases hi : i < h.n
  · rw [get_at (h := ⟨h.n, h.os.set (h.n - 1 - j) o⟩) hi, get_at hi]
    show (h.os.set (h.n - 1 - j) o)[h.n - 1 - i]? = _
    by_cases e : i = j
    · subst e
      rw [if_pos rfl, List.getElem?_set_self (by omega)]
    · rw [if_neg e, List.getElem?_set_ne (by omega)]
  · have h1 : ∀ g : PH, ¬ i < g.n → g.get i = none := fun g hg => by
      cases q : g.get i with
      | none => rfl
      | some u => exact absurd (get_lt q) hg
    rw [if_neg (show i ≠ j by omega)]
    exact (h1 ⟨h.n, h.os.set (h.n - 1 - j) o⟩ hi).trans (h1 h hi).symm

theorem RO.mono {o : PO} {a : Addr} (e : Ext f n H f' n' H') (hk : ∀ u, H a = some u → H' a = some u) : RO c f n H o a → RO c f' n' H' o a
  | .lst h r n => .lst (hk _ h) (r.mono e) n
  | .fz h r => .fz (by
    rcases h with ⟨ob, h⟩ | h | h
    · exact .inl ⟨ob, hk _ h⟩
    · exact .inr (.inl h)
    · exact .inr (.inr ⟨h.1, hk _ h.2⟩)) (r.mono e)
  | .set h a b c => .set (hk _ h) a b c
  | .dK h r t => .dK (hk _ h) (r.mono e) t
  | .dT h r t => .dT (hk _ h) (r.mono e) t
  | .lT h r t => .lT (hk _ h) (r.mono e) t
  | .lK h r t => .lK (hk _ h) (r.mono e) t
  | .tb h t => .tb h (by
    obtain ⟨ps, h1, h2, h3⟩ := t
    exact ⟨ps, hk _ h1, h2, fun pos cv hc => let ⟨cc, e1, e2⟩ := h3 pos cv hc; ⟨cc, e1, e.cod _ _ e2⟩⟩)
theorem Rel.same {h : PH} (r : Rel c f h H) (s : Same H H') : Rel c f h H' ∧ Ext f h.n H f h.n H' := by
  have e : Ext f h.n H f h.n H' := ⟨Nat.le_refl _, fun _ _ => rfl, fun a vs q => s a _ q, fun a qq q => s a _ q, fun a o qq _ q => s a _ q⟩
  exact ⟨⟨r.len, fun i o q => (r.obj i o q).mono e (fun u z => s _ _ z), r.inj, fun a q => let ⟨xs, z⟩ := r.scr a q; ⟨xs, s _ _ z⟩⟩, e⟩
theorem same_upd {p : Addr} {o : HO} (hp : H p = none) : Same H (upd H p o) := fun b u q => by
  rw [upd_ne (ne_of_none q hp)]
  exact q
def ext1 (f : Nat → Addr) (n : Nat) (p : Addr) : Nat → Addr := fun i => if i = n then p else f i
theorem ext1_at {p : Addr} : ext1 f n p n = p := by unfold ext1; rw [if_pos rfl]
theorem ext1_lt {p : Addr} {i : Nat} (h : i < n) : ext1 f n p i = f i := by unfold ext1; rw [if_neg (Nat.ne_of_lt h)]
theorem Rel.lays {h : PH} {p : Addr} {o : PO} {u : HO} (r : Rel c f h H) (hp : H p = none) (ro : RO c (ext1 f h.n p) (h.n + 1) (upd H p u) o p) :
    Rel c (ext1 f h.n p) (h.push o) (upd H p u) ∧ Ext f h.n H (ext1 f h.n p) (h.n + 1) (upd H p u) := by
  have s : Same H (upd H p u) := same_upd hp
  have e : Ext f h.n H (ext1 f h.n p) (h.n + 1) (upd H p u) := ⟨Nat.le_succ _, fun i hi => ext1_lt hi, fun a ws q => s a _ q, fun a qq q => s a _ q, fun a o qq _ q => s a _ q⟩
  refine ⟨⟨by show (o :: h.os).length = h.n + 1; rw [List.length_cons, r.len], fun i o q => ?_, fun i j us ws q1 q2 m1 m2 ef => ?_, fun a q => let ⟨xs, z⟩ := r.scr a q; ⟨xs, s _ _ z⟩⟩, e⟩
  · rw [get_push] at q
    by_cases hi : i = h.n
    · rw [if_pos hi] at q
      cases q
      subst hi
      rw [ext1_at]
      exact ro
    · rw [if_neg hi] at q
      rw [ext1_lt (get_lt q)]
      exact (r.obj i o q).mono e (fun u z => s _ _ z)
  · rw [get_push] at q1 q2
    have old : ∀ k u, h.get k = some u → mutO u = true → f k ≠ p := fun k u q m z => by
      cases r.obj k _ q with
      | lst h1 _ => rw [z, hp] at h1; cases h1
      | dK h1 _ _ => rw [z, hp] at h1; cases h1
      | dT h1 _ _ => rw [z, hp] at h1; cases h1
      | lT h1 _ _ => rw [z, hp] at h1; cases h1
      | lK h1 _ _ => rw [z, hp] at h1; cases h1
      | fz _ _ => cases m
      | set _ _ _ _ => cases m
      | tb _ _ => cases m
    by_cases hi : i = h.n <;> by_cases hj : j = h.n
    · rw [hi, hj]
    · rw [if_neg hj] at q2
      rw [hi, ext1_at, ext1_lt (get_lt q2)] at ef
      exact absurd ef.symm (old _ _ q2 m2)
    · rw [if_neg hi] at q1
      rw [hj, ext1_at, ext1_lt (get_lt q1)] at ef
      exact absurd ef (old _ _ q1 m1)
    · rw [if_neg hi] at q1
      rw [if_neg hj] at q2
      rw [ext1_lt (get_lt q1), ext1_lt (get_lt q2)] at ef
      exact r.inj _ _ _ _ q1 q2 m1 m2 ef
theorem Rel.laid {h : PH} {p : Addr} {xs : List PV} {vs : List V} (r : Rel c f h H) (hp : H p = none) (rv : RVs c f h.n H xs vs) :
    Rel c (ext1 f h.n p) (h.push (.lst xs)) (upd H p (.lst vs)) ∧ Ext f h.n H (ext1 f h.n p) (h.n + 1) (upd H p (.lst vs)) := by
  have s : Same H (upd H p (.lst vs)) := same_upd hp
  have e : Ext f h.n H (ext1 f h.n p) (h.n + 1) (upd H p (.lst vs)) := ⟨Nat.le_succ _, fun i hi => ext1_lt hi, fun a ws q => s a _ q, fun a qq q => s a _ q, fun a o qq _ q => s a _ q⟩
  exact r.lays hp (.lst upd_same (rv.mono e) (fun z => by
    obtain ⟨ys, q⟩ := r.scr _ z
    rw [hp] at q
    cases q))
theorem Rel.rewrite {h : PH} {i : Nat} {o : PO} {o' : PO} {u u' : HO} (r : Rel c f h H) (hi : h.get i = some o) (m : mutO o = true) (m' : mutO o' = true) (hu : H (f i) = some u) (nt : ∀ vs, u ≠ .tup vs) (nf : ∀ ob vs, u ≠ .frz ob (.lst vs))
    (ns : ∀ S k, u ≠ SetO c.w (f i) S k) (new : ∀ H' : Hp, H' (f i) = some u' → Ext f h.n H f h.n H' → RO c f h.n H' o' (f i)) (nb : ∀ ps, u ≠ .tbl ps := by intro _ z; cases z) (nc : ∀ b q, u ≠ LamX.CodeO b q := by intro _ _ z; unfold LamX.CodeO at z; cases z) (nz : ∀ o v, u ≠ .frz o v := by intro _ _ z; cases z) :
    Rel c f (h.set i o') (upd H (f i) u') ∧ Ext f h.n H f h.n (upd H (f i) u') := by
  have scn : c.sc ≠ some (f i) := fun z => by
    obtain ⟨ys, q⟩ := r.scr _ z
    cases r.obj i _ hi with
    | lst h1 h2 h3 => exact h3 z
    | dK h1 _ _ => rw [h1] at q; cases q
    | dT h1 _ _ => rw [h1] at q; cases q
    | lT h1 _ _ => rw [h1] at q; cases q
    | lK h1 _ _ => rw [h1] at q; cases q
    | fz _ _ => cases m
    | set _ _ _ _ => cases m
    | tb _ _ => cases m
  have e : Ext f h.n H f h.n (upd H (f i) u') := ⟨Nat.le_refl _, fun _ _ => rfl, fun a us q => by
    rw [upd_ne (ne_of q hu (fun z => nt us z.symm))]
    exact q, fun a qq q => by
    rw [upd_ne (ne_of q hu (fun z => nc _ _ z.symm))]
    exact q, fun a o qq _ q => by
    rw [upd_ne (ne_of q hu (fun z => nz _ _ z.symm))]
    exact q⟩
  refine ⟨⟨by show (h.os.set _ _).length = h.n; rw [List.length_set, r.len], fun j v q => ?_, fun j k us zs q1 q2 m1 m2 ef => ?_, fun a q => ?_⟩, e⟩
  · rw [get_set r.len (get_lt hi)] at q
    by_cases hj : j = i
    · rw [if_pos hj] at q
      cases q
      subst hj
      exact new _ upd_same e
    · rw [if_neg hj] at q
      have q' := r.obj j v q
      have ne : mutO v = true → f j ≠ f i := fun mv z => hj (r.inj _ _ _ _ q hi mv m z)
      cases q' with
      | lst h1 h2 h3 => exact .lst (by rw [upd_ne (ne rfl)]; exact h1) (h2.mono e) h3
      | dK h1 h2 h3 => exact .dK (by rw [upd_ne (ne rfl)]; exact h1) (h2.mono e) h3
      | dT h1 h2 h3 => exact .dT (by rw [upd_ne (ne rfl)]; exact h1) (h2.mono e) h3
      | lT h1 h2 h3 => exact .lT (by rw [upd_ne (ne rfl)]; exact h1) (h2.mono e) h3
      | lK h1 h2 h3 => exact .lK (by rw [upd_ne (ne rfl)]; exact h1) (h2.mono e) h3
      | fz h1 h2 =>
        refine .fz ?_ (h2.mono e)
        rcases h1 with ⟨ob, h1⟩ | h1 | h1
        · exact .inl ⟨ob, by rw [upd_ne (ne_of h1 hu (fun z => nf _ _ z.symm))]; exact h1⟩
        · exact .inr (.inl h1)
        · exact .inr (.inr ⟨h1.1, by rw [upd_ne (fun z => scn (by rw [← z]; exact h1.1))]; exact h1.2⟩)
      | tb h1 h2 =>
        obtain ⟨ps, g1, g2, g3⟩ := h2
        exact .tb h1 ⟨ps, by rw [upd_ne (ne_of g1 hu (fun z => nb _ z.symm))]; exact g1, g2, fun pos cv hc => let ⟨cc, e1, e2⟩ := g3 pos cv hc; ⟨cc, e1, e.cod _ _ e2⟩⟩
      | set h1 h2 h3 h4 =>
        refine .set ?_ h2 h3 h4
        by_cases hz : f j = f i
        · rw [hz, hu] at h1
          exact absurd (Option.some.inj h1) (ns _ _)
        · rw [upd_ne hz]; exact h1
  · rw [get_set r.len (get_lt hi)] at q1 q2
    have back : ∀ k w, (if k = i then some o' else h.get k) = some w → mutO w = true → ∃ us, h.get k = some us ∧ mutO us = true := fun k w q mw => by
      by_cases hk : k = i
      · exact ⟨o, by rw [hk]; exact hi, m⟩
      · rw [if_neg hk] at q
        exact ⟨_, q, mw⟩
    obtain ⟨_, z1, y1⟩ := back _ _ q1 m1
    obtain ⟨_, z2, y2⟩ := back _ _ q2 m2
    exact r.inj _ _ _ _ z1 z2 y1 y2 ef
  · obtain ⟨xs, z⟩ := r.scr a q
    exact ⟨xs, by rw [upd_ne (fun w => scn (by rw [← w]; exact q))]; exact z⟩
theorem Rel.write {h : PH} {i : Nat} {xs ys : List PV} {vs : List V} (r : Rel c f h H) (hi : h.get i = some (.lst xs)) (rv : RVs c f h.n H ys vs) :
    Rel c f (h.set i (.lst ys)) (upd H (f i) (.lst vs)) ∧ Ext f h.n H f h.n (upd H (f i) (.lst vs)) := by
  obtain ⟨ws, hw, hn⟩ : ∃ ws, H (f i) = some (.lst ws) ∧ c.sc ≠ some (f i) := by
    cases r.obj i _ hi with
    | lst h1 _ h3 => exact ⟨_, h1, h3⟩
  exact r.rewrite hi rfl rfl hw (fun vs z => by cases z) (fun ob vs z => by cases z) (fun S k z => by cases z) fun H' e x => .lst e (rv.mono x) hn
theorem Rel.writeK {h : PH} {i : Nat} {kvs kvs' : List (Int × PV)} {ws : List (Key × V)} (r : Rel c f h H) (hi : h.get i = some (.dK kvs)) (rv : RD kI c f h.n H kvs' ws) (nt : NoTw ws) :
    Rel c f (h.set i (.dK kvs')) (upd H (f i) (.dK ws)) ∧ Ext f h.n H f h.n (upd H (f i) (.dK ws)) := by
  obtain ⟨ws, hw⟩ : ∃ ws, H (f i) = some (.dK ws) := by
    cases r.obj i _ hi with
    | dK h1 _ _ => exact ⟨_, h1⟩
  exact r.rewrite hi rfl rfl hw (fun vs z => by cases z) (fun ob vs z => by cases z) (fun S k z => by cases z) fun H' e x => .dK e (rv.mono x) nt
theorem Rel.writeT {h : PH} {i : Nat} {kvs kvs' : List (List Int × PV)} {ws : List (List Key × V)} (r : Rel c f h H) (hi : h.get i = some (.dT kvs)) (rv : RD kT c f h.n H kvs' ws) (nt : NoTw ws) :
    Rel c f (h.set i (.dT kvs')) (upd H (f i) (.dT ws)) ∧ Ext f h.n H f h.n (upd H (f i) (.dT ws)) := by
  obtain ⟨ws, hw⟩ : ∃ ws, H (f i) = some (.dT ws) := by
    cases r.obj i _ hi with
    | dT h1 _ _ => exact ⟨_, h1⟩
  exact r.rewrite hi rfl rfl hw (fun vs z => by cases z) (fun ob vs z => by cases z) (fun S k z => by cases z) fun H' e x => .dT e (rv.mono x) nt

mutual
theorem RV.tmap (e : ∀ a vs, H a = some (.tup vs) → H' a = some (.tup vs)) {x : PV} {v : V} : RV c f n H x v → RV c f n H' x v
  | .non => .non
  | .bl b => .bl b
  | .int i => .int i
  | .str s => .str s
  | .tup h r => .tup (e _ _ h) (RVs.tmap e r)
  | .ref h => .ref h
  | .fn k => .fn k
theorem RVs.tmap (e : ∀ a vs, H a = some (.tup vs) → H' a = some (.tup vs)) {xs : List PV} {vs : List V} : RVs c f n H xs vs → RVs c f n H' xs vs
  | .nil => .nil
  | .cons h r => .cons (RV.tmap e h) (RVs.tmap e r)
end
theorem RD.tmap {κ κ' : Type} {ek : κ → κ'} (e : ∀ a vs, H a = some (.tup vs) → H' a = some (.tup vs)) : ∀ {r : List (κ × PV)} {s : List (κ' × V)}, RD ek c f n H r s → RD ek c f n H' r s
  | _, _, .nil => .nil
  | _, _, .cons h t => .cons (h.tmap e) (RD.tmap e t)
theorem Rel.lock {h : PH} {i : Nat} {kvs : List (List Int × PV)} (r : Rel c f h H) (hi : h.get i = some (.dT kvs)) :
    ∃ ws, H (f i) = some (.dT ws) ∧ ∀ od, Rel c f (h.set i (.lT kvs)) (upd H (f i) (.frz od (.dT ws))) ∧ Ext f h.n H f h.n (upd H (f i) (.frz od (.dT ws))) := by
  obtain ⟨ws, hw, rd, nt⟩ : ∃ ws, H (f i) = some (.dT ws) ∧ RD kT c f h.n H kvs ws ∧ NoTw ws := by
    cases r.obj i _ hi with
    | dT h1 h2 h3 => exact ⟨_, h1, h2, h3⟩
  exact ⟨ws, hw, fun od => r.rewrite hi rfl rfl hw (fun vs z => by cases z) (fun ob vs z => by cases z) (fun S k z => by cases z) fun H' e x => .lT e (rd.mono x) nt⟩
theorem Rel.unlock {h : PH} {i : Nat} {kvs : List (List Int × PV)} {od : Obj} {ws : List (List Key × V)} (r : Rel c f h H) (hi : h.get i = some (.lT kvs)) (hu : H (f i) = some (.frz od (.dT ws))) :
    Rel c f (h.set i (.dT kvs)) (upd H (f i) (.dT ws)) := by
  have tm : ∀ a vs, H a = some (.tup vs) → upd H (f i) (.dT ws) a = some (.tup vs) := fun a vs q => by
    rw [upd_ne (ne_of q hu (fun z => by cases z))]
    exact q
  obtain ⟨rd, nt⟩ : RD kT c f h.n H kvs ws ∧ NoTw ws := by
    cases r.obj i _ hi with
    | lT h1 h2 h3 =>
      rw [hu] at h1
      cases h1
      exact ⟨h2, h3⟩
  have scn : c.sc ≠ some (f i) := fun z => by
    obtain ⟨ys, q⟩ := r.scr _ z
    rw [hu] at q
    cases q
  refine ⟨by show (h.os.set _ _).length = h.n; rw [List.length_set, r.len], fun j v q => ?_, fun j k us zs q1 q2 m1 m2 ef => ?_, fun a q => ?_⟩
  · rw [get_set r.len (get_lt hi)] at q
    by_cases hj : j = i
    · rw [if_pos hj] at q
      cases q
      subst hj
      exact .dT upd_same (rd.tmap tm) nt
    · rw [if_neg hj] at q
      have q' := r.obj j v q
      have ne : mutO v = true → f j ≠ f i := fun mv z => hj (r.inj _ _ _ _ q hi mv rfl z)
      cases q' with
      | lst h1 h2 h3 => exact .lst (by rw [upd_ne (ne rfl)]; exact h1) (h2.tmap tm) h3
      | dK h1 h2 h3 => exact .dK (by rw [upd_ne (ne rfl)]; exact h1) (h2.tmap tm) h3
      | dT h1 h2 h3 => exact .dT (by rw [upd_ne (ne rfl)]; exact h1) (h2.tmap tm) h3
      | lT h1 h2 h3 => exact .lT (by rw [upd_ne (ne rfl)]; exact h1) (h2.tmap tm) h3
      | lK h1 h2 h3 => exact .lK (by rw [upd_ne (ne rfl)]; exact h1) (h2.tmap tm) h3
      | fz h1 h2 =>
        refine .fz ?_ (h2.tmap tm)
        rcases h1 with ⟨ob, h1⟩ | h1 | h1
        · exact .inl ⟨ob, by rw [upd_ne (ne_of h1 hu (fun z => by cases z))]; exact h1⟩
        · exact .inr (.inl h1)
        · exact .inr (.inr ⟨h1.1, by rw [upd_ne (fun z => scn (by rw [← z]; exact h1.1))]; exact h1.2⟩)
      | tb h1 h2 =>
        obtain ⟨ps, g1, g2, g3⟩ := h2
        exact .tb h1 ⟨ps, by rw [upd_ne (ne_of g1 hu (fun z => by cases z))]; exact g1, g2, fun pos cv hc => let ⟨cc, e1, e2⟩ := g3 pos cv hc; ⟨cc, e1, by rw [upd_ne (ne_of e2 hu (fun z => by unfold LamX.CodeO at z; cases z))]; exact e2⟩⟩
      | set h1 h2 h3 h4 =>
        refine .set ?_ h2 h3 h4
        rw [upd_ne (ne_of h1 hu (fun z => by unfold SetO at z; cases z))]
        exact h1
  · rw [get_set r.len (get_lt hi)] at q1 q2
    have back : ∀ k w, (if k = i then some (PO.dT kvs) else h.get k) = some w → mutO w = true → ∃ us, h.get k = some us ∧ mutO us = true := fun k w q mw => by
      by_cases hk : k = i
      · exact ⟨_, by rw [hk]; exact hi, rfl⟩
      · rw [if_neg hk] at q
        exact ⟨_, q, mw⟩
    obtain ⟨_, z1, y1⟩ := back _ _ q1 m1
    obtain ⟨_, z2, y2⟩ := back _ _ q2 m2
    exact r.inj _ _ _ _ z1 z2 y1 y2 ef
  · obtain ⟨xs, z⟩ := r.scr a q
    exact ⟨xs, by rw [upd_ne (fun w => scn (by rw [← w]; exact q))]; exact z⟩
theorem Rel.lockK {h : PH} {i : Nat} {kvs : List (Int × PV)} (r : Rel c f h H) (hi : h.get i = some (.dK kvs)) :
    ∃ ws, H (f i) = some (.dK ws) ∧ ∀ od, Rel c f (h.set i (.lK kvs)) (upd H (f i) (.frz od (.dK ws))) ∧ Ext f h.n H f h.n (upd H (f i) (.frz od (.dK ws))) := by
  obtain ⟨ws, hw, rd, nt⟩ : ∃ ws, H (f i) = some (.dK ws) ∧ RD kI c f h.n H kvs ws ∧ NoTw ws := by
    cases r.obj i _ hi with
    | dK h1 h2 h3 => exact ⟨_, h1, h2, h3⟩
  exact ⟨ws, hw, fun od => r.rewrite hi rfl rfl hw (fun vs z => by cases z) (fun ob vs z => by cases z) (fun S k z => by cases z) fun H' e x => .lK e (rd.mono x) nt⟩
theorem Rel.unlockK {h : PH} {i : Nat} {kvs : List (Int × PV)} {od : Obj} {ws : List (Key × V)} (r : Rel c f h H) (hi : h.get i = some (.lK kvs)) (hu : H (f i) = some (.frz od (.dK ws))) :
    Rel c f (h.set i (.dK kvs)) (upd H (f i) (.dK ws)) := by
  have tm : ∀ a vs, H a = some (.tup vs) → upd H (f i) (.dK ws) a = some (.tup vs) := fun a vs q => by
    rw [upd_ne (ne_of q hu (fun z => by cases z))]
    exact q
  obtain ⟨rd, nt⟩ : RD kI c f h.n H kvs ws ∧ NoTw ws := by
    cases r.obj i _ hi with
    | lK h1 h2 h3 =>
      rw [hu] at h1
      cases h1
      exact ⟨h2, h3⟩
  have scn : c.sc ≠ some (f i) := fun z => by
    obtain ⟨ys, q⟩ := r.scr _ z
    rw [hu] at q
    cases q
  refine ⟨by show (h.os.set _ _).length = h.n; rw [List.length_set, r.len], fun j v q => ?_, fun j k us zs q1 q2 m1 m2 ef => ?_, fun a q => ?_⟩
  · rw [get_set r.len (get_lt hi)] at q
    by_cases hj : j = i
    · rw [if_pos hj] at q
      cases q
      subst hj
      exact .dK upd_same (rd.tmap tm) nt
    · rw [if_neg hj] at q
      have q' := r.obj j v q
      have ne : mutO v = true → f j ≠ f i := fun mv z => hj (r.inj _ _ _ _ q hi mv rfl z)
      cases q' with
      | lst h1 h2 h3 => exact .lst (by rw [upd_ne (ne rfl)]; exact h1) (h2.tmap tm) h3
      | dK h1 h2 h3 => exact .dK (by rw [upd_ne (ne rfl)]; exact h1) (h2.tmap tm) h3
      | dT h1 h2 h3 => exact .dT (by rw [upd_ne (ne rfl)]; exact h1) (h2.tmap tm) h3
      | lT h1 h2 h3 => exact .lT (by rw [upd_ne (ne rfl)]; exact h1) (h2.tmap tm) h3
      | lK h1 h2 h3 => exact .lK (by rw [upd_ne (ne rfl)]; exact h1) (h2.tmap tm) h3
      | fz h1 h2 =>
        refine .fz ?_ (h2.tmap tm)
        rcases h1 with ⟨ob, h1⟩ | h1 | h1
        · exact .inl ⟨ob, by rw [upd_ne (ne_of h1 hu (fun z => by cases z))]; exact h1⟩
        · exact .inr (.inl h1)
        · exact .inr (.inr ⟨h1.1, by rw [upd_ne (fun z => scn (by rw [← z]; exact h1.1))]; exact h1.2⟩)
      | tb h1 h2 =>
        obtain ⟨ps, g1, g2, g3⟩ := h2
        exact .tb h1 ⟨ps, by rw [upd_ne (ne_of g1 hu (fun z => by cases z))]; exact g1, g2, fun pos cv hc => let ⟨cc, e1, e2⟩ := g3 pos cv hc; ⟨cc, e1, by rw [upd_ne (ne_of e2 hu (fun z => by unfold LamX.CodeO at z; cases z))]; exact e2⟩⟩
      | set h1 h2 h3 h4 =>
        refine .set ?_ h2 h3 h4
        rw [upd_ne (ne_of h1 hu (fun z => by unfold SetO at z; cases z))]
        exact h1
  · rw [get_set r.len (get_lt hi)] at q1 q2
    have back : ∀ k w, (if k = i then some (PO.dK kvs) else h.get k) = some w → mutO w = true → ∃ us, h.get k = some us ∧ mutO us = true := fun k w q mw => by
      by_cases hk : k = i
      · exact ⟨_, by rw [hk]; exact hi, rfl⟩
      · rw [if_neg hk] at q
        exact ⟨_, q, mw⟩
    obtain ⟨_, z1, y1⟩ := back _ _ q1 m1
    obtain ⟨_, z2, y2⟩ := back _ _ q2 m2
    exact r.inj _ _ _ _ z1 z2 y1 y2 ef
  · obtain ⟨xs, z⟩ := r.scr a q
    exact ⟨xs, by rw [upd_ne (fun w => scn (by rw [← w]; exact q))]; exact z⟩
def Post {α : Type} (c : Rc) (f : Nat → Addr) (n : Nat) (H : Hp) (r : R α) (Q : (Nat → Addr) → PH → Hp → α → Prop) : Prop := match r with
  | .ok a h' => ∀ f' H', Ext f n H f' h'.n H' → Rel c f' h' H' → Q f' h' H' a
  | .stuck => False
def VQ (c : Rc) (Q : VK) : (Nat → Addr) → PH → Hp → PV → Prop := fun f h H x => ∀ v, RV c f h.n H x v → Q v H
theorem Post.mono {α : Type} {r : R α} {Q : (Nat → Addr) → PH → Hp → α → Prop} (e : Ext f n H f1 n1 H1) (p : Post c f n H r Q) : Post c f1 n1 H1 r Q := by
  cases r with
  | ok a h => exact fun f' H' e' R' => p f' H' (e.trans e') R'
  | stuck => exact p
theorem Post.imp {α : Type} {r : R α} {Q Q' : (Nat → Addr) → PH → Hp → α → Prop} (p : Post c f n H r Q) (k : ∀ f' h' H' a, Q f' h' H' a → Q' f' h' H' a) : Post c f n H r Q' := by
  cases r with
  | ok a h => exact fun f' H' e' R' => k _ _ _ _ (p f' H' e' R')
  | stuck => exact p
def RSt (c : Rc) (f : Nat → Addr) (n : Nat) (H : Hp) (st : PSt) (σ : L2.St) : Prop := st.length = σ.length ∧ ∀ (i : Nat) (x : PV), st[i]? = some (some x) → ∃ v, σ[i]? = some (some v) ∧ RV c f n H x v
theorem RSt.mono {st : PSt} {σ : L2.St} (e : Ext f n H f' n' H') (r : RSt c f n H st σ) : RSt c f' n' H' st σ :=
  ⟨r.1, fun i x q => let ⟨v, h1, h2⟩ := r.2 i x q; ⟨v, h1, h2.mono e⟩⟩
theorem RSt.set {st : PSt} {σ : L2.St} (r : RSt c f n H st σ) (i : Nat) {x : PV} {v : V} (rv : RV c f n H x v) : RSt c f n H (st.set i (some x)) (σ.set i (some v)) := by
  refine ⟨by rw [List.length_set, List.length_set]; exact r.1, fun j y q => ?_⟩
  by_cases hj : i = j
  · subst hj
    by_cases hi : i < st.length
    · rw [List.getElem?_set_self hi] at q
      cases q
      exact ⟨v, List.getElem?_set_self (by rw [← r.1]; exact hi), rv⟩
    · rw [List.getElem?_eq_none (by rw [List.length_set]; omega)] at q
      cases q
  · rw [List.getElem?_set_ne hj] at q
    rw [List.getElem?_set_ne hj]
    exact r.2 j y q
theorem RSt.wipe {st : PSt} {σ : L2.St} (r : RSt c f n H st σ) : ∀ vs : List Nat, RSt c f n H (wipeP st vs) (wipe σ vs)
  | [] => r
  | i :: vs => by
    have t := r.wipe vs
    unfold wipeP L2.wipe
    refine ⟨by rw [List.length_set, List.length_set]; exact t.1, fun j y q => ?_⟩
    by_cases hj : i = j
    · subst hj
      by_cases hi : i < (wipeP st vs).length
      · rw [List.getElem?_set_self hi] at q
        cases q
      · rw [List.getElem?_eq_none (by rw [List.length_set]; omega)] at q
        cases q
    · rw [List.getElem?_set_ne hj] at q
      rw [List.getElem?_set_ne hj]
      exact t.2 j y q
def tE (c : Rc) (ev : PSt → PH → R PV) : TE := fun σ H Q => ∃ f h st, Rel c f h H ∧ RSt c f h.n H st σ ∧ Post c f h.n H (ev st h) (VQ c Q)
def tB' (c : Rc) (ev : PSt → PH → R Bool) : TT := fun σ H Q => ∃ f h st, Rel c f h H ∧ RSt c f h.n H st σ ∧ Post c f h.n H (ev st h) (fun _ _ H' b => Q b H')
def tA (c : Rc) (ev : PSt → PH → R (List PV)) : TA := fun σ H Q => ∃ f h st, Rel c f h H ∧ RSt c f h.n H st σ ∧ Post c f h.n H (ev st h) (fun f' h' H' xs => ∀ vs, RVs c f' h'.n H' xs vs → Q vs H')
variable {σ : L2.St} {st : PSt} {h h1 : PH}
theorem tE_of {ev : PSt → PH → R PV} {x : PV} {Q : VK} (hr : ev st h = .ok x h1) (r : Rel c f h H) (s : RSt c f h.n H st σ)
    (k : ∀ f1 H1 v, Ext f h.n H f1 h1.n H1 → Rel c f1 h1 H1 → RSt c f1 h1.n H1 st σ → RV c f1 h1.n H1 x v → Q v H1) : tE c ev σ H Q :=
  ⟨f, h, st, r, s, by rw [hr]; exact fun f1 H1 e1 R1 v rv => k f1 H1 v e1 R1 (s.mono e1) rv⟩
theorem tB_of {ev : PSt → PH → R Bool} {x : Bool} {Q : Bool → Hp → Prop} (hr : ev st h = .ok x h1) (r : Rel c f h H) (s : RSt c f h.n H st σ)
    (k : ∀ f1 H1, Ext f h.n H f1 h1.n H1 → Rel c f1 h1 H1 → RSt c f1 h1.n H1 st σ → Q x H1) : tB' c ev σ H Q :=
  ⟨f, h, st, r, s, by rw [hr]; exact fun f1 H1 e1 R1 => k f1 H1 e1 R1 (s.mono e1)⟩
theorem tA_of {ev : PSt → PH → R (List PV)} {xs : List PV} {Q : List V → Hp → Prop} (hr : ev st h = .ok xs h1) (r : Rel c f h H) (s : RSt c f h.n H st σ)
    (k : ∀ f1 H1 vs, Ext f h.n H f1 h1.n H1 → Rel c f1 h1 H1 → RSt c f1 h1.n H1 st σ → RVs c f1 h1.n H1 xs vs → Q vs H1) : tA c ev σ H Q :=
  ⟨f, h, st, r, s, by rw [hr]; exact fun f1 H1 e1 R1 v rv => k f1 H1 v e1 R1 (s.mono e1) rv⟩
end
section
variable {c : Rc} {f : Nat → Addr} {h : PH} {H : Hp}
theorem seqL_at {x : PV} {v : V} {xs : List PV} (r : Rel c f h H) (rv : RV c f h.n H x v) (e : seqL x h = some xs) : ∃ a vs, v = .ref a ∧ SqL c.K H a vs ∧ RVs c f h.n H xs vs := by
  unfold seqL at e
  split at e
  · rename_i i
    cases rv with
    | ref hi =>
      split at e
      · rename_i ys q
        cases e
        cases r.obj i _ q with
        | lst h1 h2 => exact ⟨_, _, rfl, SqL.of h1, h2⟩
      · rename_i ys q
        cases e
        cases r.obj i _ q with
        | fz h1 h2 => exact ⟨_, _, rfl, h1.seq, h2⟩
      · cases e
  · cases e
theorem seqOf_at {x : PV} {v : V} {xs : List PV} (r : Rel c f h H) (rv : RV c f h.n H x v) (e : seqOf x h = some xs) : ∃ a vs, v = .ref a ∧ (SqL c.K H a vs ∨ SqT c.K H a vs) ∧ RVs c f h.n H xs vs := by
  cases x with
  | tup ys =>
    cases e
    cases rv with
    | tup h1 h2 => exact ⟨_, _, rfl, .inr (SqT.of h1), h2⟩
  | ref i =>
    obtain ⟨a, vs, h1, h2, h3⟩ := seqL_at (x := .ref i) r rv e
    exact ⟨a, vs, h1, .inl h2, h3⟩
  | _ => cases e
theorem seqOf_at2 {x : PV} {v : V} {xs : List PV} (r : Rel c f h H) (rv : RV c f h.n H x v) (e : seqOf x h = some xs) : ∃ a vs, v = .ref a ∧ (SqL c.K H a vs ∨ (x = .tup xs ∧ H a = some (.tup vs))) ∧ RVs c f h.n H xs vs := by
  cases x with
  | tup ys =>
    cases e
    cases rv with
    | tup h1 h2 => exact ⟨_, _, rfl, .inr ⟨rfl, h1⟩, h2⟩
  | ref i =>
    obtain ⟨a, vs, h1, h2, h3⟩ := seqL_at (x := .ref i) r rv e
    exact ⟨a, vs, h1, .inl h2, h3⟩
  | _ => cases e
theorem lstAt_at {x : PV} {v : V} {i : Nat} {xs : List PV} (r : Rel c f h H) (rv : RV c f h.n H x v) (e : lstAt x h = some (i, xs)) : ∃ vs, v = .ref (f i) ∧ h.get i = some (.lst xs) ∧ H (f i) = some (.lst vs) ∧ RVs c f h.n H xs vs := by
  unfold lstAt at e
  split at e
  · rename_i j
    cases rv with
    | ref hi =>
      split at e
      · rename_i ys q
        cases e
        cases r.obj _ _ q with
        | lst h1 h2 => exact ⟨_, rfl, q, h1, h2⟩
      · cases e
  · cases e
theorem intsP_vals : ∀ {xs : List PV} {vs : List V} {is : List Int}, RVs c f h.n H xs vs → intsP xs = some is → vs = is.map V.int ∧ xs = is.map PV.int
  | [], [], is, .nil, e => by cases e; exact ⟨rfl, rfl⟩
  | x :: xs, v :: vs, is, .cons r t, e => by
    cases x with
    | int i =>
      cases r
      unfold intsP at e
      cases q : intsP xs with
      | none => rw [q] at e; cases e
      | some js =>
        rw [q] at e
        cases e
        obtain ⟨e1, e2⟩ := intsP_vals t q
        exact ⟨by rw [e1]; rfl, by rw [e2]; rfl⟩
    | _ => cases e
theorem rvs_ints {n : Nat} : ∀ is : List Int, RVs c f n H (is.map PV.int) (is.map V.int)
  | [] => .nil
  | i :: is => .cons (.int i) (rvs_ints is)
theorem small_le {α : Type} {xs : List α} (e : small xs = true) : xs.length ≤ 100000 := Nat.le_of_ble_eq_true e
theorem line_big : 100000 < sizeLine := by rw [sizeLine_eq]; decide
theorem small_size {α : Type} {xs : List α} (e : small xs = true) : xs.length < sizeLine := Nat.lt_of_le_of_lt (small_le e) line_big
theorem okL_at {xs : List PV} {vs : List V} {Q : VK} (r : Rel c f h H) (rv : RVs c f h.n H xs vs) (p : Post c f h.n H (okL xs h) (VQ c Q)) : vs.length < sizeLine ∧ ∀ a, H a = none → Q (.ref a) (upd H a (.lst vs)) := by
  unfold okL at p
  split at p
  · rename_i e
    refine ⟨by rw [← rv.length]; exact small_size e, fun a ha => ?_⟩
    obtain ⟨r1, e1⟩ := r.laid ha rv
    have q := p _ _ e1 r1 (.ref a)
    refine q ?_
    have z := RV.ref (c := c) (f := ext1 f h.n a) (n := h.n + 1) (H := upd H a (.lst vs)) (Nat.lt_succ_self h.n)
    rw [ext1_at] at z
    exact z
  · exact p.elim
theorem okT_at {xs : List PV} {vs : List V} {Q : VK} (r : Rel c f h H) (rv : RVs c f h.n H xs vs) (p : Post c f h.n H (okT xs h) (VQ c Q)) : vs.length < sizeLine ∧ (∀ a, H a = none → Q (.ref a) (upd H a (.tup vs))) ∧ ∀ a, H a = some (.tup vs) → Q (.ref a) H := by
  unfold okT at p
  split at p
  · rename_i e
    refine ⟨by rw [← rv.length]; exact small_size e, fun a ha => ?_, fun a ha => ?_⟩
    · obtain ⟨r1, e1⟩ := r.same (same_upd (o := .tup vs) ha)
      exact p _ _ e1 r1 (.ref a) (.tup upd_same (rv.mono e1))
    · exact p _ _ .refl r (.ref a) (.tup ha rv)
  · exact p.elim
end
end Pyx

namespace Pyx
open PySem PySem.Spec PyProof.Rows L2
def opB : Bop → Operator
  | .add => .Add
  | .sub => .Sub
  | .mul => .Mult
  | .fdiv => .FloorDiv
  | .mod => .Mod
  | .pow => .Pow
def opC : Cop → CmpOp
  | .eq => .Eq
  | .ne => .NotEq
  | .lt => .Lt
  | .le => .LtE
  | .gt => .Gt
  | .ge => .GtE
  | .is => .Is
  | .nis => .IsNot
theorem tuple_mul1 (l : Addr) (items : Array Value) (n : Nat) (dd : Option Addr) (sl : Array (Option Value)) (u : Tok) :
    Meets (Builtin.«tuple.__mul__» ⟨[.ref l, .int 1 u], []⟩) (fun _ R s => s.heap.get? l = some { cls := .type "tuple", dict := dd, data := .seq items n, slots := sl } ∧ R (.ok (.ret (Value.ref l))) s) :=
  .of_wp fun prog w A R s h => by
    obtain ⟨hp, g, d, tk, os⟩ := s
    obtain ⟨hl, h⟩ := h
    have f1 := AutoSeq1.idx_int
    wp_walk using wpAny_loadPart' hl
    repeat (first
      | (refine wpAny_ite_false (by decide) ?_; wp_walk using wpAny_loadPart' hl)
      | (refine wpAny_ite_true (by simp) ?_; wp_walk using wpAny_loadPart' hl))
    exact ⟨_, rfl, h⟩
def rRep1 (K : PySem.W.Frag) : R2 := fun x y H Q => ∃ l xs, x = .ref l ∧ y = .int 1 ∧ SqT K H l xs ∧ Q (.ref l) H
theorem op_rep1 {X : Cx} : OpR X (binaryOp .Mult) (rRep1 X.K) := by
  intro pins s σ H x y v u Q I rx ry h
  obtain ⟨l, xs, rfl, rfl, hT, q⟩ := h
  cases rx
  obtain ⟨t, rfl⟩ := ry
  obtain ⟨its, r, ⟨⟨cls, dd, data, sl⟩, ho, hc, n, hd⟩, hs⟩ := I.tuple hT
  simp only at hc hd
  subst hc hd
  refine wpAny_binaryOp_repeat_ref (T := "tuple") (U := "int") (by decide) ⟨_, ho, rfl⟩ (fun s' => typeIs_int s' 1 t) noFill_tuple_mul F.fills_int_mul F.slot_int_rmul repeat_tuple F.slot_int_index.lookup
    (call_meets F.slot_int_rmul (typeIs_int s 1 t) F.entry_int_rmul (F.args_int_rmul_2 _ _) (int_rmul_tuple 1 t l its.toArray n dd sl)
      ⟨ho, rfl, ⟨_, ho, rfl⟩, call_meets F.slot_tuple_mul ⟨_, ho, rfl⟩ F.entry_tuple_mul (F.args_tuple_mul_2 _ _) (tuple_mul1 l its.toArray n dd sl t) ⟨ho, ?_⟩⟩)
  exact ⟨.ref l, H, I, rfl, q⟩
def rBin (c : Rc) (op : Bop) : R2 := fun x y H Q => ∃ f h pv pw, Rel c f h H ∧ RV c f h.n H pv x ∧ RV c f h.n H pw y ∧ Post c f h.n H (binP op pv pw h) (VQ c Q)
def rCmp (c : Rc) (op : Cop) : R2 := fun x y H Q => ∃ f h pv pw k, Rel c f h H ∧ RV c f h.n H pv x ∧ RV c f h.n H pw y ∧ cmpP op pv pw h = some k ∧ Q (.bl k) H
def rInP (c : Rc) (ng : Bool) : R2 := fun x y H Q => ∃ f h pv pw k, Rel c f h H ∧ RV c f h.n H pv x ∧ RV c f h.n H pw y ∧ inP pv pw h = some k ∧ Q (.bl (if ng then !k else k)) H
def rBi (c : Rc) (b : Bi) : List V → Hp → VK → Prop := fun vs H Q => ∃ f h ps, Rel c f h H ∧ RVs c f h.n H ps vs ∧ Post c f h.n H (biP b ps h) (VQ c Q)
def rIxP (c : Rc) : R2 := fun x y H Q => ∃ f h pv pw pu, Rel c f h H ∧ RV c f h.n H pv x ∧ RV c f h.n H pw y ∧ ixP pv pw h = some pu ∧ ∀ v, RV c f h.n H pu v → Q v H
def rSlP (c : Rc) : V → Option Int → Option Int → Hp → VK → Prop := fun x lo hi H Q => ∃ f h pv, Rel c f h H ∧ RV c f h.n H pv x ∧ Post c f h.n H (slP pv lo hi h) (VQ c Q)
def rSetP (c : Rc) : TSet := fun o i v H Q => ∃ f h po pi pv h', Rel c f h H ∧ RV c f h.n H po o ∧ RV c f h.n H pi i ∧ RV c f h.n H pv v ∧ setP po pi pv h = some h' ∧ (∀ H', Rel c f h' H' → Ext f h.n H f h'.n H' → Q H')
def rMt (c : Rc) (m : Mt) : V → List V → Hp → VK → Prop := fun x vs H Q => ∃ f h pv ps, Rel c f h H ∧ RV c f h.n H pv x ∧ RVs c f h.n H ps vs ∧ Post c f h.n H (mtP m pv ps h) (VQ c Q)
theorem two64 : (2 : Int) ^ 64 = 18446744073709551616 := by decide
theorem wide_is {i : Int} (h : wide i = true) : -(2 ^ 64) < i ∧ i < 2 ^ 64 := by
  unfold wide at h
  rw [Bool.and_eq_true] at h
  rw [two64]
  exact ⟨of_decide_eq_true h.1, of_decide_eq_true h.2⟩
section
variable {X : Cx} {c : Rc}
theorem op_bin (hK : X.K = c.K) (op : Bop) : OpR X (binaryOp (opB op)) (rBin c op) := by
  intro pins s σ H x y v u Q I rx ry ⟨f, h, pv, pw, r, r1, r2, p⟩
  unfold binP at p
  split at p
  · cases r1; cases r2
    exact op_add pins s σ H _ _ v u Q I rx ry ⟨_, _, rfl, rfl, p _ _ .refl r _ (.int _)⟩
  · cases r1; cases r2
    exact op_sub pins s σ H _ _ v u Q I rx ry ⟨_, _, rfl, rfl, p _ _ .refl r _ (.int _)⟩
  · cases r1; cases r2
    split at p
    · rename_i e
      rw [Bool.or_eq_true, Bool.or_eq_true] at e
      rcases e with (e | e) | e
      · exact op_mul pins s σ H _ _ v u Q I rx ry ⟨_, _, rfl, rfl, .inl (wide_is e), p _ _ .refl r _ (.int _)⟩
      · exact op_mul pins s σ H _ _ v u Q I rx ry ⟨_, _, rfl, rfl, .inr (wide_is e), p _ _ .refl r _ (.int _)⟩
      · exact op_mulW pins s σ H _ _ v u Q I rx ry ⟨_, _, rfl, rfl, Nat.le_of_ble_eq_true e, p _ _ .refl r _ (.int _)⟩
    · exact p.elim
  · cases r1; cases r2
    split at p
    · rename_i e
      rw [Bool.and_eq_true, Bool.or_eq_true] at e
      rcases e.2 with e2 | e2
      · exact op_fdiv pins s σ H _ _ v u Q I rx ry ⟨_, _, rfl, rfl, ⟨of_decide_eq_true e.1, of_decide_eq_true e2⟩, p _ _ .refl r _ (.int _)⟩
      · exact op_fdivW pins s σ H _ _ v u Q I rx ry ⟨_, _, rfl, rfl, ⟨of_decide_eq_true e.1, Nat.le_of_ble_eq_true e2⟩, p _ _ .refl r _ (.int _)⟩
    · exact p.elim
  · cases r1; cases r2
    split at p
    · rename_i e
      exact op_mod pins s σ H _ _ v u Q I rx ry ⟨_, _, rfl, rfl, of_decide_eq_true e, p _ _ .refl r _ (.int _)⟩
    · exact p.elim
  · cases r1; cases r2
    split at p
    · rename_i e
      simp only [Bool.and_eq_true, decide_eq_true_eq] at e
      exact op_pow pins s σ H _ _ v u Q I rx ry ⟨_, _, rfl, rfl, ⟨e.1.1, e.1.2, Nat.lt_of_lt_of_le (Nat.le_of_ble_eq_true e.2) (by decide)⟩, p _ _ .refl r _ (.int _)⟩
    · exact p.elim
  · cases r1 with
    | tup a1 a2 =>
      cases r2 with
      | tup b1 b2 =>
        obtain ⟨z, k1, k2⟩ := okT_at r (a2.app b2) p
        rw [List.length_append] at z
        refine op_catA pins s σ H _ _ v u Q I rx ry ⟨_, _, _, _, rfl, rfl, SqT.of a1, SqT.of b1, Nat.le_of_lt z, fun e => ?_, fun _ e => ?_, fun _ _ q hq => k1 q hq⟩
        · subst e; exact k2 _ b1
        · subst e; rw [List.append_nil] at k2; exact k2 _ a1
  · split at p
    · rename_i e1 e2
      obtain ⟨vs, rfl, _, h1, rv1⟩ := lstAt_at r r1 e1
      obtain ⟨ws, rfl, _, h2, rv2⟩ := lstAt_at r r2 e2
      obtain ⟨z, k⟩ := okL_at r (rv1.app rv2) p
      rw [List.length_append] at z
      exact op_cat pins s σ H _ _ v u Q I rx ry ⟨_, _, _, _, rfl, rfl, h1, h2, Nat.le_of_lt z, k⟩
    · exact p.elim
  · split at p
    · rename_i e
      have e := of_decide_eq_true e
      subst e
      cases r1 with
      | tup a1 a2 =>
        cases r2
        exact op_rep1 pins s σ H _ _ v u Q I rx ry ⟨_, _, rfl, rfl, SqT.of a1, p _ _ .refl r _ (.tup a1 a2)⟩
    split at p
    · rename_i e
      simp only [Bool.and_eq_true, decide_eq_true_eq, Bool.not_eq_true', List.isEmpty_eq_false_iff] at e
      cases r1 with
      | tup a1 a2 =>
        cases r2
        obtain ⟨z, k1, k2⟩ := okT_at r (a2.rep _) p
        have hn : ∀ {ys : List PV} {ws : List V}, RVs c f h.n H ys ws → ys ≠ [] → ws ≠ [] := fun rr hne hz => by
          subst hz
          cases rr
          exact hne rfl
        exact op_repT pins s σ H _ _ v u Q I rx ry ⟨_, _, _, rfl, rfl, SqT.of a1, hn a2 e.2, e.1.1.1, e.1.1.2, by rw [← a2.length]; exact Nat.le_of_ble_eq_true e.1.2, k1⟩
    · exact p.elim
  · split at p
    · rename_i e1 e2
      simp only [Bool.and_eq_true, decide_eq_true_eq] at e2
      split at p
      · rename_i e3
        obtain ⟨vs, rfl, _, h1, rv1⟩ := lstAt_at r r1 e1
        cases r2
        obtain ⟨z, k⟩ := okL_at r (rv1.rep _) p
        have l3 := Nat.le_of_ble_eq_true e3
        rw [rv1.length] at l3
        have l4 : ∀ j : Int, j ≤ 1000 → vs.length * j.toNat ≤ 1000 * 1000 := fun j hj => Nat.mul_le_mul l3 (by omega)
        have l5 : 1000 * 1000 ≤ sizeLine := by rw [sizeLine_eq]; decide
        have l6 : ∀ j : Int, 0 ≤ j → -(2 ^ 63) ≤ j := fun j hj => by omega
        have l7 : ∀ j : Int, j ≤ 1000 → j < 2 ^ 63 := fun j hj => by omega
        exact op_rep pins s σ H _ _ v u Q I rx ry ⟨_, _, _, rfl, rfl, h1, l6 _ e2.1, l7 _ e2.2, Nat.le_trans (l4 _ e2.2) l5, k⟩
      · exact p.elim
    · exact p.elim
  · exact p.elim
theorem toDs_at {f : Nat → Addr} {n : Nat} {H : Hp} {g : PV → Option PyData} (k : ∀ x v d, RV c f n H x v → g x = some d → Dp c.K H v d) : ∀ {xs : List PV} {vs : List V} {ds : List PyData}, RVs c f n H xs vs → toDs g xs = some ds → DpAll c.K H vs ds
  | [], [], ds, .nil, e => by cases e; exact .nil
  | x :: xs, v :: vs, ds, .cons r t, e => by
    unfold toDs at e
    split at e
    · cases e
    · rename_i d q
      split at e
      · cases e
      · rename_i ds' q'
        cases e
        exact .cons (k x v d r q) (toDs_at k t q')
theorem toD_at {f : Nat → Addr} {h : PH} {H : Hp} (r : Rel c f h H) : ∀ (n : Nat) (x : PV) (v : V) (d : PyData), RV c f h.n H x v → toD n h x = some d → Dp c.K H v d
  | 0, x, v, d, rv, e => by cases e
  | n + 1, x, v, d, rv, e => by
    unfold toD at e
    split at e
    · cases e; cases rv; exact .non
    · cases e; cases rv; exact .bl _
    · cases e; cases rv; exact .int _
    · cases e; cases rv; exact .str _
    · split at e
      · rename_i ds q
        cases e
        cases rv with
        | tup h1 h2 => exact .tup (SqT.of h1) (toDs_at (toD_at r n) h2 q)
      · cases e
    · rename_i i
      cases rv with
      | ref hi =>
        split at e
        · rename_i xs q
          split at e
          · rename_i ds qd
            cases e
            cases r.obj _ _ q with
            | lst h1 h2 => exact .lst (SqL.of h1) (toDs_at (toD_at r n) h2 qd)
          · cases e
        · rename_i xs q
          split at e
          · rename_i ds qd
            cases e
            cases r.obj _ _ q with
            | fz h1 h2 => exact .lst h1.seq (toDs_at (toD_at r n) h2 qd)
          · cases e
        · cases e
    · cases e
theorem toDat_at {f : Nat → Addr} {h : PH} {H : Hp} (r : Rel c f h H) {x : PV} {v : V} {d : PyData} (rv : RV c f h.n H x v) (e : toDat h x = some d) : Dp c.K H v d ∧ SeqAt.shaped d = true := by
  unfold toDat at e
  split at e
  · rename_i d' q
    split at e
    · rename_i s
      cases e
      exact ⟨toD_at r _ _ _ _ rv q, s⟩
    · cases e
  · cases e
theorem eqP_at {f : Nat → Addr} {h : PH} {H : Hp} (r : Rel c f h H) {x y : PV} {v w : V} {k : Bool} (r1 : RV c f h.n H x v) (r2 : RV c f h.n H y w) (e : eqP h x y = some k) :
    ∃ d e', Dp c.K H v d ∧ Dp c.K H w e' ∧ SeqAt.shaped d = true ∧ SeqAt.shaped e' = true ∧ k = PyData.eqv d e' := by
  unfold eqP at e
  split at e
  · rename_i d q1
    split at e
    · rename_i d' q2
      cases e
      obtain ⟨a1, a2⟩ := toDat_at r r1 q1
      obtain ⟨b1, b2⟩ := toDat_at r r2 q2
      exact ⟨d, d', a1, b1, a2, b2, rfl⟩
    · cases e
  · cases e
theorem int2_at {g : Int → Int → Bool} {x y : PV} {k : Bool} (e : int2 g x y = some k) : ∃ i j, x = .int i ∧ y = .int j ∧ k = g i j := by
  unfold int2 at e
  split at e
  · cases e
    exact ⟨_, _, rfl, rfl, rfl⟩
  · cases e
theorem ints_at {f : Nat → Addr} {n : Nat} {H : Hp} : ∀ {xs : List PV} {vs : List V} {ns : List Int}, RVs c f n H xs vs → intsP xs = some ns → vs = ns.map V.int
  | [], _, ns, r, e => by
    cases r
    cases e
    rfl
  | x :: xs, _, ns, r, e => by
    cases r with
    | cons r t =>
      cases x with
      | int i =>
        have e : (match intsP xs with | some is => some (i :: is) | none => none) = some ns := e
        cases z : intsP xs with
        | none => rw [z] at e; cases e
        | some is =>
          rw [z] at e
          cases e
          cases r
          rw [ints_at t z]
          rfl
      | _ => cases e
theorem ltT_at {f : Nat → Addr} {n : Nat} {H : Hp} {xs ys : List PV} {vs ws : List V} {k : Bool} (r : RVs c f n H xs vs) (r' : RVs c f n H ys ws) (e : ltT xs ys = some k) : ∃ ns ms : List Int, vs = ns.map V.int ∧ ws = ms.map V.int ∧ k = HT.lexLt ns ms := by
  unfold ltT at e
  split at e
  · rename_i ns e1
    split at e
    · rename_i ms e2
      cases e
      exact ⟨ns, ms, ints_at r e1, ints_at r' e2, rfl⟩
    · cases e
  · cases e
theorem ltP_at {f : Nat → Addr} {n : Nat} {H : Hp} {x y : PV} {v w : V} {k : Bool} (r : RV c f n H x v) (r' : RV c f n H y w) (e : ltP x y = some k) :
    (∃ i j, v = .int i ∧ w = .int j ∧ k = decide (i < j)) ∨ ∃ a b ns ms, v = .ref a ∧ w = .ref b ∧ H a = some (.tup (ns.map V.int)) ∧ H b = some (.tup (ms.map V.int)) ∧ k = HT.lexLt ns ms := by
  unfold ltP at e
  split at e
  · cases e; cases r; cases r'
    exact .inl ⟨_, _, rfl, rfl, rfl⟩
  · cases r with
    | tup a1 a2 =>
      cases r' with
      | tup b1 b2 =>
        obtain ⟨ns, ms, rfl, rfl, rfl⟩ := ltT_at a2 b2 e
        exact .inr ⟨_, _, _, _, rfl, rfl, a1, b1, rfl⟩
  · cases e
theorem leP_at {f : Nat → Addr} {n : Nat} {H : Hp} {x y : PV} {v w : V} {k : Bool} (r : RV c f n H x v) (r' : RV c f n H y w) (e : leP x y = some k) :
    (∃ i j, v = .int i ∧ w = .int j ∧ k = decide (i ≤ j)) ∨ ∃ a b ns ms, v = .ref a ∧ w = .ref b ∧ H a = some (.tup (ns.map V.int)) ∧ H b = some (.tup (ms.map V.int)) ∧ k = !HT.lexLt ms ns := by
  unfold leP at e
  split at e
  · cases e; cases r; cases r'
    exact .inl ⟨_, _, rfl, rfl, rfl⟩
  · cases r with
    | tup a1 a2 =>
      cases r' with
      | tup b1 b2 =>
        cases z : ltT _ _ with
        | none => rw [z] at e; cases e
        | some j =>
          rw [z] at e
          cases e
          obtain ⟨ns, ms, rfl, rfl, rfl⟩ := ltT_at b2 a2 z
          exact .inr ⟨_, _, _, _, rfl, rfl, a1, b1, rfl⟩
  · cases e
theorem lexAt_shift {e r : Nat → Bool} {z : Bool} : ∀ (m i : Nat), Ob.lexAt e r z (i + 1) m = Ob.lexAt (fun j => e (j + 1)) (fun j => r (j + 1)) z i m
  | 0, _ => rfl
  | m + 1, i => by
    rw [Ob.lexAt_succ, Ob.lexAt_succ, lexAt_shift m (i + 1)]
theorem lexAt_is : ∀ ns ms : List Int, Ob.lexAt (fun j => decide (ns.getD j 0 = ms.getD j 0)) (fun j => decide (ns.getD j 0 ≤ ms.getD j 0)) (decide (ns.length ≤ ms.length)) 0 (min ns.length ms.length) = !HT.lexLt ms ns
  | [], [] => rfl
  | [], _ :: _ => rfl
  | _ :: _, [] => rfl
  | x :: ns, y :: ms => by
    have ih := lexAt_is ns ms
    rw [List.length_cons, List.length_cons, Nat.succ_min_succ, Ob.lexAt_succ, lexAt_shift]
    have e1 : decide (ns.length + 1 ≤ ms.length + 1) = decide (ns.length ≤ ms.length) := decide_eq_decide.mpr (by omega)
    rw [e1]
    show (if decide (x = y) = true then Ob.lexAt (fun j => decide (ns.getD j 0 = ms.getD j 0)) (fun j => decide (ns.getD j 0 ≤ ms.getD j 0)) (decide (ns.length ≤ ms.length)) 0 (min ns.length ms.length) else decide (x ≤ y)) = !(if y = x then HT.lexLt ms ns else decide (y < x))
    rw [ih]
    by_cases h : x = y
    · rw [if_pos (decide_eq_true h), if_pos h.symm]
    · rw [if_neg (by rw [decide_eq_true_eq]; exact h), if_neg (fun z => h z.symm)]
      by_cases h2 : y < x
      · rw [decide_eq_true h2, decide_eq_false (by omega)]
        rfl
      · rw [decide_eq_false h2, decide_eq_true (by omega)]
        rfl
theorem isP_at {f : Nat → Addr} {n : Nat} {H : Hp} {x y : PV} {v w : V} {k : Bool} (r : RV c f n H x v) (r' : RV c f n H y w) (e : isP x y = some k) : (w = .non ∧ k = decide (v = .non)) ∨ ∃ a b : Bool, v = .bl a ∧ w = .bl b ∧ k = decide (a = b) := by
  unfold isP at e
  split at e
  · cases r'
    refine .inl ⟨rfl, ?_⟩
    cases r <;> cases e <;> rfl
  · split at e
    · cases r'
      cases r
      cases e
      exact .inr ⟨_, _, rfl, rfl, rfl⟩
    · cases e
  · cases e
theorem negO_at {o : Option Bool} {k : Bool} (e : negO o = some k) : ∃ j, o = some j ∧ k = !j := by
  cases o with
  | none => cases e
  | some j => cases e; exact ⟨j, rfl, rfl⟩
theorem op_cmp (hK : X.K = c.K) (hu : X.A.units + 65 < cLine) (op : Cop) : OpR X (compareOp (opC op)) (rCmp c op) := by
  intro pins s σ H x y v u Q I rx ry ⟨f, h, pv, pw, k, r, r1, r2, p, q⟩
  cases op with
  | eq =>
    obtain ⟨d, e, a1, a2, a3, a4, rfl⟩ := eqP_at r r1 r2 p
    rw [← hK] at a1 a2
    exact op_eqD (by omega) pins s σ H _ _ v u Q I rx ry ⟨d, e, a1, a2, a3, a4, q⟩
  | ne =>
    obtain ⟨j, p', rfl⟩ := negO_at p
    obtain ⟨d, e, a1, a2, a3, a4, rfl⟩ := eqP_at r r1 r2 p'
    rw [← hK] at a1 a2
    exact op_neD (by omega) pins s σ H _ _ v u Q I rx ry ⟨d, e, a1, a2, a3, a4, q⟩
  | lt =>
    rcases ltP_at r1 r2 p with ⟨i, j, rfl, rfl, rfl⟩ | ⟨a, b, ns, ms, rfl, rfl, ha, hb, rfl⟩
    · exact op_lt pins s σ H _ _ v u Q I rx ry ⟨_, _, rfl, rfl, q⟩
    · exact op_ltT (by omega) pins s σ H _ _ v u Q I rx ry ⟨_, _, _, _, rfl, rfl, SqT.of ha, SqT.of hb, q⟩
  | le =>
    rcases leP_at r1 r2 p with ⟨i, j, rfl, rfl, rfl⟩ | ⟨a, b, ns, ms, rfl, rfl, ha, hb, rfl⟩
    · exact op_le pins s σ H _ _ v u Q I rx ry ⟨_, _, rfl, rfl, q⟩
    · exact op_leT (by omega) pins s σ H _ _ v u Q I rx ry ⟨_, _, _, _, rfl, rfl, SqT.of ha, SqT.of hb, by rw [lexAt_is]; exact q⟩
  | gt =>
    obtain ⟨i, j, rfl, rfl, rfl⟩ := int2_at p
    cases r1; cases r2
    exact op_gt pins s σ H _ _ v u Q I rx ry ⟨_, _, rfl, rfl, q⟩
  | ge =>
    obtain ⟨i, j, rfl, rfl, rfl⟩ := int2_at p
    cases r1; cases r2
    exact op_ge pins s σ H _ _ v u Q I rx ry ⟨_, _, rfl, rfl, q⟩
  | is =>
    rcases isP_at r1 r2 p with ⟨e1, rfl⟩ | ⟨a, b, e1, e2, rfl⟩
    · exact op_isN pins s σ H _ _ v u Q I rx ry ⟨e1, q⟩
    · exact op_isBl pins s σ H _ _ v u Q I rx ry ⟨a, b, e1, e2, q⟩
  | nis =>
    obtain ⟨j, p', rfl⟩ := negO_at p
    rcases isP_at r1 r2 p' with ⟨e1, rfl⟩ | ⟨a, b, e1, e2, rfl⟩
    · exact op_notN pins s σ H _ _ v u Q I rx ry ⟨e1, q⟩
    · exact op_notBl pins s σ H _ _ v u Q I rx ry ⟨a, b, e1, e2, q⟩
theorem flat_at {f : Nat → Addr} {n : Nat} {H : Hp} {x : PV} {v : V} (r : RV c f n H x v) (e : flatP x = true) : flatV v = true := by
  cases r <;> first | rfl | cases e
theorem flats_at {f : Nat → Addr} {n : Nat} {H : Hp} : ∀ {xs : List PV} {vs : List V}, RVs c f n H xs vs → xs.all flatP = true → vs.all flatV = true
  | [], [], .nil, _ => rfl
  | x :: xs, v :: vs, .cons r t, e => by
    rw [List.all_cons, Bool.and_eq_true] at e
    rw [List.all_cons, Bool.and_eq_true]
    exact ⟨flat_at r e.1, flats_at t e.2⟩
theorem eqF_at {f : Nat → Addr} {n : Nat} {H : Hp} {x y : PV} {v w : V} (r : RV c f n H x v) (r' : RV c f n H y w) (e : flatP x = true) (e' : flatP y = true) : eqF x y = eqV v w := by
  cases r <;> cases r' <;> first | rfl | (cases e; done) | (cases e'; done)
theorem in_at {f : Nat → Addr} {n : Nat} {H : Hp} {x : PV} {v : V} (r : RV c f n H x v) (e : flatP x = true) : ∀ {xs : List PV} {vs : List V}, RVs c f n H xs vs → xs.all flatP = true → (xs.any fun y => eqF y x) = inV v vs
  | [], [], .nil, _ => rfl
  | y :: xs, w :: vs, .cons r' t, e' => by
    rw [List.all_cons, Bool.and_eq_true] at e'
    unfold inV
    rw [List.any_cons, List.any_cons, eqF_at r' r e'.1 e, in_at r e t e'.2]
    rfl
theorem keyT_at {f : Nat → Addr} {h : PH} {H : Hp} {x : PV} {v : V} {is : List Int} (rv : RV c f h.n H x v) (e : keyT x = some is) : ∃ b, v = .ref b ∧ H b = some (.tup ((kT is).map kV)) := by
  cases x with
  | tup xs =>
    cases rv with
    | tup h1 h2 =>
      obtain ⟨e1, _⟩ := intsP_vals h2 e
      refine ⟨_, rfl, ?_⟩
      rw [h1, e1]
      unfold kT
      rw [List.map_map]
      rfl
  | _ => cases e
theorem dLook_at {f : Nat → Addr} {h : PH} {H : Hp} (r : Rel c f h H) {x y : PV} {v w : V} {o : Option PV} (r1 : RV c f h.n H x v) (r2 : RV c f h.n H y w) (e : dLook x y h = some o) :
    ∃ a u, v = .ref a ∧ DGet H a w u ∧ ((o = none ∧ u = none) ∨ ∃ p q, o = some p ∧ u = some q ∧ RV c f h.n H p q) := by
  unfold dLook at e
  split at e
  · rename_i i
    cases r1 with
    | ref hi =>
      split at e
      · rename_i kvs g
        split at e
        · rename_i k
          cases e
          cases r2
          cases r.obj i _ g with
          | dK h1 h2 hn =>
            rename_i ws
            refine ⟨_, valV ws (kI k), rfl, .inl ⟨ws, kI k, .inl h1, rfl, rfl⟩, ?_⟩
            rcases h2.val kI_inj k with ⟨e1, e2⟩ | ⟨p, q, e1, e2, e3⟩
            · exact .inl ⟨e1, e2⟩
            · exact .inr ⟨p, q, e1, e2, e3⟩
        · cases e
      · rename_i kvs g
        split at e
        · rename_i k ek
          cases e
          obtain ⟨b, rfl, hb⟩ := keyT_at r2 ek
          cases r.obj i _ g with
          | dT h1 h2 hn =>
            rename_i ws
            refine ⟨_, valV ws (kT k), rfl, .inr ⟨ws, kT k, b, .inl h1, rfl, hb, rfl⟩, ?_⟩
            rcases h2.val kT_inj k with ⟨e1, e2⟩ | ⟨p, q, e1, e2, e3⟩
            · exact .inl ⟨e1, e2⟩
            · exact .inr ⟨p, q, e1, e2, e3⟩
        · cases e
      · rename_i kvs g
        split at e
        · rename_i k ek
          cases e
          obtain ⟨b, rfl, hb⟩ := keyT_at r2 ek
          cases r.obj i _ g with
          | lT h1 h2 hn =>
            rename_i ws od
            refine ⟨_, valV ws (kT k), rfl, .inr ⟨ws, kT k, b, .inr ⟨_, h1⟩, rfl, hb, rfl⟩, ?_⟩
            rcases h2.val kT_inj k with ⟨e1, e2⟩ | ⟨p, q, e1, e2, e3⟩
            · exact .inl ⟨e1, e2⟩
            · exact .inr ⟨p, q, e1, e2, e3⟩
        · cases e
      · rename_i kvs g
        split at e
        · rename_i k
          cases e
          cases r2
          cases r.obj i _ g with
          | lK h1 h2 hn =>
            rename_i ws od
            refine ⟨_, valV ws (kI k), rfl, .inl ⟨ws, kI k, .inr ⟨_, h1⟩, rfl, rfl⟩, ?_⟩
            rcases h2.val kI_inj k with ⟨e1, e2⟩ | ⟨p, q, e1, e2, e3⟩
            · exact .inl ⟨e1, e2⟩
            · exact .inr ⟨p, q, e1, e2, e3⟩
        · cases e
      · cases e
  · cases e
theorem dGetP_at {f : Nat → Addr} {h : PH} {H : Hp} (r : Rel c f h H) {x y p : PV} {v w : V} (r1 : RV c f h.n H x v) (r2 : RV c f h.n H y w) (e : dGetP x y h = some p) : ∃ a q, v = .ref a ∧ DGet H a w (some q) ∧ RV c f h.n H p q := by
  unfold dGetP at e
  split at e
  · rename_i z e2
    cases e
    obtain ⟨a, u, e1, g, q⟩ := dLook_at r r1 r2 e2
    rcases q with ⟨z, _⟩ | ⟨p, q, z1, z2, z3⟩
    · cases z
    · cases z1
      subst z2
      exact ⟨a, q, e1, g, z3⟩
  · cases e
theorem dInP_at {f : Nat → Addr} {h : PH} {H : Hp} (r : Rel c f h H) {x y : PV} {v w : V} {k : Bool} (r1 : RV c f h.n H x v) (r2 : RV c f h.n H y w) (e : dInP x y h = some k) : ∃ a u, v = .ref a ∧ DGet H a w u ∧ u.isSome = k := by
  unfold dInP at e
  split at e
  · rename_i z e2
    cases e
    obtain ⟨a, u, e1, g, q⟩ := dLook_at r r1 r2 e2
    refine ⟨a, u, e1, g, ?_⟩
    rcases q with ⟨z1, z2⟩ | ⟨p, q, z1, z2, z3⟩
    · rw [z1, z2]; rfl
    · rw [z1, z2]; rfl
  · cases e
theorem dPutP_at {f : Nat → Addr} {h h' : PH} {H : Hp} (r : Rel c f h H) {x y p : PV} {v w q : V} (r1 : RV c f h.n H x v) (r2 : RV c f h.n H y w) (r3 : RV c f h.n H p q) (e : dPutP x y p h = some h') : ∃ a H', v = .ref a ∧ DPut H a w q H' ∧ Rel c f h' H' ∧ Ext f h.n H f h'.n H' := by
  unfold dPutP at e
  split at e
  · rename_i i
    cases r1 with
    | ref hi =>
      split at e
      · rename_i kvs g
        split at e
        · rename_i k hz
          cases e
          cases r2
          cases r.obj i _ g with
          | dK h1 h2 h3 =>
            rename_i ws
            obtain ⟨r4, e4⟩ := r.writeK g (h2.put kI_inj k r3 h3) h3.put
            refine ⟨_, _, rfl, .inl ⟨ws, kI k, h1, rfl, ?_, rfl⟩, r4, e4⟩
            rw [← h2.length]
            exact Nat.lt_of_le_of_lt (Nat.le_of_ble_eq_true hz) line_big
        · cases e
      · rename_i kvs g
        split at e
        · rename_i k ek hz
          cases e
          obtain ⟨b, rfl, hb⟩ := keyT_at r2 ek
          cases r.obj i _ g with
          | dT h1 h2 h3 =>
            rename_i ws
            obtain ⟨r4, e4⟩ := r.writeT g (h2.put kT_inj k r3 h3) h3.put
            refine ⟨_, _, rfl, .inr ⟨ws, kT k, b, h1, rfl, hb, ?_, rfl⟩, r4, e4⟩
            rw [← h2.length]
            exact Nat.lt_of_le_of_lt (Nat.le_of_ble_eq_true hz) line_big
        · cases e
      · cases e
  · cases e
def rIxD : R2 := fun x y H Q => ∃ a v, x = .ref a ∧ DGet H a y (some v) ∧ Q v H
theorem ix_dict (hu : X.A.units + 1 < cLine) : IxR X rIxD := by
  intro value slice pins s σ H x y v u Q I rx ry ⟨a, w, e, g, q⟩ hs
  subst e
  obtain rfl : v = Value.ref a := rx
  have hT := dict_typeIs I g
  unfold subscriptTail
  refine wpAny_bind ?_
  rw [getitemInPython_of_ne hT.not_modules]
  refine wpAny_bind (wpAny_specialOf hT PySem.F.slot_dict_getitem.lookup ?_)
  have fin : wpAny (model X.prog X.w) X.A (subscripted slice false (.ref a) u) (fun r s₃ => wpAny (model X.prog X.w) X.A (letTemporaryGo value (.ref a) r >>= fun _ => pure r) (EP X pins σ Q) X.xe s₃) X.xe s := by
    rw [hs]
    exact wpAny_operating (wpAny_mono (d_getItem hu I g ry fun w' s3 I3 rw' => (show EP X pins σ Q w' s3 from ⟨w, H, I3, rw', q⟩)) (fun r s₃ h₃ => wpAny_bind (wpAny_letTemporaryGo (wpAny_pure h₃))) fun _ _ x => x)
  first
    | exact wpAny_pure (wpAny_bind fin)
    | exact wpAny_bind (wpAny_pure (wpAny_bind fin))
    | exact wpAny_bind fin
theorem op_inP (hK : X.K = c.K) (hu : X.A.units + 65 < cLine) (ng : Bool) : OpR X (compareOp (if ng then .NotIn else .In)) (rInP c ng) := by
  intro pins s σ H x y v u Q I rx ry ⟨f, h, pv, pw, k, r, r1, r2, p, q⟩
  unfold inP at p
  split at p
  · rename_i xs e
    split at p
    · rename_i e'
      cases p
      rw [Bool.and_eq_true] at e'
      obtain ⟨a, vs, rfl, hs, rv⟩ := seqOf_at r r2 e
      rw [in_at r1 e'.1 rv e'.2] at q
      rw [← hK] at hs
      cases ng with
      | false => exact op_in_seq pins s σ H _ _ v u Q I rx ry ⟨a, vs, rfl, hs, flat_at r1 e'.1, flats_at rv e'.2, q⟩
      | true => exact op_notIn_seq pins s σ H _ _ v u Q I rx ry ⟨a, vs, rfl, hs, flat_at r1 e'.1, flats_at rv e'.2, q⟩
    · unfold inD at p
      split at p
      · rename_i d q1
        split at p
        · rename_i ds q2
          cases p
          obtain ⟨a1, a2⟩ := toDat_at r r1 q1
          obtain ⟨b1, b2⟩ := toDat_at r r2 q2
          rw [← hK] at a1 b1
          cases ng with
          | false => exact op_inD hu pins s σ H _ _ v u Q I rx ry ⟨d, ds, a1, b1, a2, b2, q⟩
          | true => exact op_notInD hu pins s σ H _ _ v u Q I rx ry ⟨d, ds, a1, b1, a2, b2, q⟩
        · cases p
      · cases p
  · obtain ⟨a, u2, rfl, g, e⟩ := dInP_at r r2 r1 p
    cases (show u = Value.ref a from ry)
    subst e
    cases ng with
    | false => exact d_in (by omega) I g rx fun s' I' => ⟨.bl _, H, I', rfl, q⟩
    | true => exact d_notIn (by omega) I g rx fun s' I' => ⟨.bl _, H, I', rfl, q⟩
theorem isEmpty_at {f : Nat → Addr} {n : Nat} {H : Hp} {xs : List PV} {vs : List V} (r : RVs c f n H xs vs) : xs.isEmpty = vs.isEmpty := by
  cases r <;> rfl
theorem atI_at {f : Nat → Addr} {n : Nat} {H : Hp} {xs : List PV} {vs : List V} (r : RVs c f n H xs vs) {i : Int} {x : PV} (e : atI xs i = some x) : ∃ v, atI vs i = some v ∧ RV c f n H x v := by
  unfold atI at e ⊢
  rw [r.length] at e
  cases z : ixN vs.length i with
  | none => rw [z] at e; cases e
  | some j =>
    rw [z] at e
    exact r.get j x e
theorem ix_at (hK : X.K = c.K) (hu : X.A.units + 65 < cLine) : IxR X (rIxP c) := by
  intro value slice pins s σ H x y v u Q I rx ry ⟨f, h, pv, pw, pu, r, r1, r2, p, q⟩ hs
  have dict : dGetP pv pw h = some pu → wpAny (model X.prog X.w) X.A (subscriptTail value slice v u) (EP X pins σ Q) X.xe s := fun p => by
    obtain ⟨a, w, e, g, r3⟩ := dGetP_at r r1 r2 p
    exact ix_dict (by omega) value slice pins s σ H x y v u Q I rx ry ⟨a, w, e, g, q w r3⟩ hs
  unfold ixP at p
  split at p
  · rename_i i
    split at p
    · rename_i xs e
      cases r2
      refine ix_seq value slice pins s σ H x _ v u Q I rx ry ?_ hs
      obtain ⟨a, vs, rfl, hs, rv⟩ := seqOf_at r r1 e
      obtain ⟨w, e1, r3⟩ := atI_at rv p
      rw [← hK] at hs
      rcases hs with hs | hs
      · exact .inl ⟨a, vs, i, w, rfl, rfl, hs, e1, q w r3⟩
      · exact .inr (.inl ⟨a, vs, i, w, rfl, rfl, hs, e1, q w r3⟩)
    · exact dict p
  · exact dict p
theorem sl_at (hK : X.K = c.K) : SlR X (rSlP c) := by
  intro pins s σ H x v vl vu lo hi sl Q I rx hs pl pu ⟨f, h, pv, r, r1, p⟩
  unfold slP at p
  split at p
  · cases r1 with
    | tup h1 h2 =>
      obtain ⟨z, k1, k2⟩ := okT_at r (h2.cut lo hi) p
      refine sl_tupA pins s σ H _ v vl vu lo hi sl Q I rx hs pl pu ⟨_, _, rfl, SqT.of h1, fun e => ?_, fun _ => k1⟩
      refine k2 _ ?_
      rw [h1]
      unfold cutV
      rw [e.1, e.2, List.drop_zero, Nat.sub_zero, List.take_length]
  · split at p
    · rename_i i xs e
      obtain ⟨a, vs, rfl, hq, rv⟩ := seqL_at r r1 e
      rw [← hK] at hq
      obtain ⟨z, k⟩ := okL_at r (rv.cut lo hi) p
      exact sl_list pins s σ H _ v vl vu lo hi sl Q I rx hs pl pu ⟨a, vs, rfl, hq, k⟩
    · exact p.elim
  · exact p.elim
theorem set_at (hu : X.A.units + 65 < cLine) : PSet X (rSetP c) := by
  intro pins s σ H o i v ov iv u Q I ro ri rv ⟨f, h, po, pi, pv, h', r, r1, r2, r3, p, q⟩
  unfold setP at p
  split at p
  · rename_i k a xs e
    split at p
    · rename_i j ej
      cases p
      obtain ⟨vs, rfl, hg, h1, rs⟩ := lstAt_at r r1 e
      cases r2
      obtain ⟨r4, e4⟩ := r.write hg (rs.set j r3)
      exact set_list pins s σ H _ _ v ov iv u Q I ro ri rv ⟨f a, vs, k, j, rfl, rfl, h1, by rw [← rs.length]; exact ej, q _ r4 e4⟩
    · cases p
  · obtain ⟨a, H', rfl, g, r4, e4⟩ := dPutP_at r r1 r2 r3 p
    cases (show ov = Value.ref a from ro)
    exact d_setItem (by omega) I g ri rv fun s' I' => ⟨H', I', q _ r4 e4⟩
end
end Pyx

namespace Pyx
open PySem PySem.Spec PyProof.Rows L2
def IsTI (h : Heap) (v : Value) (ns : List Int) : Prop := ∃ a o items n, v = .ref a ∧ h.get? a = some o ∧ o.cls = .type "tuple" ∧ o.data = .seq items n ∧ IntsAre items.toList ns ∧ ns ≠ []
theorem IsTI.keeps {h h' : Heap} {v : Value} {ns : List Int} (p : IsTI h v ns) (k : ∀ b o, h.get? b = some o → o.cls = .type "tuple" → h'.get? b = some o) : IsTI h' v ns := by
  obtain ⟨a, o, its, n, e, ho, hc, hd, r⟩ := p
  exact ⟨a, o, its, n, e, k _ _ ho hc, hc, hd, r⟩
theorem firstsTI {h : Heap} {k : Value → List Int} : ∀ {vs : List Value}, (∀ v ∈ vs, IsTI h v (k v)) → ∃ fs : List Value, PySem.W.KatTups h vs fs ∧ fs.length = vs.length ∧ ∀ f ∈ fs, ∃ x t, f = Value.int x t
  | [], _ => ⟨[], PySem.W.KatTups.nil, rfl, fun f hf => absurd hf (by simp)⟩
  | v :: vs, hp => by
    obtain ⟨fs, h1, h2, h3⟩ := firstsTI (vs := vs) fun u hu => hp u (List.mem_cons_of_mem _ hu)
    obtain ⟨a, o, its, n, rfl, ho, hc, hd, hi, hn⟩ := hp v List.mem_cons_self
    obtain ⟨y, ys, e⟩ : ∃ y ys, its.toList = y :: ys := by
      cases q : its.toList with
      | nil =>
        rw [q] at hi
        have l := hi.length
        exact absurd (List.eq_nil_of_length_eq_zero l.symm) hn
      | cons y ys => exact ⟨y, ys, rfl⟩
    obtain ⟨m, t, hy⟩ := hi.all y (by rw [e]; exact List.mem_cons_self)
    refine ⟨y :: fs, PySem.W.KatTups.cons ho hc hd ?_ h1, by rw [List.length_cons, List.length_cons, h2], ?_⟩
    · rw [← Array.getElem?_toList, e, List.getElem?_cons_zero]
    · intro f hf
      rcases List.mem_cons.mp hf with e2 | hf
      · exact ⟨m, t, e2.trans hy⟩
      · exact h3 f hf
section
variable {prog : Program} {w : World} {A : Around} {E : Value → Shared → Prop} {s : Shared} {Q : Bool → Shared → Prop}
theorem lexTI : ∀ {xs ys : List Value} {ns ms : List Int} (i : Nat) {b fin : Bool}, IntsAre xs ns → IntsAre ys ms → fin = decide (xs.length < ys.length) → Q (HT.lexLt ns ms) s → PySem.W.KatLex prog w A b fin Q (xs.zip ys) i s
  | _, _, _, _, i, b, fin, .nil, .nil, hf, h => by
    rw [HT.lexLt_nil_nil] at h
    subst hf
    exact PySem.W.kat_nil h
  | _, _, _, _, i, b, fin, .nil, .cons m u r, hf, h => by
    rw [HT.lexLt_nil_cons] at h
    have e : fin = true := by rw [hf]; exact decide_eq_true (Nat.succ_pos _)
    subst e
    exact PySem.W.kat_nil h
  | _, _, _, _, i, b, fin, .cons n t r, .nil, hf, h => by
    rw [HT.lexLt_cons_nil] at h
    have e : fin = false := by rw [hf]; exact decide_eq_false (Nat.not_lt_zero _)
    subst e
    exact PySem.W.kat_nil h
  | _, _, _, _, i, b, fin, .cons (vs := xs) (ns := ns) n t r, .cons (vs := ys) (ns := ms) m u r', hf, h => by
    have hf' : fin = decide (xs.length < ys.length) := by
      rw [hf]
      simp only [List.length_cons, Nat.add_lt_add_iff_right]
    rw [HT.lexLt_cons] at h
    show PySem.W.KatLex prog w A b fin Q ((Value.int n t, Value.int m u) :: xs.zip ys) i s
    refine PySem.W.kat_cons (wpAny_eqBool_int ?_)
    by_cases e : n = m
    · rw [if_pos e] at h
      subst e
      rw [beq_self_eq_true]
      exact PySem.W.kat_yes (lexTI (i + 1) r r' hf' h)
    · rw [if_neg e] at h
      rw [show (n == m) = false from beq_eq_false_iff_ne.mpr e]
      exact PySem.W.kat_no (TS.oneLt_ints _ h)
theorem cmpTI {vs : List Value} {k : Value → List Int} (hp : ∀ v ∈ vs, IsTI s.heap v (k v)) : SrtO.Cmp prog w A s (tuples' true) (fun p => p.1 ∈ vs) (SrtO.lt2 fun v u => HT.lexLt (k v) (k u)) := by
  intro p q hm hm'
  have h1 := hp _ hm
  have h2 := hp _ hm'
  show wpAny (model prog w) A (keyLt' (tuples' true) p.1 q.1) (fun r s' => s' = s ∧ r = HT.lexLt (k p.1) (k q.1)) (fun _ _ => False) s
  generalize k p.1 = ns at h1 ⊢
  generalize k q.1 = ms at h2 ⊢
  obtain ⟨a, o, its, n, e, ho, hc, hd, hi, _⟩ := h1
  obtain ⟨a', o', its', n', e', ho', hc', hd', hi', _⟩ := h2
  rw [e, e']
  refine PySem.W.kat_lt ho hd ho' hd' ?_
  exact lexTI (Q := fun r s' => s' = s ∧ r = HT.lexLt ns ms) 0 hi hi' (by rw [Array.length_toList, Array.length_toList]) ⟨rfl, rfl⟩
theorem sortableTI {a : Addr} {vs : List Value} {k : Value → List Int} (h0 : 0 < vs.length) (hp : ∀ v ∈ vs, IsTI s.heap v (k v)) (ha : ∀ o, s.heap.get? a = some o → o.cls ≠ .type "tuple") : SrtO.SortableO prog w A s a vs fun v u => HT.lexLt (k v) (k u) := by
  intro h' keep
  have hp' : ∀ v ∈ vs, IsTI h' v (k v) := fun v hm => (hp v hm).keeps fun b o e c => keep b o (fun z => by subst z; exact ha o e c) e
  obtain ⟨fs, h1, h2, h3⟩ := firstsTI hp'
  refine ⟨tuples' true, fun Q E hq => ?_, cmpTI hp'⟩
  refine PySem.W.kat_kind (T := .type "int") h1 (by omega) (fun f hm => ?_) (by rfl) ?_
  · obtain ⟨x, t, rfl⟩ := h3 f hm
    exact PySem.W.Looks.now
  · have e : (Value.type "int" != Value.type "tuple") = true := by first | decide +kernel | rfl | decide
    rw [e]
    exact hq
theorem sortedTI {l : Addr} {vs : List Value} {k : Value → List Int} {Q : Value → Shared → Prop} (hl : s.heap.IsList l vs.toArray) (hz : vs.length ≤ sizeLine) (hp : ∀ v ∈ vs, IsTI s.heap v (k v))
    (h : ∀ (h' : Heap) (d : Addr) (out : List Value), SrtO.Srtd (fun v u => HT.lexLt (k v) (k u)) out → out.Perm vs → (∀ b o, s.heap.get? b = some o → h'.get? b = some o) → s.heap.objs.size ≤ d → (∃ n, h'.get? d = some (seqObj "list" out.toArray n)) → Q (.ref d) { s with heap := h' }) :
    wpAny (model prog w) A (call (.builtin "sorted") [.ref l]) Q E s := by
  refine SrtO.sorted_ord (NtL.swo_lexL k) hl hz (fun h2 h₁ a ha kk => ?_) fun out hs hb => ?_
  · refine sortableTI (s := { s with heap := h₁ }) (by omega) (fun v hm => (hp v hm).keeps fun b o e _ => (kk b o e).2) fun o e => ?_
    have e' : some o = some (seqObj "list" vs.toArray 0) := e.symm.trans ha
    cases e'
    intro c
    exact absurd (Value.type.inj c) (by decide)
  · exact h _ _ out hs hb.perm (fun b o e => sortedAll_old e) (Nat.le_succ _) (sortedAll_at s.heap vs out.toArray)
end
def rSortedTI (K : PySem.W.Frag) : List V → Hp → VK → Prop := fun vs H Q => ∃ (a : Addr) (xs : List V) (k : V → List Int), vs = [V.ref a] ∧ SqL K H a xs ∧ (∀ x ∈ xs, ∃ t, x = V.ref t ∧ H t = some (.tup ((k x).map V.int)) ∧ k x ≠ []) ∧
  ∀ ys p, ys.Pairwise (fun x y => HT.lexLt (k y) (k x) = false) → ys.Perm xs → H p = none → Q (.ref p) (upd H p (.lst ys))
section
variable {X : Cx}
theorem cr_sortedTI : CallR X (.builtin "sorted") (rSortedTI X.K) := by
  intro pins s σ H vs us Q I r h
  obtain ⟨a, xs, k, rfl, hs, hx, q⟩ := h
  obtain ⟨its, rv, hl, hz⟩ := I.list hs
  obtain ⟨u, rfl, ru⟩ := vals1 r
  obtain rfl : u = Value.ref a := ru
  obtain ⟨e1, e2⟩ := refs_back rv fun x m => by
    obtain ⟨t, e, _⟩ := hx x m
    exact ⟨t, e⟩
  refine sortedTI (k := fun u => k (backV u)) hl.isList (by rw [← rv.length]; exact hz) (fun v hv => ?_) fun h' d out h1 h2 kp hd hn => ?_
  · obtain ⟨t, rfl⟩ := e2 v hv
    have hm : V.ref t ∈ xs := by rw [e1]; exact List.mem_map.mpr ⟨_, hv, rfl⟩
    obtain ⟨t', e, ht, hne⟩ := hx _ hm
    cases e
    obtain ⟨_, its2, r2, o, ho, hc, n, hd⟩ := I.hok _ _ ht
    exact ⟨t, o, _, n, rfl, ho, hc, hd, r2.ints, hne⟩
  · have h3 : ∀ u ∈ out, ∃ a, u = Value.ref a := fun u hu => e2 u (h2.mem_iff.mp hu)
    obtain ⟨n, hn⟩ := hn
    have hb : (out.map backV).Perm xs := by
      rw [e1]
      exact h2.map backV
    refine ⟨.ref d, upd H d (.lst (out.map backV)), I.laid (t' := s.toks) kp hd ⟨?_, out, n, vals_back h3, hn⟩, rfl, q _ d (List.pairwise_map.mpr h1) hb (I.hok.fresh hd)⟩
    rw [hb.length_eq]
    exact hz
end
end Pyx

namespace Pyx
open PySem PySem.Spec PyProof.Rows L2
section
variable {prog : Program} {w : World} {A : Around} {E : Value → Shared → Prop} {s : Shared}
theorem samePairs0 {nm : String} {a b : Addr} {ea eb : Array DictEntry} {epa epb : Nat} {Q : Bool → Shared → Prop} (ha : (a == sysModules) = false) (hb : (b == sysModules) = false)
    (da : s.heap.DictRaw a ea epa) (db : s.heap.DictRaw b eb epb) (h0 : eb.size = 0) (h : Q (decide (ea.size = 0)) s) :
    wpAny (model prog w) A (Builtin.Dict.samePairs nm a b) Q E s := by
  obtain ⟨oa, hoa, _, hda⟩ := da
  obtain ⟨ob, hob, _, hdb⟩ := db
  unfold Builtin.Dict.samePairs Builtin.Dict.showsAll
  rw [if_neg (show ¬ (a == sysModules) = true by rw [ha]; exact Bool.false_ne_true), if_neg (show ¬ (b == sysModules) = true by rw [hb]; exact Bool.false_ne_true)]
  refine wpAny_bind (wpAny_pure (wpAny_bind (wpAny_pure ?_)))
  refine wpAny_bind (wpAny_dictEntries hoa hda ?_)
  dsimp only
  refine wpAny_bind (wpAny_dictEntries hob hdb ?_)
  by_cases hsz : ea.size = eb.size
  case neg =>
    rw [if_pos (by simpa using hsz)]
    rw [decide_eq_false (by omega)] at h
    exact wpAny_bind (wpAny_rule (wpAny_pure h))
  case pos =>
    have e0 : ea.size = 0 := by omega
    rw [decide_eq_true e0] at h
    rw [if_neg (by rw [hsz]; simp)]
    refine wpAny_bind (wpAny_dictEpoch hoa hda ?_)
    refine wpAny_bind ?_
    rw [Std.Legacy.Range.forIn_eq_forIn_range']
    simp only [Std.Legacy.Range.size, Nat.sub_zero, Nat.add_sub_cancel, Nat.div_one]
    refine wpAny_forIn_list _ (fun rest q s' => s' = s ∧ q = (none, ()) ∧ rest = []) _ ?_ ?_ _ _ ⟨rfl, rfl, by rw [e0]; rfl⟩
    · rintro x rest q s' ⟨rfl, rfl, hr⟩
      exact nomatch hr
    · rintro q s' ⟨rfl, rfl, _⟩
      exact wpAny_pure h
theorem eq_empD {a b : Addr} {ea eb : Array DictEntry} {epa epb : Nat} {Q : Value → Shared → Prop} (ha : (a == sysModules) = false) (hb : (b == sysModules) = false)
    (da : s.heap.DictRaw a ea epa) (db : s.heap.DictRaw b eb epb) (h0 : eb.size = 0) (hu : A.units < cLine) (h : Q (.bool (decide (ea.size = 0))) s) :
    wpAny (model prog w) A (compareOp .Eq (.ref a) (.ref b)) Q E s := by
  refine wpAny_richCompare_same_room (op := .Eq) da.typeIs db.typeIs PySem.F.slot_dict_eq (wpAny_call_entry PySem.F.slot_dict_eq da.typeIs PySem.F.entry_dict_eq ?_ (PySem.F.args_dict_eq_2 _ _)) hu
  show wpAny _ _ (Builtin.Dict.dictSlotArgs "__eq__" ⟨[.ref a, .ref b], []⟩ >>= _) _ _ s
  refine wpAny_bind ?_
  unfold Builtin.Dict.dictSlotArgs
  refine wpAny_bind (wpAny_notOrdered_dict da.typeIs ?_)
  show wpAny _ _ (pure (Value.ref a, Value.ref b)) _ _ s
  refine wpAny_pure ?_
  refine wpAny_bind (wpAny_isInstance (T := "dict") db.typeIs PySem.F.sub_dict_dict ?_)
  simp only [Bool.not_true, Bool.false_eq_true, if_false]
  refine wpAny_bind (wpAny_pure (wpAny_bind (wpAny_pure ?_)))
  refine wpAny_bind (samePairs0 ha hb da db h0 ?_)
  refine wpAny_pure ⟨_, rfl, ?_, ?_⟩
  · exact fun x => nomatch x
  · simpa using h
theorem disp1H {K : Type} [DecidableEq K] {knd : HeapKind prog w K} {env : Env} {k v : Expr} {pos : Pos} {Q : Value → Shared → Prop} (hu : knd.room A)
    (h : wpAny (model prog w) A (eval k env) (fun kv s₁ => wpAny (model prog w) A (eval v env) (fun vv s₂ => ∃ (q : K) (a : Addr), kv = .ref a ∧ knd.is s₂.heap q a ∧ s₂.heap.DictOfH knd s.heap.objs.size [] ∧
      ∀ h', h'.DictOfH knd s.heap.objs.size [(q, a, vv)] → Heap.SameBut s.heap.objs.size s₂.heap h' → ∀ tk, Q (.ref s.heap.objs.size) { s₂ with heap := h', toks := tk }) E s₁) E
      { s with heap := s.heap.push { cls := .type "dict", data := .dict #[] } }) :
    wpAny (model prog w) A (eval (.Dict [some k] [v] pos) env) Q E s := by
  have hsh : (evalEachOpt [some k] env).zip ((evalEach [v] env).map fun v => do let x ← v; standAt pos; pure x) = [(eval k env, (do let x ← eval v env; standAt pos; pure x))].map fun p => (some p.1, p.2) := rfl
  rw [arm_eval_Dict, hsh, dictDisplay_pairs _ (by simp) (by simp)]
  refine wpAny_bind (wpAny_standAt (wpAny_bind ?_))
  unfold subDict
  refine wpAny_bind (wpAny_alloc ?_)
  refine wpAny_bind (wpAny_holding ?_)
  rw [if_pos (by simp)]
  refine wpAny_bind (evalPairs_cons (wpAny_mono h (fun kv s₁ h₁ => wpAny_bind (wpAny_mono h₁ (fun vv s₂ h₂ => wpAny_bind (wpAny_standAt (wpAny_pure (evalPairs_nil ?_)))) fun _ _ e => e)) fun _ _ e => e))
  obtain ⟨q, a, rfl, hk, hm, hq⟩ := h₂
  refine wpAny_holding ?_
  refine wpAny_bind ?_
  rw [List.forIn_cons]
  refine wpAny_bind (wpAny_bind (wpAny_dictSet_heap (hsz := by rw [sizeLine_eq]; exact Nat.zero_le _) hu hk hm fun h₁ hm₁ hs₁ => wpAny_pure ?_))
  show wpAny _ _ (forIn [] _ _) _ _ _
  rw [List.forIn_nil]
  exact wpAny_pure (wpAny_pure (wpAny_pure (wpAny_pure (hq h₁ hm₁ hs₁ _))))
end
section
variable {X : Cx} {tg e k v : Expr} {td tk tv : TE} {apos cpos pos : Pos}
def iKeysMT (td : TE) : TI := fun σ H R => td σ H fun x H1 => ∃ d o kvs, x = .ref d ∧ H1 d = some (.frz o (.dT kvs)) ∧ R (Itkt d o kvs) H1
theorem pi_keysMT (he : PE X e td) (hbase : attributeBase e "keys" X.env (eval e X.env) = eval e X.env := by rfl) (hline : (apos.endLine == cpos.line) = true := by rfl) : PI X tg (.Call (.Attribute e "keys" apos) [] [] cpos) (iKeysMT td) := by
  refine ⟨fun pins s σ H R I h => ?_⟩
  refine wpAny_Call_method (T := "dict") (id := "dict.keys") hbase rfl hline F.plainAttrs_dict F.slot_dict_keys F.type_dict_keys (thn (he.run pins s σ H _ I h) fun u s1 ⟨x, H1, I1, rx, d, o, kvs, ex, hd, q⟩ => ?_)
  subst ex
  obtain rfl : u = Value.ref d := rx
  obtain ⟨hs, hgd, hx, es, ep, hdt, hsz, ent⟩ := I1.frzT hd
  have hm : s1.heap.DictRaw d es ep := ⟨o, hgd, hx, hdt⟩
  refine ⟨hm.typeIs, fun b eb => by cases eb; exact ⟨o, hgd, hx.2.1⟩, ?_⟩
  have I2 : Inv X pins σ H1 { s1 with heap := s1.heap.push { cls := .type "dict_keys", data := .fields #[.ref d] } } := I1.kept (t' := s1.toks) fun b ob q => Heap.get?_push_of_some _ q
  have fin : wpAny (model X.prog X.w) X.A (pyIter (.ref s1.heap.objs.size)) (PIE X pins σ tg R) X.xe { s1 with heap := s1.heap.push { cls := .type "dict_keys", data := .fields #[.ref d] } } := by
    refine wpAny_pyIter_keys_raw (d := d) ⟨_, Heap.get?_push_size _ rfl, rfl, rfl⟩ (hm.push _) (pi_one (tk := s1.toks) I2 _ (turn_keysT _ hdt) ⟨_, Heap.get?_push_size _ rfl, rfl, ?_⟩ q)
    rw [hsz] <;> rfl
  show wpAny _ _ (callWith cpos (.builtin "dict.keys") [.ref d] [] []) _ X.xe s1
  exact method_meetsIn F.slot_dict_keys F.entry_dict_keys rfl (PySem.evalArgs_none ⟨rfl, hm.typeIs, F.args_dict_keys_1 _, _, meets_dict_keys_raw d hs, ⟨_, _, hm⟩, fin⟩)
theorem pi_keysD (he : PE X e td) : PI X tg e (iKeysMT td) := by
  refine ⟨fun pins s σ H R I h => ?_⟩
  refine thn (he.run pins s σ H _ I h) fun u s1 ⟨x, H1, I1, rx, d, o, kvs, ex, hd, q⟩ => ?_
  subst ex
  obtain rfl : u = Value.ref d := rx
  obtain ⟨hs, hgd, hx, es, ep, hdt, hsz, ent⟩ := I1.frzT hd
  refine iter_keys hs hgd hx hdt (pi_one (tk := s1.toks) I1 _ (turn_keysT _ hdt) ⟨_, Heap.get?_push_size _ rfl, rfl, ?_⟩ q)
  rw [hsz] <;> rfl
theorem pi_keysDK (he : PE X e td) : PI X tg e (iKeysM td) := by
  refine ⟨fun pins s σ H R I h => ?_⟩
  refine thn (he.run pins s σ H _ I h) fun u s1 ⟨x, H1, I1, rx, d, o, kvs, ex, hd, q⟩ => ?_
  subst ex
  obtain rfl : u = Value.ref d := rx
  obtain ⟨hs, hgd, hx, es, ep, vs, hdt, hsz, kv, hm⟩ := I1.frzK hd
  refine iter_keys hs hgd hx hdt (pi_one (tk := s1.toks) I1 _ (turn_keys _ hdt) ⟨_, Heap.get?_push_size _ rfl, rfl, ?_⟩ q)
  rw [hsz] <;> rfl
def tDispT (tk tv : TE) : TE := fun σ H Q => ∀ p, H p = none → tk σ (upd H p (.dT [])) fun x H1 => tv σ H1 fun y H2 => H2 p = some (.dT []) ∧ ∃ (ks : List L2.Key) (b : Addr), x = .ref b ∧ H2 b = some (.tup (ks.map kV)) ∧ Q (.ref p) (upd H2 p (.dT [(ks, y)]))
theorem pe_dispT (hu : X.A.units + 1 < cLine) (hk : PE X k tk) (hv : PE X v tv) : PE X (.Dict [some k] [v] pos) (tDispT tk tv) := by
  refine ⟨fun pins s σ H Q I h => ?_⟩
  have hn := I.hok.fresh (Nat.le_refl s.heap.objs.size)
  have I1 := I.laid (a := s.heap.objs.size) (o := .dT []) (h' := s.heap.push { cls := .type "dict", data := .dict #[] }) (t' := s.toks) (fun _ _ q => Heap.get?_push_of_some _ q) (Nat.le_refl _) (dt_empty s.heap I.big)
  refine disp1H (knd := tupleKind (mixKind X.prog X.w)) (show X.A.units < cLine by omega) (thn (hk.run pins _ σ _ _ I1 (h _ hn)) fun kv s1 ⟨x, H1, I2, rx, q1⟩ => thn (hv.run pins s1 σ H1 _ I2 q1) fun vv s2 ⟨y, H2, I3, ry, e, ks, b, ex, eb, q2⟩ => ?_)
  subst ex
  cases rx
  obtain ⟨z, hd, xs, rel, dd⟩ := dt_of I3.hok e
  cases rel
  refine ⟨ks, b, rfl, key_of I3.hok eb, dd, fun h' dd' hs tk => ⟨.ref s.heap.objs.size, _, ?_, rfl, q2⟩⟩
  obtain ⟨q, es, ep, hq, h2, h3, h4, _, h5⟩ := dd'
  refine d_write I3 (by rw [e]; exact True.intro) hs ⟨q, hq⟩ ⟨by rw [sizeLine_eq]; exact Nat.le_of_ble_eq_true rfl, hd, _, Paired.cons ⟨rfl, ?_, ry⟩ .nil, q, es, ep, hq, h2, h3, h4, h5⟩
  rw [upd_ne (ne_of eb e (fun z => nomatch z))]
  exact eb
def rEqEmp : R2 := fun x y H Q => ∃ a b kvs, x = .ref a ∧ y = .ref b ∧ Rd H a (.dT kvs) ∧ H b = some (.dT []) ∧ Q (.bl kvs.isEmpty) H
theorem op_eq_emp (hu : X.A.units < cLine) : OpR X (compareOp .Eq) rEqEmp := by
  intro pins s σ H x y v u Q I rx ry h
  obtain ⟨a, b, kvs, rfl, rfl, ea, eb, q⟩ := h
  obtain rfl : v = Value.ref a := rx
  obtain rfl : u = Value.ref b := ry
  obtain ⟨_, ya, xa, ra, oa, esa, epa, ha1, ha2, ha3, ha4, _⟩ := dt_rd I.hok ea
  obtain ⟨_, yb, xb, rb, ob, esb, epb, hb1, hb2, hb3, hb4, _⟩ := dt_of I.hok eb
  have la : esa.size = kvs.length := by
    have l1 : esa.size = xa.length := size_of_entries ha4
    have l2 : kvs.length = xa.length := Paired.length ra
    omega
  cases rb
  have lb : esb.size = 0 := size_of_entries hb4
  refine eq_empD ya yb ⟨oa, ha1, ha2, ha3⟩ ⟨ob, hb1, hb2, hb3⟩ lb hu (fin_bl I q ?_)
  rw [la]
  cases kvs <;> rfl
def keysO (p d : Addr) : HO := .ext fun h => PySem.W.KdlKeysView h p d
theorem keysO_ok {P : Program} {w : World} {H : Hp} {h : Heap} {p d : Addr} (e : h.get? p = some { cls := .type "dict_keys", data := .fields #[.ref d] }) : ObjOk P w H h p (keysO p d) :=
  ⟨⟨_, e, rfl, rfl⟩, ⟨_, e⟩, fun h1 h2 x k => let ⟨o, ho, r⟩ := x; ⟨o, k o ho, r⟩⟩
def rKeysT : V → List V → Hp → VK → Prop := fun x xs H Q => ∃ (a : Addr) (kvs : List (List L2.Key × V)), x = .ref a ∧ xs = [] ∧ H a = some (.dT kvs) ∧ ∀ p, H p = none → Q (.ref p) (upd H p (keysO p a))
theorem mt_keysT : MtR X "dict.keys" rKeysT := by
  intro pins s σ H x xs v us Q I rx rxs h
  obtain ⟨a, kvs, rfl, rfl, ha, q⟩ := h
  cases rx
  cases rxs
  obtain ⟨z, hd, xs', rel, o, es, ep, ho, hx, hdat, _⟩ := dt_of I.hok ha
  have hm : s.heap.DictRaw a es ep := ⟨o, ho, hx, hdat⟩
  refine call_meetsIn PySem.F.slot_dict_keys hm.typeIs PySem.F.entry_dict_keys (PySem.F.args_dict_keys_1 _) (meets_dict_keys_raw a hd) ⟨⟨_, _, hm⟩, ?_⟩
  have hf : H s.heap.objs.size = none := I.hok.fresh (Nat.le_refl _)
  exact ⟨.ref s.heap.objs.size, upd H s.heap.objs.size (keysO s.heap.objs.size a), I.laid (t' := s.toks) (fun b u e => Heap.get?_push_of_some _ e) (Nat.le_refl _) (keysO_ok (Heap.get?_push_size _ rfl)), rfl, q _ hf⟩
def rSortKT : List V → Hp → VK → Prop := fun vs H Q => ∃ (p a : Addr) (kvs : List (List L2.Key × V)) (k : V → List Int), vs = [V.ref p] ∧ H p = some (keysO p a) ∧ Rd H a (.dT kvs) ∧ (∀ (q : Addr) x, x ∈ kvs → H q = some (.tup (x.1.map kV)) → x.1.map kV = (k (.ref q)).map V.int ∧ k (.ref q) ≠ []) ∧
  ∀ bs ys p, IsKeys H kvs bs → ys.Pairwise (fun x y => HT.lexLt (k y) (k x) = false) → ys.Perm (bs.map V.ref) → H p = none → Q (.ref p) (upd H p (.lst ys))
theorem isKeys_mem {H : Hp} {kvs : List (List L2.Key × V)} {bs : List Addr} (r : IsKeys H kvs bs) : ∀ b ∈ bs, ∃ x ∈ kvs, H b = some (.tup (x.1.map kV)) := by
  unfold IsKeys at r
  induction r with
  | nil => intro b hb; cases hb
  | cons h t ih =>
    intro b hb
    rcases List.mem_cons.mp hb with e | hb
    · subst e
      exact ⟨_, List.mem_cons_self, h⟩
    · obtain ⟨x, hx, e⟩ := ih b hb
      exact ⟨x, List.mem_cons_of_mem _ hx, e⟩
theorem cr_sortKT (hcalm : X.calm = true) : CallR X (.builtin "sorted") rSortKT := by
  intro pins s σ H vs us Q I r h
  obtain ⟨p, a, kvs, k, rfl, hp, hd, hk, q⟩ := h
  obtain ⟨u, rfl, ru⟩ := vals1 r
  obtain rfl : u = Value.ref p := ru
  obtain ⟨z, lo, ks, pr, o, es, ep, ho, hx, hdt, he, hn⟩ := (show ObjOk X.prog X.w H s.heap a (.dT kvs) from hd.ok I.hok)
  have hv : PySem.W.KdlKeysView s.heap p a := (I.hok p _ hp).1
  have l1 : es.size = ks.length := size_of_entries he
  have l2 : kvs.length = ks.length := Paired.length pr
  have hr : s.heap.DictRaw a es ep := ⟨o, ho, hx, hdt⟩
  refine Calls.call_function_entry kind_sorted plain_sorted entry_sorted (args_sorted1 _) ?_
  unfold Builtin.«sorted»
  refine wpAny_bind (m := checkCount "sorted" 1 1 _) (wpAny_pure ?_)
  refine wpAny_bind (PySem.W.kdu_collect (A := X.A.in1) (KdlSrc.rawKeys (r := p) (d := a) (es := es) (ep := ep)) (I.ok.hd hcalm) ⟨hv, hr⟩ (by omega) fun h' tk acc kp hacc => ?_)
  have hl : acc.toList.length = ks.length := by rw [Array.length_toList, hacc.1]; exact l1
  have ea : acc.toList = (ks.map fun x => x.2.1).map Value.ref := by
    apply List.ext_getElem?
    intro j
    rw [List.getElem?_map, List.getElem?_map]
    cases hj : acc.toList[j]? with
    | none =>
      have h1 := List.getElem?_eq_none_iff.mp hj
      rw [List.getElem?_eq_none (by omega)]
      rfl
    | some v =>
      obtain ⟨hi, hv⟩ := hacc.2 j v (by rw [← Array.getElem?_toList]; exact hj)
      have qe := entry_at he j
      rw [Array.getElem?_eq_getElem hi] at qe
      cases hb : ks[j]? with
      | none =>
        rw [hb] at qe
        exact nomatch (show some es[j] = none from qe)
      | some b =>
        rw [hb] at qe
        have e2 : es[j] = entryOfKey (tupleKind (mixKind X.prog X.w)) b := Option.some.inj qe
        rw [hv, e2]
        rfl
  have I1 : Inv X pins σ H { s with heap := h', toks := tk } := I.kept kp
  refine wpAny_bind (wpAny_newList ?_ (by omega))
  have hoL : (h'.push (seqObj "list" acc.toList.toArray 0)).get? h'.objs.size = some (seqObj "list" acc.toList.toArray 0) := Heap.get?_push_size _ rfl
  have ik : IsKeys H kvs (ks.map fun x => x.2.1) := isKeys_of pr
  have I2 : Inv X pins σ H { s with heap := h'.push (seqObj "list" acc.toList.toArray 0), toks := tk } := I1.kept fun b ob e => Heap.get?_push_of_some _ e
  have e2 : ∀ v ∈ acc.toList, ∃ t, v = Value.ref t := fun v hv => by
    rw [ea] at hv
    obtain ⟨t, _, rfl⟩ := List.mem_map.mp hv
    exact ⟨t, rfl⟩
  have hti : ∀ v ∈ acc.toList, IsTI (h'.push (seqObj "list" acc.toList.toArray 0)) v (k (backV v)) := fun v hv => by
    rw [ea] at hv
    obtain ⟨t, ht, rfl⟩ := List.mem_map.mp hv
    obtain ⟨x, hx, e⟩ := isKeys_mem ik t ht
    obtain ⟨g1, g2⟩ := hk t x hx e
    rw [g1] at e
    obtain ⟨_, its2, r2, o2, ho2, hc2, n2, hd2⟩ := I2.hok _ _ e
    exact ⟨t, o2, _, n2, rfl, ho2, hc2, hd2, r2.ints, g2⟩
  show wpAny _ _ _ _ _ { s with heap := h'.push (seqObj "list" acc.toList.toArray 0), toks := tk }
  refine wpAny_bind (wpAny_holding (wpAny_call_entry slot_list_sort ⟨_, hoL, rfl⟩ entry_list_sort
    (SrtO.list_sort_ord (NtL.swo_lexL fun u => k (backV u)) (s := { s with heap := h'.push (seqObj "list" acc.toList.toArray 0), toks := tk }) hoL (by omega) (fun h2 => sortableTI (s := { s with heap := h'.push (seqObj "list" acc.toList.toArray 0), toks := tk }) (by omega) hti fun o e => ?_) fun out hs hb => ⟨_, rfl, ?_⟩)
    (args_list_sort _)))
  · have e' : some o = some (seqObj "list" acc.toList.toArray 0) := e.symm.trans hoL
    cases e'
    intro c
    exact absurd (Value.type.inj c) (by decide)
  · obtain ⟨e', he'⟩ := PyProof.Rows.sortedHeap_at (vs := acc.toList) (out := out.toArray) hoL
    have hperm : out.Perm acc.toList := hb.perm
    have h3 : ∀ u ∈ out, ∃ a, u = Value.ref a := fun u hu => e2 u (hperm.mem_iff.mp hu)
    have hbk : (out.map backV).Perm ((ks.map fun x => x.2.1).map V.ref) := by
      have z := hperm.map backV
      rw [ea, List.map_map] at z
      exact z
    refine wpAny_pure ⟨_, rfl, .ref h'.objs.size, upd H h'.objs.size (.lst (out.map backV)), I1.laid (t' := tk) (fun b u e => ?_) (Nat.le_refl _) ⟨?_, out, e', vals_back h3, he'⟩, rfl, q _ _ _ ik (List.pairwise_map.mpr hs) hbk (I1.hok.fresh (Nat.le_refl _))⟩
    · have hb : b < h'.objs.size := Heap.lt_size e
      rw [PyProof.Rows.sortedHeap_old (Nat.ne_of_lt hb) (by rw [size_push']; exact Nat.lt_succ_of_lt hb)]
      exact Heap.get?_push_of_some _ e
    · rw [hbk.length_eq, List.length_map, List.length_map]
      omega
end
end Pyx

namespace Pyx
open PySem PySem.Spec PyProof.Rows L2
abbrev setN (w : World) : Obj := { cls := .type "set", dict := none, data := .set #[] 0 (.fresh 0 0 (!w.params.followText "set-order")) }
section
variable {P : Program} {w : World} {A : Around} {E : Value → Shared → Prop} {s : Shared}
theorem call_set_lstI {l : Addr} {items : Array Value} (ns : List Int) {Q : Value → Shared → Prop} (hh : A.handled = none) (hl : s.heap.IsList l items) (hit : IntsAre items.toList ns) (hb : ns.length + 1 < scanBound)
    (h : ∀ (h' : Heap) (tk n : Nat), SetR w h' s.heap.objs.size (fun j => decide (j ∈ ns)) n → n ≤ ns.length → (∀ b o, s.heap.get? b = some o → h'.get? b = some o) → Q (.ref s.heap.objs.size) { s with heap := h', toks := tk }) : wpAny (model P w) A (call (.type "set") [.ref l]) Q E s := by
  have z0 : items.size = ns.length := by
    have q := IntsAre.length hit
    rw [← q, Array.length_toList]
  have m0 := F.called_set.mro
  obtain ⟨c0, r0, m1⟩ := m0
  have m2 := F.called_set.made
  have m3 := F.called_set.sub
  have m4 := F.called_set.notType
  have m5 := F.called_set.canCreate
  have m6 := F.typeCall_set_1 (.ref l)
  have nS : (s.heap.push (setN w)).get? s.heap.objs.size = some (setN w) := Heap.get?_push_size _ rfl
  have nT : Shared.TypeIs { s with heap := s.heap.push (setN w) } (.ref s.heap.objs.size) "set" := ⟨_, nS, rfl⟩
  have zI : (s.heap.push (setN w)).objs.size = s.heap.objs.size + 1 := Heap.size_push ..
  -- what stands behind __init__
  let R2 : Value → Shared → Prop := fun r t => r = .none ∧ ∃ (h' : Heap) (tk n : Nat), t = { s with heap := h', toks := tk } ∧ SetR w h' s.heap.objs.size (fun j => decide (j ∈ ns)) n ∧ n ≤ ns.length ∧ ∀ b o, s.heap.get? b = some o → h'.get? b = some o
  have body : ∀ A2 : Around, A2.handled = none → codeAny (model P w) A2 (.call (.builtin "set.__init__") ⟨[.ref s.heap.objs.size, .ref l], []⟩) (wants R2 E) { s with heap := s.heap.push (setN w) } := fun A2 hh2 => by
    refine codeAny_call_builtin F.called_set.init.plain F.entry_set_init (check_set_init_1 nT ?_)
    obtain ⟨⟨xc, xd, xa, xs⟩, g1, g2, gn, g3⟩ := hl
    simp only at g2 g3; subst g2; subst g3
    have f1 := F.sub_list_set
    have f2 := F.sub_list_frozenset
    have f3 : (Value.type "list" == Value.type "dict") = false := by decide
    have g4 : (s.heap.push (setN w)).get? l = some { cls := .type "list", dict := xd, data := .seq items gn, slots := xs } := Heap.get?_push_of_some _ g1
    have g5 : (s.heap.push (setN w)).IsList l items := ⟨_, g4, rfl, gn, rfl⟩
    unfold Builtin.«set.__init__» noKeywords Builtin.Frozenset.updateFrom; generalize hp : pyIter = PI; wp_walk; subst hp
    refine wpAny_pyIter_list g5 (wpAny_bind (wpAny_runValue ?_))
    have k1 : l < s.heap.objs.size := Heap.lt_size g1
    have k2 : l ≠ (s.heap.push (setN w)).objs.size := by rw [zI]; exact Nat.ne_of_lt (Nat.lt_succ_of_lt k1)
    have k3 : s.heap.objs.size ∉ [(s.heap.push (setN w)).objs.size, l] := by
      rw [zI]; intro q
      rcases List.mem_cons.mp q with q | q
      · exact absurd q (Nat.ne_of_lt (Nat.lt_succ_self _))
      · exact absurd (List.mem_singleton.mp q) (Nat.ne_of_gt k1)
    have k4 : ∀ (i : Nat) (v : Value), items[i]? = some v → ∃ k t, ns[i]? = some k ∧ v = .int k t := fun i v hv => by
      have hi : i < ns.length := z0 ▸ (Array.getElem?_eq_some_iff.mp hv).1
      obtain ⟨t, e⟩ := PyProof.Rows.IntsAre.int_at hit i v (Array.getElem?_toList ▸ hv)
      rw [List.getD_eq_getElem?_getD, List.getElem?_eq_getElem hi] at e
      exact ⟨ns[i], t, List.getElem?_eq_getElem hi, e⟩
    have k5 : A2.in1.handled = none := by simp [hh2]
    refine set_update_ints ((Walks.list (by first | exact k5 | simp [hh2]) _ l k2 items).toS) s.heap.objs.size k3 ns z0 hb k4 (items.size - 0) 0 _ (by omega) (Nat.zero_le _) ⟨⟨_, Heap.get?_push_size _ rfl, rfl, rfl⟩, g5.push _⟩ ⟨0, Nat.le_refl 0, setR_new_at (Heap.get?_push_of_some _ nS)⟩ ?_
    rintro ⟨h', gg, dd, tk, oo⟩ n1 mv le1 st
    have e1 : gg = s.gens := mv.gens
    have e2 : dd = s.drawn := mv.drawn
    have e3 : oo = s.os := mv.os
    subst e1 e2 e3
    show wpAny _ _ _ _ _ _
    refine wpAny_pure (show wpAny _ _ (ret Value.none) _ _ _ from wpAny_pure ⟨rfl, h', tk, n1, rfl, st, z0 ▸ le1, fun b o q => ?_⟩)
    have b1 : b < s.heap.objs.size := Heap.lt_size q
    refine mv.heap b o (fun hm => ?_) (Heap.get?_push_of_some _ (Heap.get?_push_of_some _ q))
    rcases List.mem_cons.mp hm with z | z
    · exact absurd z (Nat.ne_of_lt b1)
    · have z := List.mem_singleton.mp z
      rw [zI] at z
      exact absurd z (Nat.ne_of_lt (Nat.lt_succ_of_lt b1))
  have i1 := F.called_set.init.lookup
  have i2 := F.called_set.init.bind (.ref s.heap.objs.size)
  refine wpAny_call (codeAny_of_tree (show wpAny _ _ (callAny (.type "set") _) _ _ _ from ?_))
  refine wpAny_pure ⟨Code.quiet_builtin _ (by decide +kernel), codeAny_builtin F.entry_type_call ?_⟩; rw [Around.under_plain (weight_type_call_type "set" [.ref l] []) rfl]
  repeat (any_goals (first | assumption | wp_step))
  refine codeAny_mono (code_set_led1 (.ref l) (E := E) (Q₁ := fun u t => u = .ref s.heap.objs.size ∧ t = { s with heap := s.heap.push (setN w) }) ⟨rfl, rfl⟩) fun r t hr => ?_
  rcases r with e | fl
  · exact hr
  · cases fl with
    | ret u =>
      obtain ⟨rfl, rfl⟩ := hr
      repeat (any_goals (first | assumption | wp_step))
      refine codeAny_mono (body _ (by simp [hh])) fun r' t' hr' => ?_
      rcases r' with e | fl'
      · exact hr'
      · cases fl' with
        | ret u' =>
          obtain ⟨rfl, h', tk, n1, rfl, q1, q2, q3⟩ := hr'
          repeat (any_goals (first | assumption | wp_step))
          exact h _ _ _ q1 q2 q3
        | _ => exact hr'.elim
    | _ => exact hr.elim
end
end Pyx

namespace PySem
open PyProof.Rows
section
variable {prog : Program} {w : World} {A : Around} {E : Value → Shared → Prop} {s : Shared} {l : Addr} {its : List Value} {ns : List Int} {xs : Array (Int × Tok)}
theorem iter_intTup {Q : Value → Shared → Prop} (hl : s.heap.IsTuple l (intItems xs))
    (h : ∀ s₂ : Shared, s₂ = { s with heap := s.heap.push { cls := .type "tuple_iterator", data := .fields #[.ref l, .int 0 0] } } →
      (s₂.heap.IsTupleIter s.heap.objs.size l 0 ∧ s₂.heap.IsTuple l (intItems xs)) → (∀ b ∈ [s.heap.objs.size, l], b < s₂.heap.objs.size) → l ≠ s.heap.objs.size → Q (.ref s.heap.objs.size) s₂) :
    wpAny (model prog w) A (pyIter (.ref l)) Q E s := by
  have hlt : l < s.heap.objs.size := by obtain ⟨_, e, _⟩ := hl; exact Heap.lt_size e
  refine wpAny_pyIter_tuple hl (h _ rfl ⟨⟨_, Heap.get?_push_size _ rfl, rfl, rfl⟩, hl.push _⟩ (fun b hb => ?_) (Nat.ne_of_lt hlt))
  show b < (s.heap.push _).objs.size
  rw [Heap.size_push]
  rcases List.mem_cons.mp hb with rfl | hb
  · exact Nat.lt_succ_self _
  · rcases List.mem_cons.mp hb with rfl | hb
    · exact Nat.lt_succ_of_lt hlt
    · cases hb
theorem old_keptT {h' : Heap} (hk : ∀ b o, b ∉ [s.heap.objs.size] → (s.heap.push { cls := .type "tuple_iterator", data := .fields #[.ref l, .int 0 0] }).get? b = some o → h'.get? b = some o) :
    ∀ b o, s.heap.get? b = some o → h'.get? b = some o := fun b o e => by
  refine hk b o (fun hm => ?_) (Heap.get?_push_of_some _ e)
  rcases List.mem_cons.mp hm with e1 | hm
  · exact absurd (Heap.lt_size e) (by rw [e1]; exact Nat.lt_irrefl _)
  · cases hm
theorem sum_tup {Q : Value → Shared → Prop} (hh : A.handled = none) (hl : s.heap.IsTuple l its.toArray) (hi : IntsAre its ns)
    (h : ∀ h' tk t', (∀ b o, s.heap.get? b = some o → h'.get? b = some o) → Q (.int ns.sum t') { s with heap := h', toks := tk }) : wpAny (model prog w) A (call (.builtin "sum") [.ref l]) Q E s := by
  obtain ⟨xs, e⟩ := hi.allInts.items
  have hn : numsOf (intItems xs).toList = ns := by rw [← e]; exact hi.numsOf
  rw [nums_intItems] at hn
  rw [e] at hl
  refine call_sum_walkG (iter_intTup hl fun s₂ e st hfp hlI => ?_)
  subst e
  refine ⟨_, _, _, _, _, _, numAt xs, rfl, Walks.tuple (A := A.in1) hh _ l hlI (intItems xs), st, hfp, (fun _ _ => intItems_at), fun h' tk t' hk => ?_⟩
  have := h h' tk t' (old_keptT hk)
  rw [show (intItems xs).size = xs.size by simp [intItems], preSum_eq, List.take_of_length_le (by simp), hn]
  exact this
theorem collect_tup {vs : List Value} {Q : List Value → Shared → Prop} (hl : s.heap.IsTuple l vs.toArray)
    (h : Q vs { s with heap := (s.heap.push (seqObj "list" #[] 0)).update s.heap.objs.size (Obj.mapSeq (· ++ vs.toArray)) }) (hsz : vs.length ≤ sizeLine) :
    wpAny (model prog w) A (collect (.ref l)) Q E s := by
  obtain ⟨o, ho, hc, n, hd⟩ := id hl
  unfold collect
  refine wpAny_bind (wpAny_runValue (codeAny_builtin entry_proto_collect' ?_))
  show wpAny _ _ (do again (.builtin "list.__iadd__" ⟨[← newList [], .ref l], []⟩)) _ _ s
  refine wpAny_bind (wpAny_newList (wpAny_pure ⟨Code.quiet_builtin _ (by decide +kernel), codeAny_builtin entry_list_iadd' ?_⟩))
  show wpAny _ _ (Builtin.List.listExtendWith (.ref s.heap.objs.size) (.ref l) (.ref s.heap.objs.size)) _ _ { s with heap := s.heap.push (seqObj "list" #[] 0) }
  unfold Builtin.List.listExtendWith
  have ho' : (s.heap.push (seqObj "list" #[] 0)).get? l = some o := Heap.get?_push_of_some _ ho
  refine wpAny_bind (wpAny_typeOf (T := "tuple") ⟨o, ho', hc⟩ ?_)
  have ht : (Value.type "tuple" == Value.type "tuple") = true := by rfl
  rw [if_pos (by rw [ht, Bool.or_true])]
  refine wpAny_bind (listItems_at ho' hd ?_)
  refine wpAny_bind (listItems_at (xs := #[]) (n := 0) (Heap.get?_push_size _ rfl) rfl ?_)
  rw [if_neg (by simp)]
  refine wpAny_bind (listUpdate_at (xs := #[]) (n := 0) (Heap.get?_push_size _ rfl) rfl ?_ (Nat.zero_le _) (by show (#[] ++ vs.toArray).size ≤ sizeLine + 1; simp only [Array.size_append, List.size_toArray, List.length_nil]; omega))
  refine wpAny_pure ?_
  show wpAny (model prog w) A (do
      let o ← load s.heap.objs.size
      match o.data with
      | .seq xs _ => pure xs.toList
      | _ => unsupported "internal:collect") Q E { s with heap := (s.heap.push (seqObj "list" #[] 0)).update s.heap.objs.size (Obj.mapSeq (· ++ vs.toArray)) }
  refine wpAny_bind (wpAny_load (get?_update_seq (Heap.get?_push_size _ rfl) _) ?_)
  show wpAny _ _ (pure ((#[] : Array Value) ++ vs.toArray).toList) Q E _
  rw [show ((#[] : Array Value) ++ vs.toArray).toList = vs by simp]
  exact wpAny_pure h
end
end PySem
namespace SrtO
open PySem PySem.Spec PyProof.Rows
section
variable {prog : Program} {w : World} {A : Around} {E : Value → Shared → Prop} {s : Shared}
theorem sorted_ordT {l : Addr} {vs : List Value} {ltv : Value → Value → Bool} {Q : Value → Shared → Prop} (O : Swo ltv) (hl : s.heap.IsTuple l vs.toArray) (hz : vs.length ≤ sizeLine)
    (hS : 2 ≤ vs.length → ∀ (h₁ : Heap) (a : Addr), h₁.get? a = some (seqObj "list" vs.toArray 0) → (∀ b o, s.heap.get? b = some o → b ≠ a ∧ h₁.get? b = some o) → SortableO prog w A.in1.in1 { s with heap := h₁ } a vs ltv)
    (h : ∀ out : List Value, Srtd ltv out → Stb ltv out vs → Q (.ref (s.heap.objs.size + 1)) { s with heap := sortedAll s.heap vs out.toArray }) :
    wpAny (model prog w) A (call (.builtin "sorted") [.ref l]) Q E s := by
  refine Calls.call_function_entry kind_sorted plain_sorted entry_sorted (args_sorted1 _) ?_
  unfold Builtin.«sorted»
  refine wpAny_bind (m := checkCount "sorted" 1 1 _) (wpAny_pure ?_)
  refine wpAny_bind (collect_tup hl ?_ hz)
  refine wpAny_bind (wpAny_newList ?_ hz)
  have hsz : ((s.heap.push (seqObj "list" #[] 0)).update s.heap.objs.size (Obj.mapSeq (· ++ vs.toArray))).objs.size = s.heap.objs.size + 1 := by
    rw [Heap.size_update, size_push']
  have hoL : (((s.heap.push (seqObj "list" #[] 0)).update s.heap.objs.size (Obj.mapSeq (· ++ vs.toArray))).push (seqObj "list" vs.toArray 0)).get? (s.heap.objs.size + 1) = some (seqObj "list" vs.toArray 0) := by
    rw [← hsz]; exact Heap.get?_push_size _ rfl
  have keep : ∀ b o, s.heap.get? b = some o → b ≠ s.heap.objs.size + 1 ∧ (((s.heap.push (seqObj "list" #[] 0)).update s.heap.objs.size (Obj.mapSeq (· ++ vs.toArray))).push (seqObj "list" vs.toArray 0)).get? b = some o := fun b o q => by
    have hlt : b < s.heap.objs.size := Heap.lt_size q
    refine ⟨Nat.ne_of_lt (Nat.lt_succ_of_lt hlt), Heap.get?_push_of_some _ ?_⟩
    rw [Heap.get?_update_ne _ _ _ _ (Nat.ne_of_lt hlt)]
    exact Heap.get?_push_of_some _ q
  show wpAny _ _ _ _ _ { s with heap := ((s.heap.push (seqObj "list" #[] 0)).update s.heap.objs.size (Obj.mapSeq (· ++ vs.toArray))).push (seqObj "list" vs.toArray 0) }
  rw [hsz]
  refine wpAny_bind (wpAny_holding (wpAny_call_entry slot_list_sort ⟨_, hoL, rfl⟩ entry_list_sort (list_sort_ord O hoL hz (fun h2 => hS h2 _ _ hoL keep) fun out hs hb => ⟨_, rfl, ?_⟩) (args_list_sort _)))
  exact wpAny_pure ⟨_, rfl, h out hs hb⟩
end
end SrtO
namespace Pyx
open PySem PySem.Spec PyProof.Rows L2
def rSumT (K : PySem.W.Frag) : List V → Hp → VK → Prop := fun vs H Q => ∃ (a : Addr) (ns : List Int), vs = [V.ref a] ∧ SqT K H a (ns.map V.int) ∧ Q (.int ns.sum) H
def rSortedIT (K : PySem.W.Frag) : List V → Hp → VK → Prop := fun vs H Q => ∃ (a : Addr) (ns : List Int), vs = [V.ref a] ∧ SqT K H a (ns.map V.int) ∧
  ∀ (ns' : List Int) (p : Addr), ns'.Perm ns → ns'.Pairwise (· ≤ ·) → H p = none → Q (.ref p) (upd H p (.lst (ns'.map V.int)))
section
variable {X : Cx}
theorem cr_sumT (hc : X.calm = true) : CallR X (.builtin "sum") (rSumT X.K) := by
  intro pins s σ H vs us Q I r h
  obtain ⟨a, ns, rfl, hs, q⟩ := h
  obtain ⟨its, rv, hl, _⟩ := I.tuple hs
  rw [Vals.ref1 r]
  exact sum_tup (I.ok.hd hc) hl rv.ints fun h' tk t' hk => ⟨.int _, H, I.kept hk, ⟨_, rfl⟩, q⟩
theorem cr_sortedIT : CallR X (.builtin "sorted") (rSortedIT X.K) := by
  intro pins s σ H vs us Q I r h
  obtain ⟨a, ns, rfl, hs, q⟩ := h
  obtain ⟨its, rv, hl, hz⟩ := I.tuple hs
  rw [Vals.ref1 r]
  have hi := rv.ints
  refine SrtO.sorted_ordT SrtO.swo_int hl (by rw [← rv.length]; exact hz) (fun h2 h₁ a' _ _ => SrtO.ints_sortable hi h2) fun out h1 h2 => ?_
  obtain ⟨k1, k2, k3⟩ := SrtO.ints_out hi h1 h2
  obtain ⟨ep, he'⟩ := PyProof.Rows.sortedAll_at s.heap its out.toArray
  have hlen : ((out.map SrtO.iv).map V.int).length ≤ sizeLine := by
    rw [List.length_map, k2.length_eq]
    rw [List.length_map] at hz
    exact hz
  exact ⟨.ref _, upd H (s.heap.objs.size + 1) (.lst ((out.map SrtO.iv).map V.int)), I.laid (t' := s.toks) (fun _ _ => PyProof.Rows.sortedAll_old) (Nat.le_succ _) ⟨hlen, out, ep, vals_of_ints k1, he'⟩, rfl, q _ _ k2 k3 (I.hok.fresh (Nat.le_succ _))⟩
end
end Pyx

namespace Pyx
open PySem PySem.Spec PyProof.Rows L2
theorem sumI_eq : ∀ is : List Int, sumI is = is.sum
  | [] => rfl
  | i :: is => by
    rw [List.sum_cons, ← sumI_eq is]
    rfl
theorem maxI_is : ∀ (is : List Int) (m : Int), maxI m is ∈ m :: is ∧ ∀ y ∈ m :: is, y ≤ maxI m is
  | [], m => ⟨List.mem_cons_self, fun y hy => by
      rcases List.mem_cons.mp hy with e | e
      · rw [e]; exact Int.le_refl _
      · cases e⟩
  | x :: is, m => by
    unfold maxI
    split
    · rename_i e
      have e := of_decide_eq_true e
      obtain ⟨h1, h2⟩ := maxI_is is x
      refine ⟨List.mem_cons_of_mem _ h1, fun y hy => ?_⟩
      rcases List.mem_cons.mp hy with e2 | e2
      · rw [e2]; exact Int.le_trans e (h2 x List.mem_cons_self)
      · exact h2 y e2
    · rename_i e
      have e := of_decide_eq_false e
      obtain ⟨h1, h2⟩ := maxI_is is m
      refine ⟨?_, fun y hy => ?_⟩
      · rcases List.mem_cons.mp h1 with e2 | e2
        · rw [e2]; exact List.mem_cons_self
        · exact List.mem_cons_of_mem _ (List.mem_cons_of_mem _ e2)
      · rcases List.mem_cons.mp hy with e2 | e2
        · rw [e2]; exact h2 m List.mem_cons_self
        · rcases List.mem_cons.mp e2 with e3 | e3
          · rw [e3]; exact Int.le_trans (by omega) (h2 m List.mem_cons_self)
          · exact h2 y (List.mem_cons_of_mem _ e3)
theorem minI_is : ∀ (is : List Int) (m : Int), minI m is ∈ m :: is ∧ ∀ y ∈ m :: is, minI m is ≤ y
  | [], m => ⟨List.mem_cons_self, fun y hy => by
      rcases List.mem_cons.mp hy with e | e
      · rw [e]; exact Int.le_refl _
      · cases e⟩
  | x :: is, m => by
    unfold minI
    split
    · rename_i e
      have e := of_decide_eq_true e
      obtain ⟨h1, h2⟩ := minI_is is x
      refine ⟨List.mem_cons_of_mem _ h1, fun y hy => ?_⟩
      rcases List.mem_cons.mp hy with e2 | e2
      · rw [e2]; exact Int.le_trans (h2 x List.mem_cons_self) e
      · exact h2 y e2
    · rename_i e
      have e := of_decide_eq_false e
      obtain ⟨h1, h2⟩ := minI_is is m
      refine ⟨?_, fun y hy => ?_⟩
      · rcases List.mem_cons.mp h1 with e2 | e2
        · rw [e2]; exact List.mem_cons_self
        · exact List.mem_cons_of_mem _ (List.mem_cons_of_mem _ e2)
      · rcases List.mem_cons.mp hy with e2 | e2
        · rw [e2]; exact h2 m List.mem_cons_self
        · rcases List.mem_cons.mp e2 with e3 | e3
          · rw [e3]; exact Int.le_trans (h2 m List.mem_cons_self) (by omega)
          · exact h2 y (List.mem_cons_of_mem _ e3)
theorem insI_perm (x : Int) : ∀ l : List Int, (insI x l).Perm (x :: l)
  | [] => .refl _
  | y :: r => by
    unfold insI
    split
    · exact .refl _
    · exact ((insI_perm x r).cons y).trans (.swap x y r)
theorem insI_mem {x z : Int} {l : List Int} (h : z ∈ insI x l) : z = x ∨ z ∈ l := by
  have q := (insI_perm x l).mem_iff.mp h
  exact List.mem_cons.mp q
theorem insI_srt (x : Int) : ∀ l : List Int, l.Pairwise (· ≤ ·) → (insI x l).Pairwise (· ≤ ·)
  | [], _ => List.pairwise_cons.mpr ⟨fun _ h => (nomatch h), .nil⟩
  | y :: r, h => by
    obtain ⟨h1, h2⟩ := List.pairwise_cons.mp h
    unfold insI
    split
    · rename_i e
      have e := of_decide_eq_true e
      refine List.pairwise_cons.mpr ⟨fun z hz => ?_, h⟩
      rcases List.mem_cons.mp hz with e2 | e2
      · rw [e2]; exact e
      · exact Int.le_trans e (h1 z e2)
    · rename_i e
      have e := of_decide_eq_false e
      refine List.pairwise_cons.mpr ⟨fun z hz => ?_, insI_srt x r h2⟩
      rcases insI_mem hz with e2 | e2
      · rw [e2]; omega
      · exact h1 z e2
theorem sortI_perm : ∀ l : List Int, (sortI l).Perm l
  | [] => .refl _
  | x :: r => (insI_perm x (sortI r)).trans ((sortI_perm r).cons x)
theorem sortI_srt : ∀ l : List Int, (sortI l).Pairwise (· ≤ ·)
  | [] => .nil
  | x :: r => insI_srt x (sortI r) (sortI_srt r)
theorem insT_perm (x : List Int) : ∀ l : List (List Int), (insT x l).Perm (x :: l)
  | [] => .refl _
  | y :: r => by
    unfold insT
    split
    · exact ((insT_perm x r).cons y).trans (.swap x y r)
    · exact .refl _
theorem insT_srt (x : List Int) : ∀ l : List (List Int), l.Pairwise (fun a b => HT.lexLt b a = false) → (insT x l).Pairwise (fun a b => HT.lexLt b a = false)
  | [], _ => List.pairwise_cons.mpr ⟨fun _ h => (nomatch h), .nil⟩
  | y :: r, h => by
    obtain ⟨h1, h2⟩ := List.pairwise_cons.mp h
    unfold insT
    split
    · rename_i e
      refine List.pairwise_cons.mpr ⟨fun z hz => ?_, insT_srt x r h2⟩
      rcases List.mem_cons.mp ((insT_perm x r).mem_iff.mp hz) with e2 | e2
      · rw [e2]; exact NtL.lex_asym _ _ e
      · exact h1 z e2
    · rename_i e
      refine List.pairwise_cons.mpr ⟨fun z hz => ?_, h⟩
      rcases List.mem_cons.mp hz with e2 | e2
      · rw [e2]; exact e
      · exact NtL.lex_tr _ _ _ e (h1 z e2)
theorem sortT_perm : ∀ l : List (List Int), (sortT l).Perm l
  | [] => .refl _
  | x :: r => (insT_perm x (sortT r)).trans ((sortT_perm r).cons x)
theorem sortT_srt : ∀ l : List (List Int), (sortT l).Pairwise (fun a b => HT.lexLt b a = false)
  | [] => .nil
  | x :: r => insT_srt x (sortT r) (sortT_srt r)
theorem lex_eq : ∀ xs ys : List Int, HT.lexLt xs ys = false → HT.lexLt ys xs = false → xs = ys
  | [], [], _, _ => rfl
  | [], y :: ys, h, _ => by rw [HT.lexLt_nil_cons] at h; cases h
  | x :: xs, [], _, h => by rw [HT.lexLt_nil_cons] at h; cases h
  | x :: xs, y :: ys, h, h' => by
    rw [HT.lexLt_cons] at h h'
    by_cases e : x = y
    · subst e
      rw [if_pos rfl] at h h'
      rw [lex_eq xs ys h h']
    · rw [if_neg e] at h
      rw [if_neg (fun z => e z.symm)] at h'
      have h := of_decide_eq_false h
      have h' := of_decide_eq_false h'
      omega
theorem srtT_same : ∀ {l m : List (List Int)}, l.Perm m → l.Pairwise (fun a b => HT.lexLt b a = false) → m.Pairwise (fun a b => HT.lexLt b a = false) → l = m
  | [], m, h, _, _ => (List.Perm.eq_nil h.symm).symm
  | x :: l, [], h, _, _ => absurd h.length_eq (by simp)
  | x :: l, y :: m, h, hl, hm => by
    obtain ⟨a1, a2⟩ := List.pairwise_cons.mp hl
    obtain ⟨b1, b2⟩ := List.pairwise_cons.mp hm
    have e : x = y := by
      rcases List.mem_cons.mp (h.mem_iff.mp (List.mem_cons_self (a := x) (l := l))) with e | hx
      · exact e
      · rcases List.mem_cons.mp (h.mem_iff.mpr (List.mem_cons_self (a := y) (l := m))) with e | hy
        · exact e.symm
        · exact lex_eq x y (b1 x hx) (a1 y hy)
    subst e
    rw [srtT_same h.cons_inv a2 b2]
def intsV : List V → List Int
  | [] => []
  | .int i :: r => i :: intsV r
  | _ :: r => intsV r
theorem intsV_map : ∀ is : List Int, intsV (is.map V.int) = is
  | [] => rfl
  | i :: is => congrArg (i :: ·) (intsV_map is)
def kOf (H : Hp) : V → List Int
  | .ref t => match H t with
    | some (.tup us) => intsV us
    | _ => []
  | _ => []
theorem tupsP_vals {c : Rc} {f : Nat → Addr} {h : PH} {H : Hp} : ∀ {xs : List PV} {vs : List V} {ts : List (List Int)}, RVs c f h.n H xs vs → tupsP xs = some ts →
    (∀ v ∈ vs, ∃ t, v = V.ref t ∧ H t = some (.tup ((kOf H v).map V.int)) ∧ kOf H v ≠ []) ∧ vs.map (kOf H) = ts
  | [], [], ts, .nil, e => by
    cases e
    exact ⟨fun v hv => (nomatch hv), rfl⟩
  | .tup us :: xs, v :: vs, ts, .cons r t, e => by
    unfold tupsP at e
    split at e
    · rename_i i is q
      split at e
      · rename_i ts' q'
        cases e
        obtain ⟨h1, h2⟩ := tupsP_vals t q'
        cases r with
        | tup g1 g2 =>
          rename_i a ws
          obtain ⟨e1, _⟩ := intsP_vals g2 q
          rw [e1] at g1
          have ek : kOf H (.ref a) = i :: is := by
            unfold kOf
            simp only [g1]
            exact intsV_map (i :: is)
          refine ⟨fun v hv => ?_, by rw [List.map_cons, ek, h2]⟩
          rcases List.mem_cons.mp hv with e2 | hv
          · rw [e2, ek]
            exact ⟨a, rfl, g1, by intro z; cases z⟩
          · exact h1 v hv
      · cases e
    · cases e
  | .non :: _, _, _, _, e => by cases e
  | .bl _ :: _, _, _, _, e => by cases e
  | .int _ :: _, _, _, _, e => by cases e
  | .str _ :: _, _, _, _, e => by cases e
  | .ref _ :: _, _, _, _, e => by cases e
  | .fn _ :: _, _, _, _, e => by cases e
theorem rvs_intV {c : Rc} {f : Nat → Addr} {n : Nat} {H : Hp} : ∀ is : List Int, RVs c f n H (is.map PV.int) (is.map V.int)
  | [] => .nil
  | i :: is => .cons (.int i) (rvs_intV is)
theorem rvs_tups {c : Rc} {f : Nat → Addr} {n : Nat} {H : Hp} : ∀ {ys : List V}, (∀ v ∈ ys, ∃ t, v = V.ref t ∧ H t = some (.tup ((kOf H v).map V.int)) ∧ kOf H v ≠ []) → RVs c f n H ((ys.map (kOf H)).map tupI) ys
  | [], _ => .nil
  | v :: ys, h => by
    obtain ⟨t, e, h1, _⟩ := h v List.mem_cons_self
    refine .cons ?_ (rvs_tups fun u hu => h u (List.mem_cons_of_mem _ hu))
    unfold tupI
    generalize kOf H v = is at h1 ⊢
    subst e
    exact .tup h1 (rvs_intV is)
section
variable {c : Rc} {f : Nat → Addr} {h : PH} {H : Hp}
theorem tupsOfL_at {x : PV} {v : V} {ts : List (List Int)} (r : Rel c f h H) (rv : RV c f h.n H x v) (e : tupsOfL x h = some ts) : ∃ a vs, v = .ref a ∧ SqL c.K H a vs ∧
    (∀ v ∈ vs, ∃ t, v = V.ref t ∧ H t = some (.tup ((kOf H v).map V.int)) ∧ kOf H v ≠ []) ∧ vs.map (kOf H) = ts := by
  unfold tupsOfL at e
  split at e
  · rename_i xs q
    obtain ⟨a, vs, rfl, h1, h2⟩ := seqL_at r rv q
    obtain ⟨g1, g2⟩ := tupsP_vals h2 e
    exact ⟨a, vs, rfl, h1, g1, g2⟩
  · cases e
theorem intsOfL_at {x : PV} {v : V} {is : List Int} (r : Rel c f h H) (rv : RV c f h.n H x v) (e : intsOfL x h = some is) : ∃ a, v = .ref a ∧ SqL c.K H a (is.map V.int) := by
  unfold intsOfL at e
  split at e
  · rename_i xs q
    obtain ⟨a, vs, rfl, h1, h2⟩ := seqL_at r rv q
    obtain ⟨e1, _⟩ := intsP_vals h2 e
    rw [e1] at h1
    exact ⟨a, rfl, h1⟩
  · cases e
theorem intsOf_at {x : PV} {v : V} {is : List Int} (r : Rel c f h H) (rv : RV c f h.n H x v) (e : intsOf x h = some is) : ∃ a, v = .ref a ∧ (SqL c.K H a (is.map V.int) ∨ SqT c.K H a (is.map V.int)) := by
  unfold intsOf at e
  split at e
  · rename_i xs q
    obtain ⟨a, vs, rfl, h1, h2⟩ := seqOf_at r rv q
    obtain ⟨e1, _⟩ := intsP_vals h2 e
    rw [e1] at h1
    exact ⟨a, rfl, h1⟩
  · cases e
theorem setOf_at {x : PV} {v : V} {is : List Int} (r : Rel c f h H) (rv : RV c f h.n H x v) (e : setOf x h = some is) : ∃ a S m, v = .ref a ∧ H a = some (SetO c.w a S m) ∧ (∀ j, S j = true ↔ j ∈ is) ∧ m = is.length ∧ is.Nodup := by
  unfold setOf at e
  split at e
  · cases rv with
    | ref hi =>
      split at e
      · rename_i xs q
        cases e
        cases r.obj _ _ q with
        | set h1 h2 h3 h4 => exact ⟨_, _, _, rfl, h1, h2, h3, h4⟩
      · cases e
  · cases e
theorem dedI_mem {j : Int} : ∀ {l : List Int}, j ∈ dedI l ↔ j ∈ l
  | [] => Iff.rfl
  | x :: r => by
    unfold dedI
    split
    · rename_i e
      have e : x ∈ r := List.mem_of_elem_eq_true e
      rw [dedI_mem]
      refine ⟨fun q => List.mem_cons_of_mem _ q, fun q => ?_⟩
      rcases List.mem_cons.mp q with z | z
      · rw [z]; exact e
      · exact z
    · rw [List.mem_cons, List.mem_cons, dedI_mem]
theorem dedI_nodup : ∀ l : List Int, (dedI l).Nodup
  | [] => List.nodup_nil
  | x :: r => by
    unfold dedI
    split
    · exact dedI_nodup r
    · rename_i e
      refine List.nodup_cons.mpr ⟨fun q => ?_, dedI_nodup r⟩
      have q := List.elem_eq_true_of_mem (dedI_mem.mp q)
      have e : r.elem x = false := e
      rw [q] at e
      cases e
theorem setR_count {w : World} {hh : Heap} {a : Addr} {S : Int → Bool} {m : Nat} {xs : List Int} (R0 : SetR w hh a S m) (nd : xs.Nodup) (hm : ∀ j, S j = true ↔ j ∈ xs) : m = xs.length := by
  obtain ⟨o, es, ep, t, _, _, _, _, h1, h2, _, _, h3, _⟩ := R0
  have q := (List.perm_ext_iff_of_nodup h1 nd).mpr fun j => by rw [← h2, hm]
  have q2 := q.length_eq
  rw [List.length_map, Array.length_toList] at q2
  omega
def tyS : Ty → String
  | .int => "int"
  | .bool => "bool"
  | .str => "str"
  | .tuple => "tuple"
  | .list => "list"
def tyP (x : PV) (h : PH) : String := match x with
  | .non => "NoneType"
  | .bl _ => "bool"
  | .int _ => "int"
  | .str _ => "str"
  | .tup _ => "tuple"
  | .ref i => match h.get i with
    | some (.dK _) => "dict"
    | some (.dT _) => "dict"
    | _ => "list"
  | .fn _ => "list"
theorem isTy_at {x : PV} {v : V} {t : Ty} {k : Bool} (r : Rel c f h H) (rv : RV c f h.n H x v) (e : isTy x h t = some k) : TyX c.K H v (.type (tyP x h)) ∧ kitB (tyP x h) (tyS t) = some k := by
  unfold isTy at e
  split at e
  · cases rv; exact ⟨.base .non, by show kitB "NoneType" _ = _; cases e; cases t <;> decide +kernel⟩
  · cases rv; exact ⟨.base (.bl _), by show kitB "bool" _ = _; cases t <;> cases e <;> decide +kernel⟩
  · cases rv; exact ⟨.base (.int _), by show kitB "int" _ = _; cases t <;> cases e <;> decide +kernel⟩
  · cases rv; exact ⟨.base (.str _), by show kitB "str" _ = _; cases t <;> cases e <;> decide +kernel⟩
  · cases rv with
    | tup h1 h2 => exact ⟨.base (.tup h1), by show kitB "tuple" _ = _; cases t <;> cases e <;> decide +kernel⟩
  · rename_i i
    cases rv with
    | ref hi =>
      unfold tyP
      dsimp only
      split at e
      · rename_i xs q
        rw [q]
        cases r.obj _ _ q with
        | lst h1 h2 => exact ⟨.base (.lst h1), by show kitB "list" _ = _; cases t <;> cases e <;> decide +kernel⟩
      · rename_i xs q
        rw [q]
        cases r.obj _ _ q with
        | fz h1 h2 =>
          rcases h1 with ⟨o, h1⟩ | ⟨o, its, n, h1, h3, _⟩ | ⟨_, h1⟩
          · exact ⟨.base (.frz h1), by show kitB "list" _ = _; cases t <;> cases e <;> decide +kernel⟩
          · exact ⟨.kList h1 h3, by show kitB "list" _ = _; cases t <;> cases e <;> decide +kernel⟩
          · exact ⟨.base (.lst h1), by show kitB "list" _ = _; cases t <;> cases e <;> decide +kernel⟩
      · rename_i kvs q
        rw [q]
        cases r.obj _ _ q with
        | dK h1 _ _ => exact ⟨.base (.dK h1), by show kitB "dict" _ = _; cases e; cases t <;> decide +kernel⟩
      · rename_i kvs q
        rw [q]
        cases r.obj _ _ q with
        | dT h1 _ _ => exact ⟨.base (.dT h1), by show kitB "dict" _ = _; cases e; cases t <;> decide +kernel⟩
      · cases e
  · cases e
end
def biV : Bi → Value
  | .len => .builtin "len"
  | .min => .builtin "min"
  | .max => .builtin "max"
  | .sum => .builtin "sum"
  | .sorted => .builtin "sorted"
  | .abs => .builtin "abs"
  | .list => .type "list"
  | .tuple => .type "tuple"
  | .int => .type "int"
  | .set => .type "set"
  | .dict => .type "dict"
section
variable {X : Cx} {c : Rc}
theorem call_lenS : CallR X (.builtin "len") (fun xs H Q => ∃ a S m, xs = [V.ref a] ∧ H a = some (SetO X.w a S m) ∧ Q (.int (m : Nat)) H) := by
  intro pins t τ G ys us R J rr hh
  obtain ⟨a, S, m, rfl, ha, q⟩ := hh
  obtain ⟨u, rfl, ru⟩ := vals1 rr
  cases ru
  obtain ⟨⟨o, es, ep, tb, hO, hX, hdt, _, _, _, hsc, hft, hn, _⟩, _⟩ := J.hok a _ ha
  have hb : es.size < 2 ^ 62 := by
    have z := hsc
    unfold scanBound at z
    omega
  refine PySem.call_len_set hO hX hdt hft (by omega) ⟨.int (m : Nat), G, J.tok _, ⟨_, by rw [hn]⟩, q⟩
theorem call_bi (hK : X.K = c.K) (hW : X.w = c.w) (hc : X.calm = true) (b : Bi) : CallR X (biV b) (rBi c b) := by
  intro pins s σ H vs us Q I rvs ⟨f, h, ps, r, rs, p⟩
  unfold biP at p
  split at p
  · -- len
    cases rs with
    | cons r1 rn =>
      cases rn
      split at p
      · rename_i xs e
        obtain ⟨a, ws, rfl, hs, rv⟩ := seqOf_at r r1 e
        rw [← hK] at hs
        refine call_len pins s σ H _ us Q I rvs ⟨_, ws.length, rfl, ?_, ?_⟩
        · rcases hs with hs | hs
          · exact .inl ⟨ws, hs, rfl⟩
          · exact .inr ⟨ws, hs, rfl⟩
        · rw [← rv.length]
          exact p _ _ .refl r _ (.int _)
      · split at p
        · rename_i n e
          unfold dLen at e
          split at e
          · cases r1 with
            | ref hi =>
              split at e
              · rename_i kvs g
                split at e
                · cases e
                  cases r.obj _ _ g with
                  | dK h1 h2 hn =>
                    refine call_lenD pins s σ H _ us Q I rvs ⟨_, _, rfl, h1, ?_⟩
                    rw [← h2.length]
                    exact p _ _ .refl r _ (.int _)
                · cases e
              · rename_i kvs g
                split at e
                · cases e
                  cases r.obj _ _ g with
                  | dT h1 h2 hn =>
                    refine call_len_dT pins s σ H _ us Q I rvs ⟨_, _, rfl, h1, ?_⟩
                    rw [← h2.length]
                    exact p _ _ .refl r _ (.int _)
                · cases e
              · cases e
          · cases e
        · split at p
          · rename_i is e
            obtain ⟨a, S, m, rfl, hs, _, em, _⟩ := setOf_at r r1 e
            rw [← hW] at hs
            refine call_lenS pins s σ H _ us Q I rvs ⟨_, _, _, rfl, hs, ?_⟩
            rw [em]
            exact p _ _ .refl r _ (.int _)
          · exact p.elim
  · -- abs
    cases rs with
    | cons r1 rn =>
      cases rn
      cases r1
      exact call_abs pins s σ H _ us Q I rvs ⟨_, rfl, p _ _ .refl r _ (.int _)⟩
  · cases rs with
    | cons r1 rn =>
      cases rn with
      | cons r2 rn =>
        cases rn
        cases r1; cases r2
        exact call_min2 hc pins s σ H _ us Q I rvs ⟨_, _, rfl, p _ _ .refl r _ (.int _)⟩
  · cases rs with
    | cons r1 rn =>
      cases rn with
      | cons r2 rn =>
        cases rn
        cases r1; cases r2
        exact call_max2 hc pins s σ H _ us Q I rvs ⟨_, _, rfl, p _ _ .refl r _ (.int _)⟩
  · -- min of a list
    cases rs with
    | cons r1 rn =>
      cases rn
      split at p
      · rename_i i is e
        obtain ⟨a, rfl, hs⟩ := intsOfL_at r r1 e
        rw [← hK] at hs
        refine cr_min hc pins s σ H _ us Q I rvs ⟨a, i :: is, rfl, hs, Nat.succ_pos _, fun m h1 h2 => ?_⟩
        obtain ⟨z1, z2⟩ := minI_is is i
        have e1 : m = minI i is := Int.le_antisymm (h2 _ z1) (z2 _ h1)
        rw [e1]
        exact p _ _ .refl r _ (.int _)
      · exact p.elim
  · cases rs with
    | cons r1 rn =>
      cases rn
      split at p
      · rename_i i is e
        obtain ⟨a, rfl, hs⟩ := intsOfL_at r r1 e
        rw [← hK] at hs
        refine cr_max hc pins s σ H _ us Q I rvs ⟨a, i :: is, rfl, hs, Nat.succ_pos _, fun m h1 h2 => ?_⟩
        obtain ⟨z1, z2⟩ := maxI_is is i
        have e1 : m = maxI i is := Int.le_antisymm (z2 _ h1) (h2 _ z1)
        rw [e1]
        exact p _ _ .refl r _ (.int _)
      · exact p.elim
  · -- sum
    cases rs with
    | cons r1 rn =>
      cases rn
      split at p
      · rename_i is e
        obtain ⟨a, rfl, hs⟩ := intsOf_at r r1 e
        rw [← hK] at hs
        have q := p _ _ .refl r _ (.int _)
        rw [sumI_eq] at q
        rcases hs with hs | hs
        · exact cr_sum hc pins s σ H _ us Q I rvs ⟨a, is, rfl, hs, q⟩
        · exact cr_sumT hc pins s σ H _ us Q I rvs ⟨a, is, rfl, hs, q⟩
      · exact p.elim
  · -- sorted
    cases rs with
    | cons r1 rn =>
      cases rn
      split at p
      · rename_i is e
        split at p
        · rename_i e64
          obtain ⟨z, k⟩ := okL_at r (rvs_ints _) p
          obtain ⟨a, S, m, rfl, h1, h2, h3, h4⟩ := setOf_at r r1 e
          rw [← hW] at h1
          refine cr_sortedSet hc pins s σ H _ us Q I rvs ⟨a, S, m, rfl, h1, by rw [h3]; exact Nat.le_of_ble_eq_true e64, fun ns q g1 g2 g3 g4 => ?_⟩
          have e1 : ns = sortI is := by
            refine PySem.W.ksm_same ?_ (g1.imp fun h => Int.le_of_lt h) (sortI_srt is)
            refine List.Perm.trans ?_ (sortI_perm is).symm
            refine (List.perm_ext_iff_of_nodup (g1.imp fun h => Int.ne_of_lt h) h4).mpr fun j => ?_
            rw [g2, h2]
          rw [e1]
          exact k q g4
        · exact p.elim
      · split at p
        · rename_i is e
          obtain ⟨a, rfl, hs⟩ := intsOf_at r r1 e
          rw [← hK] at hs
          obtain ⟨z, k⟩ := okL_at r (rvs_ints _) p
          have fin : ∀ (ns : List Int) (q : Addr), ns.Perm is → ns.Pairwise (· ≤ ·) → H q = none → Q (.ref q) (upd H q (.lst (ns.map V.int))) := fun ns q h1 h2 h3 => by
            have e1 : ns = sortI is := PySem.W.ksm_same (h1.trans (sortI_perm is).symm) h2 (sortI_srt is)
            rw [e1]
            exact k q h3
          rcases hs with hs | hs
          · exact cr_sortedI pins s σ H _ us Q I rvs ⟨a, is, rfl, hs, fin⟩
          · exact cr_sortedIT pins s σ H _ us Q I rvs ⟨a, is, rfl, hs, fin⟩
        · split at p
          · rename_i ts e
            obtain ⟨a, vs, rfl, hs, hk, ht⟩ := tupsOfL_at r r1 e
            rw [← hK] at hs
            refine cr_sortedTI pins s σ H _ us Q I rvs ⟨a, vs, kOf H, rfl, hs, hk, fun ys q h1 h2 h3 => ?_⟩
            have e1 : ys.map (kOf H) = sortT ts := by
              refine srtT_same ?_ (List.pairwise_map.mpr h1) (sortT_srt ts)
              rw [← ht]
              exact (h2.map _).trans (sortT_perm _).symm
            have rvs := rvs_tups (c := c) (f := f) (n := h.n) fun v hv => hk v (h2.mem_iff.mp hv)
            rw [e1] at rvs
            obtain ⟨z, k⟩ := okL_at r rvs p
            exact k q h3
          · exact p.elim
  · -- set
    cases rs with
    | cons r1 rn =>
      cases rn
      split at p
      · rename_i is e
        split at p
        · rename_i e60
          have h60 : is.length ≤ 60 := Nat.le_of_ble_eq_true e60
          obtain ⟨a, rfl, hs⟩ := intsOf_at r r1 e
          rw [← hK] at hs
          cases rvs with
          | cons rv rn =>
            cases rn
            cases rv
            have fin : ∀ (h' : Heap) (tk m : Nat), SetR X.w h' s.heap.objs.size (fun j => decide (j ∈ is)) m → (∀ b o, s.heap.get? b = some o → h'.get? b = some o) → EP X pins σ Q (.ref s.heap.objs.size) { s with heap := h', toks := tk } := fun h' tk m R0 k0 => by
              have fr := I.hok.fresh (Nat.le_refl s.heap.objs.size)
              have hm : m = (dedI is).length := setR_count R0 (dedI_nodup is) fun j => by rw [decide_eq_true_eq, dedI_mem]
              obtain ⟨r2, x2⟩ := r.lays (o := .set (dedI is)) (u := SetO c.w s.heap.objs.size (fun j => decide (j ∈ is)) m) fr (.set upd_same (fun j => by rw [decide_eq_true_eq, dedI_mem]) hm (dedI_nodup is))
              refine ⟨.ref s.heap.objs.size, _, I.laid (t' := tk) k0 (Nat.le_refl _) (setO_new R0), rfl, ?_⟩
              rw [hW]
              refine p _ _ x2 r2 _ ?_
              have z := RV.ref (c := c) (f := ext1 f h.n s.heap.objs.size) (n := h.n + 1) (H := upd H s.heap.objs.size (SetO c.w s.heap.objs.size (fun j => decide (j ∈ is)) m)) (Nat.lt_succ_self h.n)
              rw [ext1_at] at z
              exact z
            rcases hs with hs | hs
            · obtain ⟨its, rv, pl, hz⟩ := I.list hs
              exact call_set_lstI is (I.ok.hd hc) pl.isList rv.ints (by unfold scanBound; omega) fun h' tk m R0 _ k0 => fin h' tk m R0 k0
            · obtain ⟨its, rv, pl, hz⟩ := I.tuple hs
              exact call_set_tupI is (I.ok.hd hc) pl rv.ints (by unfold scanBound; omega) fun h' tk m R0 _ k0 => fin h' tk m R0 k0
        · exact p.elim
      · exact p.elim
  · -- list
    cases rs with
    | cons r1 rn =>
      cases rn
      split at p
      · rename_i xs e
        obtain ⟨a, ws, rfl, hs, rv⟩ := seqOf_at r r1 e
        rw [← hK] at hs
        obtain ⟨z, k⟩ := okL_at r rv p
        exact call_list_of pins s σ H _ us Q I rvs ⟨a, ws, rfl, hs, k⟩
      · exact p.elim
  · -- tuple
    cases rs with
    | cons r1 rn =>
      cases rn
      split at p
      · rename_i xs e
        obtain ⟨a, ws, rfl, hs, rv⟩ := seqOf_at2 r r1 e
        obtain ⟨z, k1, k2⟩ := okT_at r rv p
        rw [← hK] at hs
        refine call_tuple_of pins s σ H _ us Q I rvs ⟨a, ws, rfl, ?_⟩
        rcases hs with hs | ⟨_, hs⟩
        · exact .inl ⟨hs, k1⟩
        · exact .inr ⟨SqT.of hs, k2 _ hs⟩
      · exact p.elim
  · -- dict
    cases rs with
    | cons r1 rn =>
      cases rn
      split at p
      · rename_i i
        cases r1 with
        | ref hi =>
          split at p
          · rename_i kvs g
            cases r.obj _ _ g with
            | dK h1 h2 hn =>
              rename_i ws
              refine call_dictD pins s σ H _ us Q I rvs ⟨_, _, rfl, .inl h1, fun q hq => ?_⟩
              have sm : Same H (upd H q (.dK ws)) := same_upd hq
              have e : Ext f h.n H (ext1 f h.n q) (h.n + 1) (upd H q (.dK ws)) := ⟨Nat.le_succ _, fun i hi => ext1_lt hi, fun a ws q => sm a _ q, fun a qq q => sm a _ q, fun a o qq _ q => sm a _ q⟩
              obtain ⟨r2, x2⟩ := r.lays (o := .dK kvs) hq (.dK upd_same (h2.mono e) hn)
              have zz := RV.ref (c := c) (f := ext1 f h.n q) (n := h.n + 1) (H := upd H q (.dK ws)) (Nat.lt_succ_self h.n)
              rw [ext1_at] at zz
              exact p _ _ x2 r2 _ zz
          · exact p.elim
      · exact p.elim
  · cases rs with
    | cons r1 rn =>
      cases rn
      cases r1
      exact call_int1 pins s σ H _ us Q I rvs (.inl ⟨_, rfl, p _ _ .refl r _ (.int _)⟩)
  · cases rs with
    | cons r1 rn =>
      cases rn
      cases r1
      exact call_int1 pins s σ H _ us Q I rvs (.inr ⟨_, rfl, p _ _ .refl r _ (.int _)⟩)
  · exact p.elim
theorem mt_app : MtM X "list.append" (rMt c .append) := by
  intro pins s σ H x xs v us Q I rx rxs ⟨f, h, pv, ps, r, r1, rs, p⟩
  have p : Post c f h.n H (appP pv ps h) (VQ c Q) := p
  unfold appP at p
  split at p
  · cases rs with
    | cons r2 rn =>
      cases rn
      split at p
      · rename_i i ys e
        split at p
        · rename_i sm
          obtain ⟨vs, rfl, hg, h1, h2⟩ := lstAt_at r r1 e
          obtain ⟨r4, e4⟩ := r.write hg (h2.app (.cons r2 .nil))
          exact mt_append pins s σ H _ _ v us Q I rx rxs ⟨f i, vs, _, rfl, rfl, h1, by rw [← h2.length]; exact small_size sm, p _ _ e4 r4 _ .non⟩
        · exact p.elim
      · exact p.elim
  · exact p.elim
theorem mt_popP : MtM X "list.pop" (rMt c .pop) := by
  intro pins s σ H x xs v us Q I rx rxs ⟨f, h, pv, ps, r, r1, rs, p⟩
  have p : Post c f h.n H (popP pv ps h) (VQ c Q) := p
  unfold popP at p
  split at p
  · cases rs
    split at p
    · rename_i i ys e
      split at p
      · rename_i w ew
        obtain ⟨vs, rfl, hg, h1, h2⟩ := lstAt_at r r1 e
        obtain ⟨r4, e4⟩ := r.write hg h2.dropLast
        obtain ⟨y, ey, ry⟩ := h2.get _ _ ew
        exact mt_pop pins s σ H _ _ v us Q I rx rxs ⟨f i, vs, y, rfl, rfl, h1, by rw [← h2.length]; exact ey, p _ _ e4 r4 _ (ry.mono e4)⟩
      · exact p.elim
    · exact p.elim
  · exact p.elim
theorem mt_cnt (hK : X.K = c.K) : MtM X "list.count" (rMt c .count) := by
  intro pins s σ H x xs v us Q I rx rxs ⟨f, h, pv, ps, r, r1, rs, p⟩
  have p : Post c f h.n H (cntP pv ps h) (VQ c Q) := p
  unfold cntP at p
  split at p
  · cases rs with
    | cons r2 rn =>
      cases rn
      cases r2
      split at p
      · rename_i is e
        obtain ⟨a, rfl, hs⟩ := intsOfL_at r r1 e
        rw [← hK] at hs
        exact mt_lcount pins s σ H _ _ v us Q I rx rxs ⟨a, is, _, rfl, rfl, hs, p _ _ .refl r _ (.int _)⟩
      · exact p.elim
  · exact p.elim
theorem fdI_is {k : Int} : ∀ {is : List Int} {i j : Nat}, fdI k is i = some j → i ≤ j ∧ is[j - i]? = some k ∧ ∀ m, m < j - i → ∀ x, is[m]? = some x → (x == k) = false
  | [], _, _, h => by cases h
  | x :: r, i, j, h => by
    unfold fdI at h
    split at h
    · rename_i e
      cases h
      have e := of_decide_eq_true e
      subst e
      refine ⟨Nat.le_refl _, by rw [Nat.sub_self]; rfl, fun m hm => absurd hm (by omega)⟩
    · rename_i e
      obtain ⟨h1, h2, h3⟩ := fdI_is h
      refine ⟨Nat.le_of_succ_le h1, ?_, fun m hm y hy => ?_⟩
      · rw [show j - i = (j - (i + 1)) + 1 by omega, List.getElem?_cons_succ]
        exact h2
      · cases m with
        | zero =>
          rw [List.getElem?_cons_zero] at hy
          cases hy
          have z := of_decide_eq_false e
          exact beq_false_of_ne z
        | succ m =>
          rw [List.getElem?_cons_succ] at hy
          exact h3 m (by omega) y hy
theorem fdD_is {d : PyData} : ∀ {ds : List PyData} {i j : Nat}, fdD d ds i = some j → i ≤ j ∧ (∃ z, ds[j - i]? = some z ∧ PyData.eqv z d = true) ∧ ∀ (m : Nat) (z : PyData), m < j - i → ds[m]? = some z → PyData.eqv z d = false
  | [], _, _, h => by cases h
  | y :: r, i, j, h => by
    unfold fdD at h
    split at h
    · rename_i e
      cases h
      rw [Nat.sub_self]
      exact ⟨Nat.le_refl _, ⟨y, rfl, e⟩, fun m z hm => absurd hm (Nat.not_lt_zero _)⟩
    · rename_i e
      obtain ⟨h1, ⟨z, h2, h3⟩, h4⟩ := fdD_is h
      have ej : j - i = (j - (i + 1)) + 1 := by omega
      refine ⟨by omega, ⟨z, by rw [ej, List.getElem?_cons_succ]; exact h2, h3⟩, fun m z' hm hz => ?_⟩
      cases m with
      | zero =>
        rw [List.getElem?_cons_zero] at hz
        cases hz
        exact e
      | succ m =>
        rw [List.getElem?_cons_succ] at hz
        exact h4 m z' (by omega) hz
theorem mt_idx (hK : X.K = c.K) (hu : X.A.units + 65 < cLine) : MtM X "list.index" (rMt c .index) := by
  intro pins s σ H x xs v us Q I rx rxs ⟨f, h, pv, ps, r, r1, rs, p⟩
  have p : Post c f h.n H (idxP pv ps h) (VQ c Q) := p
  unfold idxP at p
  split at p
  · cases rs with
    | cons r2 rn =>
      cases rn
      cases r2
      split at p
      · rename_i is e
        obtain ⟨a, rfl, hs⟩ := intsOfL_at r r1 e
        rw [← hK] at hs
        split at p
        · rename_i j e2
          obtain ⟨_, h2, h3⟩ := fdI_is e2
          rw [Nat.sub_zero] at h2 h3
          have hz := congrArg (Option.map V.int) h2
          rw [← List.getElem?_map, Option.map_some] at hz
          refine mt_index pins s σ H _ _ v us Q I rx rxs ⟨a, _, _, j, _, rfl, rfl, hs, rfl, ?_, hz, beq_self_eq_true _, fun m z hm hz => ?_, p _ _ .refl r _ (.int _)⟩
          · rw [List.all_eq_true]
            intro z hz
            obtain ⟨i, _, rfl⟩ := List.mem_map.mp hz
            rfl
          · rw [List.getElem?_map] at hz
            cases e4 : is[m]? with
            | none => rw [e4] at hz; cases hz
            | some y =>
              rw [e4] at hz
              cases hz
              exact h3 m hm y e4
        · exact p.elim
      · exact p.elim
  · cases rs with
    | cons r2 rn =>
      cases rn
      split at p
      · rename_i d q1
        split at p
        · rename_i ds q2
          split at p
          · rename_i j e2
            obtain ⟨_, ⟨z, h2, h2'⟩, h3⟩ := fdD_is e2
            rw [Nat.sub_zero] at h2 h3
            obtain ⟨a1, a2⟩ := toDat_at r r2 q1
            obtain ⟨b1, b2⟩ := toDat_at r r1 q2
            rw [← hK] at a1 b1
            have ev : ∃ a, x = .ref a := by
              cases b1 with
              | lst _ _ => exact ⟨_, rfl⟩
            obtain ⟨a, rfl⟩ := ev
            exact mt_indexD hu pins s σ H _ _ v us Q I rx rxs ⟨a, _, d, ds, j, z, rfl, rfl, b1, a1, b2, a2, h2, h2', h3, p _ _ .refl r _ (.int _)⟩
          · exact p.elim
        · exact p.elim
      · exact p.elim
  · exact p.elim
end
end Pyx

namespace Pyx
open PySem PySem.Spec PyProof.Rows L2
def noStar : Expr → Bool
  | .Starred _ _ => false
  | _ => true
def noSlice : Expr → Bool
  | .Slice _ _ _ _ => false
  | _ => true
def noSet : Expr → Bool
  | .Set _ _ _ => false
  | _ => true
def noComp : Expr → Bool
  | .ListComp _ _ _ _ => false
  | .SetComp _ _ _ _ => false
  | .DictComp _ _ _ _ _ => false
  | _ => true
def noBase : Expr → Bool
  | .Call _ [] _ _ => false
  | _ => true
def plainT : Expr → Bool
  | .UnaryOp _ _ _ => false
  | .BoolOp _ _ _ => false
  | .IfExp _ _ _ _ => false
  | .Compare _ _ _ _ => false
  | _ => true
theorem star_of {e : Expr} (h : noStar e = true) (rest : List Expr) (env : Env) : starEach (e :: rest) env = (false, eval e env) :: starEach rest env := by
  cases e <;> first | rfl | (cases h; done)
theorem slice_of {e : Expr} (h : noSlice e = true) : PlainIx e := by
  intro o i
  cases e <;> first | rfl | (cases h; done)
theorem set_of {e : Expr} (h : noSet e = true) (env : Env) (x : Value) : foldedSetIterable e env x = pure x := by
  cases e <;> first | rfl | (cases h; done)
theorem mark_of {e : Expr} (h : noSet e = true) (op : CmpOp) : behindInMarks op e = false := by
  cases e <;> first | rfl | (cases h; done)
theorem comp_of {e : Expr} (h : noComp e = true) (t : Option Expr) (l : Nat) (env : Env) : swapsWith e t l env = pure false := by
  cases e <;> first | rfl | (cases h; done)
theorem base_of {e : Expr} (h : noBase e = true) (x : Str) (env : Env) (w : Sem Value) : attributeBase e x env w = w := by
  cases e with
  | Call f as ks p =>
    cases as with
    | nil => cases h
    | cons a as => cases f <;> rfl
  | _ => first | rfl | (cases h; done)
theorem plain_of {e : Expr} (h : plainT e = true) (env : Env) (whole : Sem Value) : isTrue e env whole = (do let v ← whole; standAt e.pos; holding [v] (truthy v)) := by
  cases e <;> first | rfl | (cases h; done)
section
variable {X : Cx} {c : Rc} {call : Nat → List PV → PH → R PV} {n : Nat} {rec : CE → PSt → PH → R PV} {a b d e : Expr} {ca cb cd ce : CE} {pos : Pos}
theorem pe_w {t t' : TE} (h : PE X e t) (k : ∀ σ H Q, t' σ H Q → t σ H Q) : PE X e t' := ⟨fun pins s σ H Q I q => h.run pins s σ H Q I (k σ H Q q)⟩
theorem pt_w {t t' : TT} (h : PT X e t) (k : ∀ σ H Q, t' σ H Q → t σ H Q) : PT X e t' := ⟨fun pins s σ H Q I q => h.run pins s σ H Q I (k σ H Q q)⟩
theorem pa_w {es : List Expr} {t t' : TA} (h : PA X es t) (k : ∀ σ H Q, t' σ H Q → t σ H Q) : PA X es t' := ⟨fun pos pins s σ H Q I q => h.run pos pins s σ H Q I (k σ H Q q)⟩
theorem s_stuck {ev : PSt → PH → R PV} (hs : ∀ st h, ev st h = .stuck) : PE X e (tE c ev) := ⟨fun pins s σ H Q I ⟨f, h, st, r, r', p⟩ => by rw [hs] at p; exact p.elim⟩
theorem s_var {i : Nat} {x : Str} (hN : X.N[i]? = some x) (hv : Vis X.env.scope x) (hd : (x == ("__debug__" : Str)) = false) (hcd : (x == ("__classdict__" : Str)) = false) : PE X (.Name x pos) (tE c (eVar rec i)) := by
  refine pe_w (pe_var hN hv hd hcd) fun σ H Q ⟨f, h, st, r, rs, p⟩ => ?_
  have p : Post c f h.n H (match st[i]? with | some (some v) => R.ok v h | _ => .stuck) (VQ c Q) := p
  split at p
  · rename_i v e
    obtain ⟨w, e1, r1⟩ := rs.2 _ _ e
    exact ⟨w, e1, p _ _ .refl r _ r1⟩
  · exact p.elim
theorem s_const {v : PV} {w : V} (hp : PE X e (tC w)) (hv : ∀ f n H, RV c f n H v w) : PE X e (tE c (eVal rec v)) := by
  refine pe_w hp fun σ H Q ⟨f, h, st, r, rs, p⟩ => ?_
  exact p _ _ .refl r _ (hv _ _ _)
theorem s_bin (hK : X.K = c.K) (op : Bop) (ha : PE X a (tE c (rec ca))) (hb : PE X b (tE c (rec cb))) : PE X (.BinOp a (opB op) b pos) (tE c (eBin rec op ca cb)) := by
  refine pe_w (pe_op (op_bin hK op) ha hb) fun σ H Q ⟨f, h, st, r, rs, p⟩ => ?_
  unfold eBin at p
  split at p
  · exact p.elim
  · rename_i v h1 e1
    refine tE_of e1 r rs fun f1 H1 x x1 r1 rs1 rv1 => ?_
    split at p
    · exact p.elim
    · rename_i w h2 e2
      exact tE_of e2 r1 rs1 fun f2 H2 y x2 r2 rs2 rv2 => ⟨f2, h2, v, w, r2, rv1.mono x2, rv2, (p.mono x1).mono x2⟩
theorem s_neg (ha : PE X a (tE c (rec ca))) : PE X (.UnaryOp .USub a pos) (tE c (eNeg rec ca)) := by
  refine pe_w (pe_un un_neg ha) fun σ H Q ⟨f, h, st, r, rs, p⟩ => ?_
  unfold eNeg at p
  split at p
  · rename_i i h1 e1
    refine tE_of e1 r rs fun f1 H1 x x1 r1 rs1 rv1 => ?_
    cases rv1
    exact ⟨_, rfl, p _ _ x1 r1 _ (.int _)⟩
  · exact p.elim
theorem s_cmp (hK : X.K = c.K) (hu : X.A.units + 65 < cLine) (op : Cop) (hm : behindInMarks (opC op) b = false) (ha : PE X a (tE c (rec ca))) (hb : PE X b (tE c (rec cb))) : PE X (.Compare a [opC op] [b] pos) (tE c (eCmp rec op ca cb)) := by
  refine pe_w (pe_cmpR (op_cmp hK hu op) ha hb hm) fun σ H Q ⟨f, h, st, r, rs, p⟩ => ?_
  unfold eCmp at p
  split at p
  · exact p.elim
  · rename_i v h1 e1
    refine tE_of e1 r rs fun f1 H1 x x1 r1 rs1 rv1 => ?_
    split at p
    · exact p.elim
    · rename_i w h2 e2
      refine tE_of e2 r1 rs1 fun f2 H2 y x2 r2 rs2 rv2 => ?_
      split at p
      · rename_i k e3
        exact ⟨f2, h2, v, w, k, r2, rv1.mono x2, rv2, e3, p _ _ (x1.trans x2) r2 _ (.bl _)⟩
      · exact p.elim
theorem s_chain (hK : X.K = c.K) (hu : X.A.units + 65 < cLine) (o1 o2 : Cop) (hm : lastMarks [opC o1, opC o2] [b, d] = false) (ha : PE X a (tE c (rec ca))) (hb : PE X b (tE c (rec cb))) (hd : PE X d (tE c (rec cd))) :
    PE X (.Compare a [opC o1, opC o2] [b, d] pos) (tE c (eChain rec o1 o2 ca cb cd)) := by
  refine pe_w (pe_chain (op_cmp hK hu o1) (op_cmp hK hu o2) ha hb hd hm) fun σ H Q ⟨f, h, st, r, rs, p⟩ => ?_
  unfold eChain at p
  split at p
  · exact p.elim
  · rename_i v h1 e1
    refine tE_of e1 r rs fun f1 H1 x x1 r1 rs1 rv1 => ?_
    split at p
    · exact p.elim
    · rename_i w h2 e2
      refine tE_of e2 r1 rs1 fun f2 H2 y x2 r2 rs2 rv2 => ?_
      split at p
      · rename_i e3
        refine ⟨f2, h2, v, w, true, r2, rv1.mono x2, rv2, e3, true, rfl, ?_⟩
        rw [if_pos rfl]
        split at p
        · exact p.elim
        · rename_i u h3 e4
          refine tE_of e4 r2 rs2 fun f3 H3 z x3 r3 rs3 rv3 => ?_
          split at p
          · rename_i k e5
            exact ⟨f3, h3, w, u, k, r3, rv2.mono x3, rv3, e5, p _ _ ((x1.trans x2).trans x3) r3 _ (.bl _)⟩
          · exact p.elim
      · rename_i e3
        refine ⟨f2, h2, v, w, false, r2, rv1.mono x2, rv2, e3, false, rfl, ?_⟩
        rw [if_neg Bool.false_ne_true]
        exact p _ _ (x1.trans x2) r2 _ (.bl _)
      · exact p.elim
theorem s_in (hK : X.K = c.K) (hu : X.A.units + 65 < cLine) (ng : Bool) (hm : behindInMarks (if ng then .NotIn else .In) b = false) (ha : PE X a (tE c (rec ca))) (hb : PE X b (tE c (rec cb))) : PE X (.Compare a [if ng then .NotIn else .In] [b] pos) (tE c (eIsin rec ng ca cb)) := by
  refine pe_w (pe_cmpR (op_inP hK hu ng) ha hb hm) fun σ H Q ⟨f, h, st, r, rs, p⟩ => ?_
  unfold eIsin at p
  split at p
  · exact p.elim
  · rename_i v h1 e1
    refine tE_of e1 r rs fun f1 H1 x x1 r1 rs1 rv1 => ?_
    split at p
    · exact p.elim
    · rename_i w h2 e2
      refine tE_of e2 r1 rs1 fun f2 H2 y x2 r2 rs2 rv2 => ?_
      split at p
      · rename_i k e3
        exact ⟨f2, h2, v, w, k, r2, rv1.mono x2, rv2, e3, p _ _ (x1.trans x2) r2 _ (.bl _)⟩
      · exact p.elim
theorem s_and (ha : PE X a (tE c (rec ca))) {rest : List Expr} (hb : PE X (.BoolOp .And (b :: rest) pos) (tE c (rec cb))) : PE X (.BoolOp .And (a :: b :: rest) pos) (tE c (eAnd rec ca cb)) := by
  refine pe_w (pe_and ha hb) fun σ H Q ⟨f, h, st, r, rs, p⟩ => ?_
  unfold eAnd at p
  split at p
  · rename_i h1 e1
    refine tE_of e1 r rs fun f1 H1 x x1 r1 rs1 rv1 => ?_
    cases rv1
    refine ⟨_, rfl, ?_⟩
    rw [if_pos rfl]
    exact ⟨f1, h1, st, r1, rs1, p.mono x1⟩
  · rename_i h1 e1
    refine tE_of e1 r rs fun f1 H1 x x1 r1 rs1 rv1 => ?_
    cases rv1
    refine ⟨_, rfl, ?_⟩
    rw [if_neg Bool.false_ne_true]
    exact p _ _ x1 r1 _ (.bl _)
  · exact p.elim
theorem s_or (ha : PE X a (tE c (rec ca))) {rest : List Expr} (hb : PE X (.BoolOp .Or (b :: rest) pos) (tE c (rec cb))) : PE X (.BoolOp .Or (a :: b :: rest) pos) (tE c (eOr rec ca cb)) := by
  refine pe_w (pe_or ha hb) fun σ H Q ⟨f, h, st, r, rs, p⟩ => ?_
  unfold eOr at p
  split at p
  · rename_i h1 e1
    refine tE_of e1 r rs fun f1 H1 x x1 r1 rs1 rv1 => ?_
    cases rv1
    refine ⟨_, rfl, ?_⟩
    rw [if_pos rfl]
    exact p _ _ x1 r1 _ (.bl _)
  · rename_i h1 e1
    refine tE_of e1 r rs fun f1 H1 x x1 r1 rs1 rv1 => ?_
    cases rv1
    refine ⟨_, rfl, ?_⟩
    rw [if_neg Bool.false_ne_true]
    exact ⟨f1, h1, st, r1, rs1, p.mono x1⟩
  · exact p.elim
theorem s_not (ha : PE X a (tE c (rec ca))) : PE X (.UnaryOp .Not a pos) (tE c (eNot rec ca)) := by
  refine pe_w (pe_not ha) fun σ H Q ⟨f, h, st, r, rs, p⟩ => ?_
  unfold eNot at p
  split at p
  · rename_i k h1 e1
    refine tE_of e1 r rs fun f1 H1 x x1 r1 rs1 rv1 => ?_
    cases rv1
    exact ⟨_, rfl, p _ _ x1 r1 _ (.bl _)⟩
  · exact p.elim
theorem s_ite {t : Expr} {bt : CB} (ht : PT X t (tB' c (evB rec bt))) (ha : PE X a (tE c (rec ca))) (hb : PE X b (tE c (rec cb))) : PE X (.IfExp t a b pos) (tE c (eIte rec bt ca cb)) := by
  refine pe_w (pe_ifExp ht ha hb) fun σ H Q ⟨f, h, st, r, rs, p⟩ => ?_
  unfold eIte at p
  split at p
  · exact p.elim
  · rename_i h1 e1
    refine tB_of e1 r rs fun f1 H1 x1 r1 rs1 => ?_
    rw [if_pos rfl]
    exact ⟨f1, h1, st, r1, rs1, p.mono x1⟩
  · rename_i h1 e1
    refine tB_of e1 r rs fun f1 H1 x1 r1 rs1 => ?_
    rw [if_neg Bool.false_ne_true]
    exact ⟨f1, h1, st, r1, rs1, p.mono x1⟩
theorem b_val (hK : X.K = c.K) (he : plainT e = true) (h1 : PE X e (tE c (rec ce))) : PT X e (tB' c (evB rec (.val ce))) := by
  refine pt_w (pt_truth h1 (fun whole => plain_of he X.env whole)) fun σ H Q ⟨f, h, st, r, rs, p⟩ => ?_
  unfold evB at p
  split at p
  · exact p.elim
  · rename_i v h2 e1
    refine tE_of e1 r rs fun f1 H1 x x1 r1 rs1 rv1 => ?_
    cases q : truth v h2 with
    | none => rw [q] at p; exact p.elim
    | some k =>
      rw [q] at p
      refine ⟨k, ?_, p _ _ x1 r1⟩
      unfold truth at q
      split at q
      · cases q; cases rv1; rfl
      · cases q; cases rv1; rfl
      · cases q; cases rv1; rfl
      · cases q
        cases rv1 with
        | tup a1 a2 => exact .inr (.inl ⟨_, SqT.of a1, by rw [isEmpty_at a2]⟩)
      · rename_i i
        have key : ∀ xs, seqL (.ref i) h2 = some xs → k = !xs.isEmpty → TruV X.K x H1 k := fun xs e2 e3 => by
          obtain ⟨a, vs, rfl, hs, rv⟩ := seqL_at r1 rv1 e2
          rw [← hK] at hs
          exact .inl ⟨vs, hs, by rw [e3, isEmpty_at rv]⟩
        split at q
        · rename_i xs e2
          cases q
          exact key xs (by unfold seqL; simp only [e2]) rfl
        · rename_i xs e2
          cases q
          exact key xs (by unfold seqL; simp only [e2]) rfl
        · cases q
      · cases q
end
end Pyx

namespace Pyx
open PySem PySem.Spec PyProof.Rows L2
section
variable {X : Cx} {c : Rc} {call : Nat → List PV → PH → R PV} {n : Nat} {rec : CE → PSt → PH → R PV} {a b d e : Expr} {ca cb cd ce : CE} {pos : Pos}
theorem b_bl {t : TE} (h : PT X e (tTest t)) (rd : ∀ σ H Q, tE c (rec ce) σ H Q → t σ H Q) : PT X e (tB' c (evB rec (.bl ce))) := by
  refine pt_w h fun σ H Q ⟨f, h, st, r, rs, p⟩ => rd σ H _ ⟨f, h, st, r, rs, ?_⟩
  unfold evB at p
  split at p
  · rename_i k h1 e1
    rw [e1]
    intro f1 H1 x1 r1 w rw1
    cases rw1
    exact ⟨k, rfl, p _ _ x1 r1⟩
  · exact p.elim
theorem rd_cmp (op : Cop) : ∀ σ H Q, tE c (eCmp rec op ca cb) σ H Q → tOp (rCmp c op) (tE c (rec ca)) (tE c (rec cb)) σ H Q := fun σ H Q ⟨f, h, st, r, rs, p⟩ => by
  unfold eCmp at p
  split at p
  · exact p.elim
  · rename_i v h1 e1
    refine tE_of e1 r rs fun f1 H1 x x1 r1 rs1 rv1 => ?_
    split at p
    · exact p.elim
    · rename_i w h2 e2
      refine tE_of e2 r1 rs1 fun f2 H2 y x2 r2 rs2 rv2 => ?_
      split at p
      · rename_i k e3
        exact ⟨f2, h2, v, w, k, r2, rv1.mono x2, rv2, e3, p _ _ (x1.trans x2) r2 _ (.bl _)⟩
      · exact p.elim
theorem rd_in (ng : Bool) : ∀ σ H Q, tE c (eIsin rec ng ca cb) σ H Q → tOp (rInP c ng) (tE c (rec ca)) (tE c (rec cb)) σ H Q := fun σ H Q ⟨f, h, st, r, rs, p⟩ => by
  unfold eIsin at p
  split at p
  · exact p.elim
  · rename_i v h1 e1
    refine tE_of e1 r rs fun f1 H1 x x1 r1 rs1 rv1 => ?_
    split at p
    · exact p.elim
    · rename_i w h2 e2
      refine tE_of e2 r1 rs1 fun f2 H2 y x2 r2 rs2 rv2 => ?_
      split at p
      · rename_i k e3
        exact ⟨f2, h2, v, w, k, r2, rv1.mono x2, rv2, e3, p _ _ (x1.trans x2) r2 _ (.bl _)⟩
      · exact p.elim
theorem rd_chain (o1 o2 : Cop) : ∀ σ H Q, tE c (eChain rec o1 o2 ca cb cd) σ H Q → tChain (rCmp c o1) (rCmp c o2) (tE c (rec ca)) (tE c (rec cb)) (tE c (rec cd)) σ H Q := fun σ H Q ⟨f, h, st, r, rs, p⟩ => by
  unfold eChain at p
  split at p
  · exact p.elim
  · rename_i v h1 e1
    refine tE_of e1 r rs fun f1 H1 x x1 r1 rs1 rv1 => ?_
    split at p
    · exact p.elim
    · rename_i w h2 e2
      refine tE_of e2 r1 rs1 fun f2 H2 y x2 r2 rs2 rv2 => ?_
      split at p
      · rename_i e3
        refine ⟨f2, h2, v, w, true, r2, rv1.mono x2, rv2, e3, true, rfl, ?_⟩
        rw [if_pos rfl]
        split at p
        · exact p.elim
        · rename_i u h3 e4
          refine tE_of e4 r2 rs2 fun f3 H3 z x3 r3 rs3 rv3 => ?_
          split at p
          · rename_i k e5
            exact ⟨f3, h3, w, u, k, r3, rv2.mono x3, rv3, e5, p _ _ ((x1.trans x2).trans x3) r3 _ (.bl _)⟩
          · exact p.elim
      · rename_i e3
        refine ⟨f2, h2, v, w, false, r2, rv1.mono x2, rv2, e3, false, rfl, ?_⟩
        rw [if_neg Bool.false_ne_true]
        exact p _ _ (x1.trans x2) r2 _ (.bl _)
      · exact p.elim
theorem b_not {ba : CB} (ha : PT X a (tB' c (evB rec ba))) : PT X (.UnaryOp .Not a pos) (tB' c (evB rec (.not ba))) := by
  refine pt_w (pt_not ha) fun σ H Q ⟨f, h, st, r, rs, p⟩ => ?_
  unfold evB at p
  split at p
  · exact p.elim
  · rename_i k h1 e1
    exact tB_of e1 r rs fun f1 H1 x1 r1 rs1 => p _ _ x1 r1
theorem pw_w {t t' : TT} (h : PW X e t) (k : ∀ σ H Q, t' σ H Q → t σ H Q) : PW X e t' := ⟨fun whole pins s σ H Q I q => h.run whole pins s σ H Q I (k σ H Q q)⟩
theorem b_and {ba bb : CB} {rest : List Expr} (ha : PT X a (tB' c (evB rec ba))) (hb : PW X (.BoolOp .And (b :: rest) pos) (tB' c (evB rec bb))) : PW X (.BoolOp .And (a :: b :: rest) pos) (tB' c (evB rec (.and ba bb))) := by
  refine pw_w (pw_and ha hb) fun σ H Q ⟨f, h, st, r, rs, p⟩ => ?_
  unfold evB at p
  split at p
  · exact p.elim
  · rename_i h1 e1
    refine tB_of e1 r rs fun f1 H1 x1 r1 rs1 => ?_
    rw [if_pos rfl]
    exact ⟨f1, h1, st, r1, rs1, p.mono x1⟩
  · rename_i h1 e1
    refine tB_of e1 r rs fun f1 H1 x1 r1 rs1 => ?_
    rw [if_neg Bool.false_ne_true]
    exact p _ _ x1 r1
theorem b_or {ba bb : CB} {rest : List Expr} (ha : PT X a (tB' c (evB rec ba))) (hb : PW X (.BoolOp .Or (b :: rest) pos) (tB' c (evB rec bb))) : PW X (.BoolOp .Or (a :: b :: rest) pos) (tB' c (evB rec (.or ba bb))) := by
  refine pw_w (pw_or ha hb) fun σ H Q ⟨f, h, st, r, rs, p⟩ => ?_
  unfold evB at p
  split at p
  · exact p.elim
  · rename_i h1 e1
    refine tB_of e1 r rs fun f1 H1 x1 r1 rs1 => ?_
    rw [if_pos rfl]
    exact p _ _ x1 r1
  · rename_i h1 e1
    refine tB_of e1 r rs fun f1 H1 x1 r1 rs1 => ?_
    rw [if_neg Bool.false_ne_true]
    exact ⟨f1, h1, st, r1, rs1, p.mono x1⟩
inductive PEs (X : Cx) (c : Rc) (rec : CE → PSt → PH → R PV) : List Expr → List CE → Prop where
  | nil : PEs X c rec [] []
  | cons {e : Expr} {ce : CE} {es : List Expr} {ces : List CE} : noStar e = true → PE X e (tE c (rec ce)) → PEs X c rec es ces → PEs X c rec (e :: es) (ce :: ces)
theorem pa_of : ∀ {es : List Expr} {ces : List CE}, PEs X c rec es ces → PA X es (tA c (evL rec ces))
  | [], [], .nil => pa_w pa_nil fun σ H Q ⟨f, h, st, r, rs, p⟩ => p _ _ .refl r _ .nil
  | e :: es, ce :: ces, .cons hs he ht => by
    refine pa_w (pa_cons he (pa_of ht) (star_of hs es X.env)) fun σ H Q ⟨f, h, st, r, rs, p⟩ => ?_
    unfold evL at p
    split at p
    · exact p.elim
    · rename_i v h1 e1
      refine tE_of e1 r rs fun f1 H1 x x1 r1 rs1 rv1 => ?_
      split at p
      · exact p.elim
      · rename_i vs h2 e2
        exact tA_of e2 r1 rs1 fun f2 H2 ws x2 r2 rs2 rv2 => p _ _ (x1.trans x2) r2 _ (.cons (rv1.mono x2) rv2)
theorem plain_args : ∀ {es : List Expr} {ces : List CE}, PEs X c rec es ces → ∀ (p : Pos) (env : Env), (backTo p (starEach es env)).any (·.1) = false
  | [], [], .nil, _, _ => rfl
  | e :: es, ce :: ces, .cons hs he ht, p, env => by
    have ih := plain_args ht p env
    rw [star_of hs es env]
    show (false || (backTo p (starEach es env)).any (·.1)) = false
    rw [ih]
    rfl
theorem s_tup {es : List Expr} {ces : List CE} {k : Nat} (h : PEs X c rec es ces) : PE X (.Tuple es k pos) (tE c (eTup rec ces)) := by
  refine pe_w (pe_tup (pa_of h)) fun σ H Q ⟨f, h, st, r, rs, p⟩ => ?_
  unfold eTup at p
  split at p
  · exact p.elim
  · rename_i vs h1 e1
    refine tA_of e1 r rs fun f1 H1 ws x1 r1 rs1 rv1 => ?_
    obtain ⟨z, k1, _⟩ := okT_at r1 rv1 (p.mono x1)
    exact ⟨Nat.le_of_lt z, k1⟩
theorem s_lst {es : List Expr} {ces : List CE} (h : PEs X c rec es ces) : PE X (.List es pos) (tE c (eLst rec ces)) := by
  refine pe_w (pe_lst (pa_of h)) fun σ H Q ⟨f, h, st, r, rs, p⟩ => ?_
  unfold eLst at p
  split at p
  · exact p.elim
  · rename_i vs h1 e1
    refine tA_of e1 r rs fun f1 H1 ws x1 r1 rs1 rv1 => ?_
    obtain ⟨z, k1⟩ := okL_at r1 rv1 (p.mono x1)
    exact ⟨Nat.le_of_lt z, k1⟩
def spF (c : Rc) (call : Nat → List PV → PH → R PV) (k ar : Nat) : Sp := fun vs H Q _ => vs.length = ar ∧ ∃ f h ps, Rel c f h H ∧ RVs c f h.n H ps vs ∧ Post c f h.n H (call k ps h) (VQ c Q)
def spX (c : Rc) (call : Nat → List PV → PH → R PV) (k ar : Nat) : Sp := fun vs H _ E => vs.length = ar ∧ ∃ f h ps, Rel c f h H ∧ RVs c f h.n H ps vs ∧ Post c f h.n H (call (xbig + k) ps h) (fun _ _ H' x => ∃ i : Nat, x = .int (i : Nat) ∧ E (.ref (c.C i)) none H')
def spB (c : Rc) (call : Nat → List PV → PH → R PV) (k ar : Nat) : Sp := fun vs H Q E => spF c call k ar vs H Q E ∨ spX c call k ar vs H Q E
theorem s_call {k ar lvl : Nat} {fd : FuncData} {ps : List Str} {x : Str} {es : List Expr} {ces : List CE} {p : Pos} (F : FnOk X.prog X.w X.K X.mg X.base (L2.CX X.prog X.w) lvl (c.F k) fd ps (spF c call k ar)) (hl : es.length = ar) (hr : Room lvl X.A) (hg : Gl X x) (hm : X.mg x = some (.ref (c.F k)))
    (hk : PySem.W.keepIn X.K (.ref (c.F k)) = true) (hb : Binds X.K fd ps []) (hdb : (x == ("__debug__" : Str)) = false) (h : PEs X c rec es ces) : PE X (.Call (.Name x p) es [] pos) (tE c (eCall call rec k ces)) := by
  have key : ∀ σ H Q, tE c (eCall call rec k ces) σ H Q → tCall (spF c call k ar) [] E0 (tA c (evL rec ces)) σ H Q := fun σ H Q ⟨f, h', st, r, rs, p⟩ => by
    unfold eCall at p
    split at p
    · exact p.elim
    · rename_i vs h1 e1
      refine tA_of e1 r rs fun f1 H1 ws x1 r1 rs1 rv1 => ?_
      refine ⟨?_, f1, h1, vs, r1, ?_, p.mono x1⟩
      · rw [List.append_nil, ← rv1.length, ← hl]
        have len : ∀ {es : List Expr} {ces : List CE} {vs : List PV} {h h1 : PH}, PEs X c rec es ces → evL rec ces st h = .ok vs h1 → vs.length = es.length := by
          intro es
          induction es with
          | nil =>
            intro ces vs h h1 q e
            cases q
            cases e
            rfl
          | cons e es ih =>
            intro ces vs h h1 q e
            cases q with
            | cons _ _ t =>
              unfold evL at e
              split at e
              · cases e
              · split at e
                · cases e
                · rename_i e2
                  cases e
                  rw [List.length_cons, List.length_cons, ih t e2]
        exact len h e1
      · rw [List.append_nil]; exact rv1
  cases h with
  | nil =>
    refine pe_w (pe_call0 F hr hg hm hk hb .nil passL hdb) fun σ H Q q => ?_
    obtain ⟨f, h', st, r, rs, p⟩ := key σ H Q q
    exact p _ _ .refl r _ .nil
  | cons hs he ht =>
    exact pe_w (pe_call F hr hg hm hk hb .nil passL (pa_of (.cons hs he ht)) hdb (star_of hs _ X.env) (plain_args ht _ X.env)) key
def biN : Bi → Str
  | .len => "len"
  | .min => "min"
  | .max => "max"
  | .sum => "sum"
  | .sorted => "sorted"
  | .abs => "abs"
  | .list => "list"
  | .tuple => "tuple"
  | .int => "int"
  | .set => "set"
  | .dict => "dict"
theorem s_bi (hK : X.K = c.K) (hW : X.w = c.w) (hc : X.calm = true) {bi : Bi} {x : Str} {es : List Expr} {ces : List CE} {p : Pos} (hx : x = biN bi) (hg : Gl X x) (hm : X.mg x = none) (h : PEs X c rec es ces) (hne : es ≠ []) : PE X (.Call (.Name x p) es [] pos) (tE c (eBi rec bi ces)) := by
  have key : ∀ σ H Q, tE c (eBi rec bi ces) σ H Q → tCB (rBi c bi) (tA c (evL rec ces)) σ H Q := fun σ H Q ⟨f, h', st, r, rs, p⟩ => by
    unfold eBi at p
    split at p
    · exact p.elim
    · rename_i vs h1 e1
      exact tA_of e1 r rs fun f1 H1 ws x1 r1 rs1 rv1 => ⟨f1, h1, vs, r1, rv1, p.mono x1⟩
  cases h with
  | nil => exact absurd rfl hne
  | cons hs he ht =>
    have hA := pa_of (.cons hs he ht)
    have h2 := plain_args ht pos X.env
    subst hx
    refine pe_w ?_ key
    cases bi with
    | len => exact pe_callB (call_bi hK hW hc .len) hg hm PySem.boot_len hA (by decide) (by decide) (star_of hs _ X.env) h2
    | min => exact pe_callB (call_bi hK hW hc .min) hg hm boot_min hA (by decide) (by decide) (star_of hs _ X.env) h2
    | max => exact pe_callB (call_bi hK hW hc .max) hg hm boot_max hA (by decide) (by decide) (star_of hs _ X.env) h2
    | sum => exact pe_callB (call_bi hK hW hc .sum) hg hm boot_sum hA (by decide) (by decide) (star_of hs _ X.env) h2
    | sorted => exact pe_callB (call_bi hK hW hc .sorted) hg hm boot_sorted hA (by decide) (by decide) (star_of hs _ X.env) h2
    | abs => exact pe_callB (call_bi hK hW hc .abs) hg hm boot_abs hA (by decide) (by decide) (star_of hs _ X.env) h2
    | list => exact pe_callTy (call_bi hK hW hc .list) hg hm (by decide +kernel) hA (by decide) (by decide) (star_of hs _ X.env) h2
    | tuple => exact pe_callTy (call_bi hK hW hc .tuple) hg hm (by decide +kernel) hA (by decide) (by decide) (star_of hs _ X.env) h2
    | int => exact pe_callTy (call_bi hK hW hc .int) hg hm (by decide +kernel) hA (by decide) (by decide) (star_of hs _ X.env) h2
    | set => exact pe_callTy (call_bi hK hW hc .set) hg hm (by decide +kernel) hA (by decide) (by decide) (star_of hs _ X.env) h2
    | dict => exact pe_callTy (call_bi hK hW hc .dict) hg hm (by decide +kernel) hA (by decide) (by decide) (star_of hs _ X.env) h2
theorem pe_ty {t : Ty} {x : Str} {p : Pos} (hx : x = tyS t) (hg : Gl X x) (hm : X.mg x = none) : PE X (.Name x p) (tC (.ty (tyS t))) := by
  subst hx
  cases t <;> exact pe_bltn hg hm (by decide +kernel) rfl (by decide) (by decide)
theorem s_isi (hK : X.K = c.K) {t : Ty} {x : Str} {p p2 : Pos} (hs : noStar a = true) (ha : PE X a (tE c (rec ca))) (hx : x = tyS t) (hg : Gl X x) (hm : X.mg x = none) (hg2 : Gl X "isinstance") (hm2 : X.mg "isinstance" = none) :
    PE X (.Call (.Name "isinstance" p) [a, .Name x p2] [] pos) (tE c (eIsi rec ca t)) := by
  refine pe_w (pe_callB call_isi hg2 hm2 boot_isinstance (pa_cons ha (pa_cons (pe_ty (p := p2) hx hg hm) pa_nil rfl) (star_of hs _ X.env)) (by decide) (by decide) (star_of hs _ X.env) rfl) fun σ H Q ⟨f, h, st, r, rs, p⟩ => ?_
  unfold eIsi at p
  split at p
  · exact p.elim
  · rename_i v h1 e1
    refine tE_of e1 r rs fun f1 H1 x x1 r1 rs1 rv1 => ?_
    split at p
    · rename_i k e2
      obtain ⟨t1, t2⟩ := isTy_at r1 rv1 e2
      rw [← hK] at t1
      exact ⟨_, _, _, _, k, rfl, .ty _, t1, kit_ty t2, p _ _ x1 r1 _ (.bl _)⟩
    · exact p.elim
theorem s_isis (hK : X.K = c.K) {t u : Ty} {x y : Str} {p p2 p3 p4 : Pos} {k : Nat} (hs : noStar a = true) (ha : PE X a (tE c (rec ca))) (hx : x = tyS t) (hg : Gl X x) (hm : X.mg x = none) (hy : y = tyS u) (hgy : Gl X y) (hmy : X.mg y = none) (hg2 : Gl X "isinstance") (hm2 : X.mg "isinstance" = none) :
    PE X (.Call (.Name "isinstance" p) [a, .Tuple [.Name x p2, .Name y p3] k p4] [] pos) (tE c (eIsis rec ca t u)) := by
  refine pe_w (pe_callB call_isiT hg2 hm2 boot_isinstance (pa_cons ha (pa_cons (pe_tup (pa_cons (pe_ty (p := p2) hx hg hm) (pa_cons (pe_ty (p := p3) hy hgy hmy) pa_nil rfl) rfl)) pa_nil rfl) (star_of hs _ X.env)) (by decide) (by decide) (star_of hs _ X.env) rfl) fun σ H Q ⟨f, h, st, r, rs, p⟩ => ?_
  unfold eIsis at p
  split at p
  · exact p.elim
  · rename_i v h1 e1
    refine tE_of e1 r rs fun f1 H1 x x1 r1 rs1 rv1 => ?_
    refine ⟨(by show 2 ≤ sizeLine; rw [sizeLine_eq]; decide), fun tp htp => ?_⟩
    obtain ⟨r2, x2⟩ := r1.same (same_upd (o := .tup [.ty (tyS t), .ty (tyS u)]) htp)
    have fin : ∀ k : Bool, Post c f h.n H (.ok (.bl k) h1) (VQ c Q) → (∃ ty, TyX c.K H1 x (.type ty) ∧ PySem.W.kitAny X.K (.type ty) [.type (tyS t), .type (tyS u)] = some k) → rIsiT X.K [x, .ref tp] (upd H1 tp (.tup [.ty (tyS t), .ty (tyS u)])) Q := fun k p ⟨ty, t1, t2⟩ => by
      refine ⟨x, tp, _, .type ty, _, k, rfl, upd_same, .cons (.ty _) (.cons (.ty _) .nil), ?_, t2, p _ _ (x1.trans x2) r2 _ (.bl _)⟩
      rw [hK]
      have up : ∀ b o, H1 b = some o → upd H1 tp (.tup [.ty (tyS t), .ty (tyS u)]) b = some o := same_upd htp
      cases t1 with
      | base z =>
        refine .base ?_
        cases z with
        | non => exact .non
        | bl => exact .bl _
        | int => exact .int _
        | str => exact .str _
        | flt => exact .flt _
        | lst e => exact .lst (up _ _ e)
        | frz e => exact .frz (up _ _ e)
        | tup e => exact .tup (up _ _ e)
        | dK e => exact .dK (up _ _ e)
        | dT e => exact .dT (up _ _ e)
      | byt => exact .byt _
      | set e => exact .set (up _ _ e)
      | kList e q => exact .kList e q
      | kTuple e q => exact .kTuple e q
      | kDict e q => exact .kDict e q
      | fTuple e => exact .fTuple (up _ _ e)
      | fDict e => exact .fDict (up _ _ e)
    split at p
    · rename_i e2
      obtain ⟨t1, t2⟩ := isTy_at r1 rv1 e2
      exact fin true p ⟨_, t1, kitAny_cons (kit_ty t2) (fun z => Bool.noConfusion z) fun _ => rfl⟩
    · rename_i e2
      obtain ⟨t1, t2⟩ := isTy_at r1 rv1 e2
      split at p
      · rename_i k e3
        obtain ⟨_, t3⟩ := isTy_at r1 rv1 e3
        exact fin k p ⟨_, t1, kitAny_cons (kit_ty t2) (fun _ => kitAny_cons (kit_ty t3) (fun z => by rw [z]; exact kitAny_nil) fun z => z) fun z => Bool.noConfusion z⟩
      · exact p.elim
    · exact p.elim
theorem s_ix (hK : X.K = c.K) (hu : X.A.units + 65 < cLine) (hs : noSlice b = true) (ha : PE X a (tE c (rec ca))) (hb : PE X b (tE c (rec cb))) : PE X (.Subscript a b pos) (tE c (eIx rec ca cb)) := by
  refine pe_w (pe_ix (ix_at hK hu) ha hb (slice_of hs)) fun σ H Q ⟨f, h, st, r, rs, p⟩ => ?_
  unfold eIx at p
  split at p
  · exact p.elim
  · rename_i v h1 e1
    refine tE_of e1 r rs fun f1 H1 x x1 r1 rs1 rv1 => ?_
    split at p
    · exact p.elim
    · rename_i w h2 e2
      refine tE_of e2 r1 rs1 fun f2 H2 y x2 r2 rs2 rv2 => ?_
      cases e3 : ixP v w h2 with
      | none => rw [e3] at p; exact p.elim
      | some u =>
        rw [e3] at p
        exact ⟨f2, h2, v, w, u, r2, rv1.mono x2, rv2, e3, fun z rz => p _ _ (x1.trans x2) r2 z rz⟩
def tO' (c : Rc) (ev : PSt → PH → R (Option Int)) : TO := fun σ H Q => ∃ f h st, Rel c f h H ∧ RSt c f h.n H st σ ∧ Post c f h.n H (ev st h) (fun _ _ H' o => Q o H')
theorem po_w {o : Option Expr} {t t' : TO} (h : L2.PO X o t) (k : ∀ σ H Q, t' σ H Q → t σ H Q) : L2.PO X o t' := ⟨fun pins s σ H Q I q => h.run pins s σ H Q I (k σ H Q q)⟩
theorem po_no : L2.PO X none (tO' c (evO rec none)) := po_w po_none fun σ H Q ⟨f, h, st, r, rs, p⟩ => p _ _ .refl r
theorem po_so (ha : PE X a (tE c (rec ca))) : L2.PO X (some a) (tO' c (evO rec (some ca))) := by
  refine po_w (po_some ha) fun σ H Q ⟨f, h, st, r, rs, p⟩ => ?_
  have p : Post c f h.n H (match rec ca st h with | .ok (.int i) h1 => R.ok (some i) h1 | _ => .stuck) (fun _ _ H' o => Q o H') := p
  split at p
  · rename_i i h1 e1
    refine tE_of e1 r rs fun f1 H1 x x1 r1 rs1 rv1 => ?_
    cases rv1
    exact ⟨_, rfl, p _ _ x1 r1⟩
  · exact p.elim
theorem tO_of {f : Nat → Addr} {h h1 : PH} {H : Hp} {st : PSt} {σ : L2.St} {ev : PSt → PH → R (Option Int)} {x : Option Int} {Q : Option Int → Hp → Prop} (hr : ev st h = .ok x h1) (r : Rel c f h H) (s : RSt c f h.n H st σ)
    (k : ∀ f1 H1, Ext f h.n H f1 h1.n H1 → Rel c f1 h1 H1 → RSt c f1 h1.n H1 st σ → Q x H1) : tO' c ev σ H Q :=
  ⟨f, h, st, r, s, by rw [hr]; exact fun f1 H1 e1 R1 => k f1 H1 e1 R1 (s.mono e1)⟩
theorem s_sl (hK : X.K = c.K) {lo hi : Option Expr} {cl ch : Option CE} {p2 : Pos} (ha : PE X a (tE c (rec ca))) (hl : L2.PO X lo (tO' c (evO rec cl))) (hh : L2.PO X hi (tO' c (evO rec ch))) : PE X (.Subscript a (.Slice lo hi none p2) pos) (tE c (eSl rec ca cl ch)) := by
  refine pe_w (pe_slice (sl_at hK) ha hl hh) fun σ H Q ⟨f, h, st, r, rs, p⟩ => ?_
  unfold eSl at p
  split at p
  · exact p.elim
  · rename_i v h1 e1
    refine tE_of e1 r rs fun f1 H1 x x1 r1 rs1 rv1 => ?_
    split at p
    · exact p.elim
    · rename_i l h2 e2
      refine tO_of e2 r1 rs1 fun f2 H2 x2 r2 rs2 => ?_
      split at p
      · exact p.elim
      · rename_i u h3 e3
        exact tO_of e3 r2 rs2 fun f3 H3 x3 r3 rs3 => ⟨f3, h3, v, r3, (rv1.mono x2).mono x3, ((p.mono x1).mono x2).mono x3⟩
theorem list_ty {f : Nat → Addr} {h : PH} {H : Hp} (r : Rel c f h H) {x : PV} {v : V} {xs : List PV} (rv : RV c f h.n H x v) (e : seqL x h = some xs) : tyV c.K "list" v H := by
  obtain ⟨a, vs, rfl, hs, _⟩ := seqL_at r rv e
  exact .inl ⟨rfl, vs, hs⟩
end
end Pyx

namespace Pyx
open PySem PySem.Spec PyProof.Rows L2
section
variable {X : Cx} {c : Rc} {call : Nat → List PV → PH → R PV} {n : Nat} {rec : CE → PSt → PH → R PV} {a b d e : Expr} {ca cb cd ce : CE} {pos : Pos}
def mtN : Mt → Str
  | .append => "append"
  | .pop => "pop"
  | .count => "count"
  | .index => "index"
theorem rd_mt {m : Mt} {co : CE} {ces : List CE} {o : Expr} {t : TA} (hK : X.K = c.K) (ht : ∀ σ H Q, tA c (evL rec ces) σ H Q → t σ H Q) : ∀ σ H Q, tE c (eMt rec m co ces) σ H Q → tBM X.K "list" (rMt c m) (tE c (rec co)) t σ H Q := fun σ H Q ⟨f, h, st, r, rs, p⟩ => by
  unfold eMt at p
  split at p
  · exact p.elim
  · rename_i v h1 e1
    split at p
    · exact p.elim
    · rename_i xs e2
      refine tE_of e1 r rs fun f1 H1 x x1 r1 rs1 rv1 => ⟨by rw [hK]; exact list_ty r1 rv1 e2, ?_⟩
      split at p
      · exact p.elim
      · rename_i vs h2 e3
        exact ht _ _ _ (tA_of e3 r1 rs1 fun f2 H2 ws x2 r2 rs2 rv2 => ⟨f2, h2, v, vs, r2, rv1.mono x2, rv2, (p.mono x1).mono x2⟩)
theorem s_append (hK : X.K = c.K) {o : Expr} {co : CE} {apos cpos : Pos} (hb : noBase o = true) (hs : noStar e = true) (hline : (apos.endLine == cpos.line) = true) (ho : PE X o (tE c (rec co))) (he : PE X e (tE c (rec ce))) :
    PE X (.Call (.Attribute o "append" apos) [e] [] cpos) (tE c (eMt rec .append co [ce])) :=
  pe_w (pe_bm PySem.F.plainAttrs_list PySem.F.slot_list_append PySem.F.type_list_append mt_app ho (pa_of (.cons hs he .nil)) (base_of hb _ _ _) (by rw [star_of hs]; rfl) hline (star_of hs _ _) rfl) (rd_mt (o := o) hK fun _ _ _ h => h)
theorem s_count (hK : X.K = c.K) {o : Expr} {co : CE} {apos cpos : Pos} (hb : noBase o = true) (hs : noStar e = true) (hline : (apos.endLine == cpos.line) = true) (ho : PE X o (tE c (rec co))) (he : PE X e (tE c (rec ce))) :
    PE X (.Call (.Attribute o "count" apos) [e] [] cpos) (tE c (eMt rec .count co [ce])) :=
  pe_w (pe_bm PySem.F.plainAttrs_list PySem.F.slot_list_count PySem.F.type_list_count (mt_cnt hK) ho (pa_of (.cons hs he .nil)) (base_of hb _ _ _) (by rw [star_of hs]; rfl) hline (star_of hs _ _) rfl) (rd_mt (o := o) hK fun _ _ _ h => h)
theorem s_index (hK : X.K = c.K) (hu : X.A.units + 65 < cLine) {o : Expr} {co : CE} {apos cpos : Pos} (hb : noBase o = true) (hs : noStar e = true) (hline : (apos.endLine == cpos.line) = true) (ho : PE X o (tE c (rec co))) (he : PE X e (tE c (rec ce))) :
    PE X (.Call (.Attribute o "index" apos) [e] [] cpos) (tE c (eMt rec .index co [ce])) :=
  pe_w (pe_bm PySem.F.plainAttrs_list PySem.F.slot_list_index PySem.F.type_list_index (mt_idx hK hu) ho (pa_of (.cons hs he .nil)) (base_of hb _ _ _) (by rw [star_of hs]; rfl) hline (star_of hs _ _) rfl) (rd_mt (o := o) hK fun _ _ _ h => h)
theorem s_pop (hK : X.K = c.K) {o : Expr} {co : CE} {apos cpos : Pos} (hb : noBase o = true) (hline : (apos.endLine == cpos.line) = true) (ho : PE X o (tE c (rec co))) :
    PE X (.Call (.Attribute o "pop" apos) [] [] cpos) (tE c (eMt rec .pop co [])) := by
  refine pe_w (pe_bm0 PySem.F.plainAttrs_list PySem.F.slot_list_pop PySem.F.type_list_pop (mt_popP (c := c)) ho (base_of hb _ _ _) hline) fun σ H Q q => ?_
  have z := rd_mt (o := o) (t := tNil) hK (fun σ H Q ⟨f, h, st, r, rs, p⟩ => p _ _ .refl r _ .nil) σ H Q q
  exact z
def IteT (K : PySem.W.Frag) (a : Addr) : It :=
  ⟨fun i H => ∃ (xs : List V) (x : V), SqT K H a xs ∧ xs[i]? = some x, fun i H v H' => ∃ T x, v = .ref T ∧ H T = none ∧ H' = upd H T (.tup [.int (i : Nat), x]) ∧ ∀ xs, SqT K H a xs → xs[i]? = some x, fun i H => ∃ xs : List V, SqT K H a xs ∧ xs.length ≤ i⟩
inductive JOk (c : Rc) (f : Nat → Addr) (n : Nat) (H : Hp) : IV → It → Prop where
  | lst {i : Nat} : i < n → JOk c f n H (.lst i) (Itl c.K (f i))
  | tup {xs : List PV} {vs : List V} {a : Addr} : H a = some (.tup vs) → RVs c f n H xs vs → JOk c f n H (.tup xs) (Itt c.K a)
  | rng (lo : Int) (k : Nat) : JOk c f n H (.rng lo k) (Itr lo k)
  | enumL {i : Nat} : i < n → JOk c f n H (.enumL i) (Ite c.K (f i))
  | enumT {xs : List PV} {vs : List V} {a : Addr} : H a = some (.tup vs) → RVs c f n H xs vs → JOk c f n H (.enumT xs) (IteT c.K a)
  | zipL {i j : Nat} : i < n → j < n → JOk c f n H (.zipL i j) (Itz c.K (f i) (f j))
  | zipT {xs ys : List PV} {vs ws : List V} {a b : Addr} : H a = some (.tup vs) → RVs c f n H xs vs → H b = some (.tup ws) → RVs c f n H ys ws → JOk c f n H (.zipT xs ys) (RZ.ItzT c.K a b)
  | keysT {i : Nat} {o : Obj} {ws : List (List Key × V)} : i < n → H (f i) = some (.frz o (.dT ws)) → JOk c f n H (.keysT i) (Itkt (f i) o ws)
  | keysK {i : Nat} {o : Obj} {ws : List (Key × V)} : i < n → H (f i) = some (.frz o (.dK ws)) → JOk c f n H (.keysK i) (Itk (f i) o ws)
theorem JOk.mono {f f' : Nat → Addr} {k k' : Nat} {H H' : Hp} {iv : IV} {J : It} (e : Ext f k H f' k' H') : JOk c f k H iv J → JOk c f' k' H' iv J
  | .lst h => by rw [← e.eq _ h]; exact .lst (Nat.lt_of_lt_of_le h e.le)
  | .tup h r => .tup (e.tup _ _ h) (r.mono e)
  | .rng lo k => .rng lo k
  | .enumL h => by rw [← e.eq _ h]; exact .enumL (Nat.lt_of_lt_of_le h e.le)
  | .enumT h r => .enumT (e.tup _ _ h) (r.mono e)
  | .zipL h g => by rw [← e.eq _ h, ← e.eq _ g]; exact .zipL (Nat.lt_of_lt_of_le h e.le) (Nat.lt_of_lt_of_le g e.le)
  | .zipT h r g q => .zipT (e.tup _ _ h) (r.mono e) (e.tup _ _ g) (q.mono e)
  | .keysT h g => by rw [← e.eq _ h] at g ⊢; exact .keysT (Nat.lt_of_lt_of_le h e.le) (e.frz _ _ _ trivial g)
  | .keysK h g => by rw [← e.eq _ h] at g ⊢; exact .keysK (Nat.lt_of_lt_of_le h e.le) (e.frz _ _ _ trivial g)
theorem seqL_ref {f : Nat → Addr} {h : PH} {H : Hp} {i : Nat} {xs : List PV} (r : Rel c f h H) (hi : i < h.n) (e : seqL (.ref i) h = some xs) : ∃ vs, SqL c.K H (f i) vs ∧ RVs c f h.n H xs vs := by
  obtain ⟨a, vs, e1, h1, h2⟩ := seqL_at r (.ref hi) e
  cases e1
  exact ⟨vs, h1, h2⟩
theorem get_none {f : Nat → Addr} {n : Nat} {H : Hp} {xs : List PV} {vs : List V} (r : RVs c f n H xs vs) {k : Nat} (e : xs[k]? = none) : vs.length ≤ k := by
  rw [← r.length]
  exact List.getElem?_eq_none_iff.mp e
theorem ivN_stop {f : Nat → Addr} {h : PH} {H : Hp} {iv : IV} {J : It} {k : Nat} (r : Rel c f h H) (j : JOk c f h.n H iv J) (e : ivN iv k h = .stop) : J.stop k H := by
  unfold ivN at e
  cases j with
  | lst hi =>
    dsimp only at e
    split at e
    · rename_i xs q
      obtain ⟨vs, h1, h2⟩ := seqL_ref r hi q
      unfold pick at e
      split at e
      · cases e
      · rename_i q2
        exact ⟨vs, h1, get_none h2 q2⟩
    · cases e
  | tup h1 h2 =>
    dsimp only at e
    unfold pick at e
    split at e
    · cases e
    · rename_i q2
      exact ⟨_, SqT.of h1, get_none h2 q2⟩
  | rng lo m =>
    dsimp only at e
    split at e
    · cases e
    · rename_i q
      show m ≤ k
      have z : ¬ k < m := fun z => by rw [show Nat.blt k m = true from Nat.ble_eq_true_of_le z] at q; cases q
      omega
  | enumL hi =>
    dsimp only at e
    split at e
    · rename_i xs q
      obtain ⟨vs, h1, h2⟩ := seqL_ref r hi q
      split at e
      · cases e
      · rename_i q2
        exact ⟨vs, h1, get_none h2 q2⟩
    · cases e
  | enumT h1 h2 =>
    dsimp only at e
    split at e
    · cases e
    · rename_i q2
      exact ⟨_, SqT.of h1, get_none h2 q2⟩
  | zipL hi hj =>
    dsimp only at e
    split at e
    · rename_i xs ys q1 q2
      obtain ⟨vs, h1, h2⟩ := seqL_ref r hi q1
      obtain ⟨ws, h3, h4⟩ := seqL_ref r hj q2
      refine ⟨vs, ws, h1, h3, ?_⟩
      split at e
      · cases e
      · rename_i no
        cases z1 : xs[k]? with
        | none => exact .inl (get_none h2 z1)
        | some x =>
          cases z2 : ys[k]? with
          | none => exact .inr (get_none h4 z2)
          | some y => exact absurd z2 (no x y z1)
    · cases e
  | zipT h1 h2 h3 h4 =>
    dsimp only at e
    refine ⟨_, _, SqT.of h1, SqT.of h3, ?_⟩
    rename_i xs ys vs ws a b
    split at e
    · cases e
    · rename_i no
      cases z1 : xs[k]? with
      | none => exact .inl (get_none h2 z1)
      | some x =>
        cases z2 : ys[k]? with
        | none => exact .inr (get_none h4 z2)
        | some y => exact absurd z2 (no x y z1)
  | keysT hi hf =>
    dsimp only at e
    split at e
    · rename_i kvs q
      split at e
      · cases e
      · rename_i q2
        cases r.obj _ _ q with
        | lT h1 h2 h3 =>
          rw [hf] at h1
          cases h1
          exact ⟨hf, by rw [← h2.length]; exact List.getElem?_eq_none_iff.mp q2⟩
    · cases e
  | keysK hi hf =>
    dsimp only at e
    split at e
    · rename_i kvs q
      split at e
      · cases e
      · rename_i q2
        cases r.obj _ _ q with
        | lK h1 h2 h3 =>
          rw [hf] at h1
          cases h1
          exact ⟨hf, by rw [← h2.length]; exact List.getElem?_eq_none_iff.mp q2⟩
    · cases e
theorem rd_get {κ κ' : Type} {ek : κ → κ'} {f : Nat → Addr} {n : Nat} {H : Hp} : ∀ {r : List (κ × PV)} {s : List (κ' × V)}, RD ek c f n H r s → ∀ (k : Nat) {p : κ × PV}, r[k]? = some p → ∃ v, s[k]? = some (ek p.1, v)
  | _, _, .nil, k, p, h => by simp at h
  | _, _, .cons hv t, 0, p, h => by
    rw [List.getElem?_cons_zero] at h
    cases h
    exact ⟨_, rfl⟩
  | _, _, .cons hv t, k + 1, p, h => by
    rw [List.getElem?_cons_succ] at h
    obtain ⟨v, e⟩ := rd_get t k h
    exact ⟨v, by rw [List.getElem?_cons_succ]; exact e⟩
theorem kT_rvs {f : Nat → Addr} {n : Nat} {H : Hp} : ∀ is : List Int, RVs c f n H (is.map PV.int) ((kT is).map kV)
  | [] => .nil
  | i :: is => .cons (.int i) (kT_rvs is)
def Yields (c : Rc) (f : Nat → Addr) (h : PH) (H : Hp) (J : It) (k : Nat) (v : PV) : Prop :=
  J.go k H ∧ ∀ x H', J.yld k H x H' → Rel c f h H' ∧ Ext f h.n H f h.n H' ∧ RV c f h.n H' v x
theorem pair_new {f : Nat → Addr} {h : PH} {H : Hp} {x y : PV} {v w : V} {T : Addr} (r : Rel c f h H) (hT : H T = none) (r1 : RV c f h.n H x v) (r2 : RV c f h.n H y w) :
    Rel c f h (upd H T (.tup [v, w])) ∧ Ext f h.n H f h.n (upd H T (.tup [v, w])) ∧ RV c f h.n (upd H T (.tup [v, w])) (.tup [x, y]) (.ref T) := by
  obtain ⟨r3, e3⟩ := r.same (same_upd (o := .tup [v, w]) hT)
  exact ⟨r3, e3, .tup upd_same (.cons (r1.mono e3) (.cons (r2.mono e3) .nil))⟩
theorem ivN_item {f : Nat → Addr} {h : PH} {H : Hp} {iv : IV} {J : It} {k : Nat} {v : PV} (r : Rel c f h H) (j : JOk c f h.n H iv J) (e : ivN iv k h = .item v) : Yields c f h H J k v := by
  unfold ivN at e
  cases j with
  | lst hi =>
    dsimp only at e
    split at e
    · rename_i xs q
      obtain ⟨vs, h1, h2⟩ := seqL_ref r hi q
      unfold pick at e
      split at e
      · rename_i q2
        cases e
        obtain ⟨w, e1, r1⟩ := h2.get _ _ q2
        refine ⟨⟨vs, w, h1, e1⟩, fun x H' ⟨z1, z2⟩ => ?_⟩
        subst z1
        have z3 := z2 vs h1
        rw [e1] at z3
        cases z3
        exact ⟨r, .refl, r1⟩
      · cases e
    · cases e
  | tup h1 h2 =>
    dsimp only at e
    unfold pick at e
    split at e
    · rename_i q2
      cases e
      obtain ⟨w, e1, r1⟩ := h2.get _ _ q2
      refine ⟨⟨_, w, SqT.of h1, e1⟩, fun x H' ⟨z1, z2⟩ => ?_⟩
      subst z1
      have z3 := z2 _ (SqT.of h1)
      rw [e1] at z3
      cases z3
      exact ⟨r, .refl, r1⟩
    · cases e
  | rng lo m =>
    dsimp only at e
    split at e
    · rename_i q
      cases e
      refine ⟨Nat.le_of_ble_eq_true q, fun x H' ⟨z1, z2⟩ => ?_⟩
      subst z1
      subst z2
      exact ⟨r, .refl, .int _⟩
    · cases e
  | enumL hi =>
    dsimp only at e
    split at e
    · rename_i xs q
      obtain ⟨vs, h1, h2⟩ := seqL_ref r hi q
      split at e
      · rename_i q2
        cases e
        obtain ⟨w, e1, r1⟩ := h2.get _ _ q2
        refine ⟨⟨vs, w, h1, e1⟩, fun x H' ⟨T, y, z1, z2, z3, z4⟩ => ?_⟩
        have z5 := z4 vs h1
        rw [e1] at z5
        cases z5
        subst z1
        subst z3
        exact pair_new r z2 (.int _) r1
      · cases e
    · cases e
  | enumT h1 h2 =>
    dsimp only at e
    split at e
    · rename_i q2
      cases e
      obtain ⟨w, e1, r1⟩ := h2.get _ _ q2
      refine ⟨⟨_, w, SqT.of h1, e1⟩, fun x H' ⟨T, y, z1, z2, z3, z4⟩ => ?_⟩
      have z5 := z4 _ (SqT.of h1)
      rw [e1] at z5
      cases z5
      subst z1
      subst z3
      exact pair_new r z2 (.int _) r1
    · cases e
  | zipL hi hj =>
    dsimp only at e
    split at e
    · rename_i xs ys q1 q2
      obtain ⟨vs, h1, h2⟩ := seqL_ref r hi q1
      obtain ⟨ws, h3, h4⟩ := seqL_ref r hj q2
      split at e
      · rename_i x y z1 z2
        cases e
        obtain ⟨v, e1, r1⟩ := h2.get _ _ z1
        obtain ⟨w, e2, r2⟩ := h4.get _ _ z2
        refine ⟨⟨vs, ws, v, w, h1, h3, e1, e2⟩, fun x H' ⟨T, x', y', g1, g2, g3, g4, g5⟩ => ?_⟩
        have g6 := g4 vs h1
        have g7 := g5 ws h3
        rw [e1] at g6
        rw [e2] at g7
        cases g6
        cases g7
        subst g1
        subst g3
        exact pair_new r g2 r1 r2
      · cases e
    · cases e
  | zipT h1 h2 h3 h4 =>
    dsimp only at e
    split at e
    · rename_i x y z1 z2
      cases e
      obtain ⟨v, e1, r1⟩ := h2.get _ _ z1
      obtain ⟨w, e2, r2⟩ := h4.get _ _ z2
      refine ⟨⟨_, _, v, w, SqT.of h1, SqT.of h3, e1, e2⟩, fun x H' ⟨T, x', y', g1, g2, g3, g4, g5⟩ => ?_⟩
      have g6 := g4 _ (SqT.of h1)
      have g7 := g5 _ (SqT.of h3)
      rw [e1] at g6
      rw [e2] at g7
      cases g6
      cases g7
      subst g1
      subst g3
      exact pair_new r g2 r1 r2
    · cases e
  | keysT hi hf =>
    dsimp only at e
    split at e
    · rename_i kvs q
      split at e
      · rename_i p q2
        cases e
        cases r.obj _ _ q with
        | lT h1 h2 h3 =>
          rw [hf] at h1
          cases h1
          obtain ⟨v, hv⟩ := rd_get h2 k q2
          refine ⟨⟨hf, (List.getElem?_eq_some_iff.mp hv).1⟩, fun x H' ⟨z1, ks, v', b, z2, z3, z4⟩ => ?_⟩
          subst z1
          subst z3
          rw [hv] at z2
          cases z2
          exact ⟨r, .refl, .tup z4 (kT_rvs p.1)⟩
      · cases e
    · cases e
  | keysK hi hf =>
    dsimp only at e
    split at e
    · rename_i kvs q
      split at e
      · rename_i p q2
        cases e
        cases r.obj _ _ q with
        | lK h1 h2 h3 =>
          rw [hf] at h1
          cases h1
          obtain ⟨v, hv⟩ := rd_get h2 k q2
          refine ⟨⟨hf, (List.getElem?_eq_some_iff.mp hv).1⟩, fun x H' ⟨z1, ks, v', z2, z3⟩ => ?_⟩
          subst z1
          subst z3
          rw [hv] at z2
          cases z2
          exact ⟨r, .refl, .int p.1⟩
      · cases e
    · cases e
def tI (c : Rc) (ev : PSt → PH → R IV) : TI := fun σ H R' => ∃ f h st, Rel c f h H ∧ RSt c f h.n H st σ ∧ Post c f h.n H (ev st h) (fun f' h' H' iv => ∀ J, JOk c f' h'.n H' iv J → R' J H')
theorem i_over {tg : Expr} (hK : X.K = c.K) (he : PE X e (tE c (rec ce))) : PI X tg e (tI c (evI rec (.over ce))) := by
  refine ⟨fun pins s σ H R' I ⟨f, h, st, r, rs, p⟩ => ?_⟩
  unfold evI at p
  dsimp only at p
  split at p
  · rename_i i h1 e1
    split at p
    · rename_i xs e2
      refine (pi_list he).run pins s σ H R' I (tE_of e1 r rs fun f1 H1 x x1 r1 rs1 rv1 => ?_)
      cases rv1 with
      | ref hi =>
        obtain ⟨vs, h2, _⟩ := seqL_ref r1 hi e2
        rw [hK]
        exact ⟨_, rfl, ⟨vs, h2⟩, p _ _ x1 r1 _ (.lst hi)⟩
    · exact p.elim
  · rename_i xs h1 e1
    refine (pi_tup he).run pins s σ H R' I (tE_of e1 r rs fun f1 H1 x x1 r1 rs1 rv1 => ?_)
    cases rv1 with
    | tup a1 a2 =>
      rw [hK]
      exact ⟨_, rfl, ⟨_, SqT.of a1⟩, p _ _ x1 r1 _ (.tup a1 a2)⟩
  · exact p.elim
theorem i_keys {tg it : Expr} (hp : ∀ td, PE X e td → PI X tg it (iKeysMT td)) (hk : ∀ td, PE X e td → PI X tg it (iKeysM td)) (he : PE X e (tE c (rec ce))) : PI X tg it (tI c (evI rec (.keys ce))) := by
  refine ⟨fun pins s σ H R' I ⟨f, h, st, r, rs, p⟩ => ?_⟩
  unfold evI at p
  dsimp only at p
  split at p
  · rename_i i h1 e1
    split at p
    · rename_i kvs e2
      refine (hp _ he).run pins s σ H R' I (tE_of e1 r rs fun f1 H1 x x1 r1 rs1 rv1 => ?_)
      cases rv1 with
      | ref hi =>
        cases r1.obj _ _ e2 with
        | lT h1 h2 h3 => exact ⟨_, _, _, rfl, h1, p _ _ x1 r1 _ (.keysT hi h1)⟩
    · rename_i kvs e2
      refine (hk _ he).run pins s σ H R' I (tE_of e1 r rs fun f1 H1 x x1 r1 rs1 rv1 => ?_)
      cases rv1 with
      | ref hi =>
        cases r1.obj _ _ e2 with
        | lK h1 h2 h3 => exact ⟨_, _, _, rfl, h1, p _ _ x1 r1 _ (.keysK hi h1)⟩
    · exact p.elim
  · exact p.elim
theorem i_rng1 {tg : Expr} {p pos : Pos} (hg : Gl X "range") (hm : X.mg "range" = none) (hs : noStar e = true) (he : PE X e (tE c (rec ce))) : PI X tg (.Call (.Name "range" p) [e] [] pos) (tI c (evI rec (.rng1 ce))) := by
  refine ⟨fun pins s σ H R' I ⟨f, h, st, r, rs, p⟩ => ?_⟩
  unfold evI at p
  dsimp only at p
  split at p
  · rename_i j h1 e1
    split at p
    · rename_i e2
      simp only [Bool.and_eq_true, decide_eq_true_eq] at e2
      refine (pi_range1 hg hm (pa_cons he pa_nil (star_of hs _ _)) (star_of hs _ _)).run pins s σ H R' I (tE_of e1 r rs fun f1 H1 x x1 r1 rs1 rv1 => ?_)
      cases rv1
      exact ⟨j, rfl, by omega, by omega, p _ _ x1 r1 _ (.rng _ _)⟩
    · exact p.elim
  · exact p.elim
theorem i_rng2 {tg : Expr} {p pos : Pos} (hg : Gl X "range") (hm : X.mg "range" = none) (hsa : noStar a = true) (hsb : noStar b = true) (ha : PE X a (tE c (rec ca))) (hb : PE X b (tE c (rec cb))) : PI X tg (.Call (.Name "range" p) [a, b] [] pos) (tI c (evI rec (.rng2 ca cb))) := by
  refine ⟨fun pins s σ H R' I ⟨f, h, st, r, rs, p⟩ => ?_⟩
  unfold evI at p
  dsimp only at p
  split at p
  · rename_i i h1 e1
    split at p
    · rename_i j h2 e3
      split at p
      · rename_i e2
        simp only [Bool.and_eq_true, decide_eq_true_eq] at e2
        have z1 : starEach [a, b] X.env = [(false, eval a X.env), (false, eval b X.env)] := by rw [star_of hsa, star_of hsb]; rfl
        refine (pi_range2 hg hm (pa_cons ha (pa_cons hb pa_nil (star_of hsb _ _)) (star_of hsa _ _)) z1 (star_of hsb _ _)).run pins s σ H R' I (tE_of e1 r rs fun f1 H1 x x1 r1 rs1 rv1 => tE_of e3 r1 rs1 fun f2 H2 y x2 r2 rs2 rv2 => ?_)
        cases rv1
        cases rv2
        exact ⟨i, j, rfl, ⟨by omega, by omega, by omega, by omega⟩, p _ _ (x1.trans x2) r2 _ (.rng _ _)⟩
      · exact p.elim
    · exact p.elim
  · exact p.elim
theorem rvs_intf {f : Nat → Addr} {k : Nat} {H : Hp} (g : Nat → Int) : ∀ l : List Nat, RVs c f k H (l.map fun j => PV.int (g j)) (l.map fun j => V.int (g j))
  | [] => .nil
  | j :: l => .cons (.int _) (rvs_intf g l)
theorem s_lrg {p pos p2 pos2 : Pos} (hc : X.calm = true) (hgl : Gl X "list") (hml : X.mg "list" = none) (hg : Gl X "range") (hm : X.mg "range" = none) (hsa : noStar a = true) (hsb : noStar b = true) (ha : PE X a (tE c (rec ca))) (hb : PE X b (tE c (rec cb))) :
    PE X (.Call (.Name "list" p) [.Call (.Name "range" p2) [a, b] [] pos2] [] pos) (tE c (eLrg rec ca cb)) := by
  refine pe_w (pe_listRg hc hgl hml (prg_2 hg hm ha hb (star_of hsa _ _) (star_of hsb _ _) (by rw [star_of hsb]; rfl)) rfl) fun σ H Q ⟨f, h, st, r, rs, p⟩ => ?_
  unfold eLrg at p
  split at p
  · rename_i i h1 e1
    refine tE_of e1 r rs fun f1 H1 x x1 r1 rs1 rv1 => ?_
    split at p
    · rename_i j h2 e3
      refine tE_of e3 r1 rs1 fun f2 H2 y x2 r2 rs2 rv2 => ?_
      split at p
      · rename_i e2
        simp only [Bool.and_eq_true, decide_eq_true_eq] at e2
        cases rv1
        cases rv2
        obtain ⟨z, k1⟩ := okL_at (vs := rgV i j) r2 (rvs_intf _ _) (p.mono (x1.trans x2))
        exact ⟨i, j, rfl, rfl, ⟨by omega, by omega, by omega, by omega, by omega⟩, k1⟩
      · exact p.elim
    · exact p.elim
  · exact p.elim
theorem s_lrg1 {p pos p2 pos2 : Pos} (hc : X.calm = true) (hgl : Gl X "list") (hml : X.mg "list" = none) (hg : Gl X "range") (hm : X.mg "range" = none) (hsb : noStar b = true) (hb : PE X b (tE c (rec cb))) :
    PE X (.Call (.Name "list" p) [.Call (.Name "range" p2) [b] [] pos2] [] pos) (tE c (eLrg1 rec cb)) := by
  refine pe_w (pe_listRg hc hgl hml (prg_1 hg hm hb (star_of hsb _ _)) rfl) fun σ H Q ⟨f, h, st, r, rs, p⟩ => ?_
  unfold eLrg1 at p
  split at p
  · rename_i j h2 e3
    refine tE_of e3 r rs fun f2 H2 y x2 r2 rs2 rv2 => ?_
    split at p
    · rename_i e2
      simp only [Bool.and_eq_true, decide_eq_true_eq] at e2
      cases rv2
      obtain ⟨z, k1⟩ := okL_at (vs := rgV 0 j) r2 (rvs_intf _ _) (p.mono x2)
      exact ⟨j, rfl, ⟨by omega, by omega, by omega, by omega, by omega⟩, k1⟩
    · exact p.elim
  · exact p.elim
theorem s_trg {p pos p2 pos2 : Pos} (hc : X.calm = true) (hgl : Gl X "tuple") (hml : X.mg "tuple" = none) (hg : Gl X "range") (hm : X.mg "range" = none) (hsb : noStar b = true) (hb : PE X b (tE c (rec cb))) :
    PE X (.Call (.Name "tuple" p) [.Call (.Name "range" p2) [b] [] pos2] [] pos) (tE c (eTrg rec cb)) := by
  refine pe_w (pe_tupRg hc hgl hml (prg_1 hg hm hb (star_of hsb _ _)) rfl) fun σ H Q ⟨f, h, st, r, rs, p⟩ => ?_
  unfold eTrg at p
  split at p
  · rename_i j h2 e3
    refine tE_of e3 r rs fun f2 H2 y x2 r2 rs2 rv2 => ?_
    split at p
    · rename_i e2
      simp only [Bool.and_eq_true, decide_eq_true_eq] at e2
      cases rv2
      obtain ⟨z, k1, _⟩ := okT_at (vs := rgV 0 j) r2 (rvs_intf _ _) (p.mono x2)
      exact ⟨j, rfl, ⟨by omega, by omega, by omega, by omega, by omega⟩, k1⟩
    · exact p.elim
  · exact p.elim
theorem i_zip {p pos tpos : Pos} {elts : List Expr} {kk : Nat} (hK : X.K = c.K) (hg : Gl X "zip") (hm : X.mg "zip" = none) (hsa : noStar a = true) (hsb : noStar b = true) (ha : PE X a (tE c (rec ca))) (hb : PE X b (tE c (rec cb))) :
    PI X (.Tuple elts kk tpos) (.Call (.Name "zip" p) [a, b] [] pos) (tI c (evI rec (.zip ca cb))) := by
  refine ⟨fun pins s σ H R' I ⟨f, h, st, r, rs, p⟩ => ?_⟩
  unfold evI at p
  dsimp only at p
  split at p
  · rename_i x h1 e1
    split at p
    · rename_i y h2 e2
      refine (RZ.pi_zipA hg hm (pa_cons ha (pa_cons hb pa_nil (star_of hsb _ _)) (star_of hsa _ _)) (star_of hsa _ _) (by rw [star_of hsb]; rfl)).run pins s σ H R' I (tE_of e1 r rs fun f1 H1 v x1 r1 rs1 rv1 => tE_of e2 r1 rs1 fun f2 H2 w x2 r2 rs2 rv2 => ?_)
      have rv3 := rv1.mono x2
      rw [hK]
      split at p
      · split at p
        · rename_i q1 q2
          cases rv3 with
          | ref hi =>
            cases rv2 with
            | ref hj =>
              obtain ⟨vs, g1, _⟩ := seqL_ref r2 hi q1
              obtain ⟨ws, g2, _⟩ := seqL_ref r2 hj q2
              exact ⟨_, _, vs, ws, rfl, .inl ⟨g1, g2, p _ _ (x1.trans x2) r2 _ (.zipL hi hj)⟩⟩
        · exact p.elim
      · cases rv3 with
        | tup a1 a2 =>
          cases rv2 with
          | tup b1 b2 => exact ⟨_, _, _, _, rfl, .inr ⟨SqT.of a1, SqT.of b1, p _ _ (x1.trans x2) r2 _ (.zipT a1 a2 b1 b2)⟩⟩
      · exact p.elim
    · exact p.elim
  · exact p.elim
theorem wipe_comm {σ : L2.St} {i : Nat} {v : Option V} : ∀ {vs : List Nat}, i ∉ vs → L2.wipe (σ.set i v) vs = (L2.wipe σ vs).set i v
  | [], _ => rfl
  | j :: vs, h => by
    have h1 : i ≠ j := fun z => h (by rw [z]; exact List.mem_cons_self)
    have h2 : i ∉ vs := fun z => h (List.mem_cons_of_mem _ z)
    unfold L2.wipe
    rw [wipe_comm h2, List.set_comm _ _ h1]
theorem wipe_set {σ : L2.St} {i : Nat} {v : Option V} : ∀ {vs : List Nat}, i ∈ vs → L2.wipe (σ.set i v) vs = L2.wipe σ vs
  | j :: vs, h => by
    unfold L2.wipe
    by_cases hi : i ∈ vs
    · rw [wipe_set hi]
    · rw [wipe_comm hi]
      rcases List.mem_cons.mp h with z | z
      · subst z
        rw [List.set_set]
      · exact absurd z hi
def tT (c : Rc) (t : CT) : TG := fun v σ H Q => ∃ f h st x st', Rel c f h H ∧ RSt c f h.n H st σ ∧ RV c f h.n H x v ∧ asgA t x st h = some st' ∧ ∀ σ', RSt c f h.n H st' σ' → (∀ vs, tgIn t vs = true → L2.wipe σ' vs = L2.wipe σ vs) → Q σ' H
def tTs (c : Rc) (ts : List CT) : TGs := fun ws σ H Q => ∃ f h st xs st', Rel c f h H ∧ RSt c f h.n H st σ ∧ RVs c f h.n H xs ws ∧ asgTs ts xs st = some st' ∧ ∀ σ', RSt c f h.n H st' σ' → (∀ vs, tgsIn ts vs = true → L2.wipe σ' vs = L2.wipe σ vs) → Q σ' H
theorem pg_w {tg : Expr} {t t' : TG} (h : PG X tg t) (k : ∀ v σ H Q, t' v σ H Q → t v σ H Q) : PG X tg t' := ⟨fun pins s σ H v u Q I r q => h.run pins s σ H v u Q I r (k v σ H Q q)⟩
theorem pgs_w {tgs : List Expr} {t t' : TGs} (h : PGs X tgs t) (k : ∀ v σ H Q, t' v σ H Q → t v σ H Q) : PGs X tgs t' := ⟨fun pins s σ H v u Q I r q => h.run pins s σ H v u Q I r (k v σ H Q q)⟩
theorem g_nm {i : Nat} {x : Str} (hN : X.N.Nodup) (hi : X.N[i]? = some x) (hx : Loc X.env.scope x) (hf : X.fn x = true ∨ X.env.scope.names.lookup x = some .local) : PG X (.Name x pos) (tT c (.nm i)) :=
  pg_w (pg_name hN hi hx hf) fun v σ H Q ⟨f, h, st, x, st', r, rs, rv, e, q⟩ => by
    cases e
    refine q _ (rs.set i rv) fun vs hv => wipe_set ?_
    exact List.mem_of_elem_eq_true hv
inductive PTgs (X : Cx) (c : Rc) : List Expr → List CT → Prop where
  | nil : PTgs X c [] []
  | cons {e : Expr} {t : CT} {es : List Expr} {ts : List CT} : noStar e = true → PG X e (tT c t) → PTgs X c es ts → PTgs X c (e :: es) (t :: ts)
theorem aeach_of {e : Expr} (h : noStar e = true) (rest : List Expr) (env : Env) : assignEach (e :: rest) env = (false, assign e env) :: assignEach rest env := by
  cases e <;> first | rfl | (cases h; done)
theorem PTgs.shape {es : List Expr} {ts : List CT} (h : PTgs X c es ts) (env : Env) : (assignEach es env).length = es.length ∧ (assignEach es env).findIdx? (·.1) = none ∧ es.length = ts.length := by
  induction h with
  | nil => exact ⟨rfl, rfl, rfl⟩
  | cons hs _ _ ih =>
    rw [aeach_of hs]
    refine ⟨congrArg (· + 1) ih.1, ?_, congrArg (· + 1) ih.2.2⟩
    rw [List.findIdx?_cons, ih.2.1]
    rfl
theorem asgTs_len : ∀ {ts : List CT} {xs : List PV} {st st' : PSt}, asgTs ts xs st = some st' → ts.length = xs.length
  | [], [], _, _, _ => rfl
  | t :: ts, x :: xs, st, st', e => by
    unfold asgTs at e
    split at e
    · rw [List.length_cons, List.length_cons, asgTs_len e]
    · cases e
  | [], _ :: _, _, _, e => by unfold asgTs at e; cases e
  | _ :: _, [], _, _, e => by unfold asgTs at e; cases e
theorem gs_of : ∀ {es : List Expr} {ts : List CT}, PTgs X c es ts → PGs X es (tTs c ts)
  | [], [], .nil => pgs_w pgs_nil fun ws σ H Q ⟨f, h, st, xs, st', r, rs, rv, e, q⟩ => by
    cases rv with
    | nil =>
      unfold asgTs at e
      cases e
      exact ⟨rfl, q _ rs fun _ _ => rfl⟩
    | cons _ _ => unfold asgTs at e; cases e
  | e :: es, t :: ts, .cons hs he ht => by
    refine pgs_w (pgs_cons he (gs_of ht) (by rw [aeach_of hs]; rfl)) fun ws σ H Q ⟨f, h, st, xs, st', r, rs, rv, e, q⟩ => ?_
    cases rv with
    | nil => unfold asgTs at e; cases e
    | cons rv1 rvs =>
      unfold asgTs at e
      split at e
      · rename_i st1 e1
        refine ⟨_, _, rfl, f, h, st, _, st1, r, rs, rv1, asgA_of e1, fun σ1 rs1 w1 => ?_⟩
        refine ⟨f, h, st1, _, st', r, rs1, rvs, e, fun σ2 rs2 w2 => q σ2 rs2 fun vs hv => ?_⟩
        unfold tgsIn at hv
        rw [Bool.and_eq_true] at hv
        exact (w2 vs hv.2).trans (w1 vs hv.1)
      · cases e
theorem pg_alt {tg : Expr} {t u : TG} (h1 : PG X tg t) (h2 : PG X tg u) : PG X tg (fun v σ H Q => t v σ H Q ∨ u v σ H Q) := ⟨fun pins s σ H v u' Q I r q => by
  rcases q with q | q
  · exact h1.run pins s σ H v u' Q I r q
  · exact h2.run pins s σ H v u' Q I r q⟩
theorem g_tup {es : List Expr} {ts : List CT} {k : Nat} (hK : X.K = c.K) (hc : X.calm = true) (h : PTgs X c es ts) : PG X (.Tuple es k pos) (tT c (.tup ts)) := by
  obtain ⟨z1, z2, z3⟩ := h.shape X.env
  refine pg_w (pg_alt (pg_tup (n := es.length) hc (gs_of h) z1 z2) (pg_unl (n := es.length) hc (gs_of h) z1 z2)) fun v σ H Q ⟨f, h, st, x, st', r, rs, rv, e, q⟩ => ?_
  unfold asgA at e
  split at e
  · rename_i s e0
    cases e
    unfold asgT at e0
    split at e0
    · cases rv with
      | tup a1 a2 =>
        rw [hK]
        refine .inl ⟨_, _, rfl, SqT.of a1, ?_, f, h, st, _, st', r, rs, a2, e0, fun σ' rs' w => q σ' rs' fun vs hv => w vs ?_⟩
        · rw [← a2.length, ← asgTs_len e0, z3]
        · unfold tgIn at hv
          exact hv
    · cases e0
  · unfold asgL at e
    dsimp only at e
    split at e
    · split at e
      · rename_i i xs e1
        obtain ⟨a, vs, rfl, hs, rv2⟩ := seqL_at r rv e1
        rw [← hK] at hs
        refine .inr ⟨_, _, rfl, hs, ?_, f, h, st, _, st', r, rs, rv2, e, fun σ' rs' w => q σ' rs' fun vs hv => w vs ?_⟩
        · rw [← rv2.length, ← asgTs_len e, z3]
        · unfold tgIn at hv
          exact hv
      · cases e
    · cases e
end
end Pyx

namespace Pyx
open PySem PySem.Spec PyProof.Rows L2
def enumO (it : Addr) : Obj := { cls := .type "enumerate", data := .fields #[.none, .bool false, .ref it, rawInt 0, .none, .none] }
theorem enum_new1 {v : Value} {o : Obj} {HH : Heap → Prop} (B : Begins v o HH) :
    Meets (Builtin.«enumerate.__new__» ⟨[.type "enumerate", v], []⟩) (fun _ R s => HH s.heap ∧ R (.ok (.ret (.ref (s.heap.push o).objs.size))) { s with heap := (s.heap.push o).push (enumO s.heap.objs.size) }) :=
  .of_wp fun prog w A R s hh => by
    obtain ⟨hp, g, d, tk, os⟩ := s
    obtain ⟨h1, h2⟩ := hh
    have e1 := sub_enumerate
    have q1 : ∀ {A' : Around} {E : Value → Shared → Prop} {Q : Value → Shared → Prop}, Q (.ref hp.objs.size) ⟨hp.push o, g, d, tk, os⟩ → wpAny (model prog w) A' (pyIter v) Q E ⟨hp, g, d, tk, os⟩ := fun q =>
      B.iter prog w _ _ ⟨hp, g, d, tk, os⟩ _ h1 q
    wp_walk using q1
    refine wpAny_stack_any fun st => wpAny_pure ?_
    split <;> first | (wp_walk using q1; exact ⟨_, rfl, h2⟩) | (rename_i z _ _ _ _ _; cases (z == Value.type "enumerate") <;> (wp_walk using q1; exact ⟨_, rfl, h2⟩))
theorem call_enum1 {prog : Program} {w : World} {A : Around} {E : Value → Shared → Prop} {s : Shared} {v : Value} {o : Obj} {HH : Heap → Prop} {Q : Value → Shared → Prop} (B : Begins v o HH) (h1 : HH s.heap)
    (h : ∀ h', IsEnum h' (s.heap.objs.size + 1) s.heap.objs.size 0 .none → h'.get? s.heap.objs.size = some o → (∀ b u, s.heap.get? b = some u → h'.get? b = some u) → Q (.ref (s.heap.objs.size + 1)) { s with heap := h' }) :
    wpAny (model prog w) A (call (.type "enumerate") [v]) Q E s := by
  refine callType_new F.called_enumerate (by decide) (F.typeCall_enumerate_1 _) (F.newCall_enumerate_1 _) (fun obj => F.args_object_init_2 obj _) F.entry_enumerate_new (enum_new1 B) ⟨h1, ?_⟩
  have z : (s.heap.push o).objs.size = s.heap.objs.size + 1 := Heap.size_push ..
  show _ ∧ _
  rw [z]
  have e : IsEnum ((s.heap.push o).push (enumO s.heap.objs.size)) (s.heap.objs.size + 1) s.heap.objs.size 0 .none := by
    have q := Heap.get?_push_size (s.heap.push o) (o := enumO s.heap.objs.size) rfl
    rw [z] at q
    exact q
  have f0 : (s.heap.push o).get? s.heap.objs.size = some o := Heap.get?_push_size _ B.free
  exact ⟨⟨_, e, rfl⟩, h _ e (Heap.get?_push_of_some _ f0) fun b u q => Heap.get?_push_of_some _ (Heap.get?_push_of_some _ q)⟩
theorem turn_enumT {P : Program} {w : World} {K : PySem.W.Frag} {elts : List Expr} {kk : Nat} {tpos : Pos} (a e it : Addr) :
    Turn P w K (.Tuple elts kk tpos) (IteT K a) [e, it] e (fun i h => (∃ old, IsEnum h e it ((i : Nat) : Int) old) ∧ h.IsTupleIter it a i ∧ e ≠ it ∧ a ≠ it ∧ a ≠ e) where
  mem := List.mem_cons_self
  obj := fun i h st b hb => by
    obtain ⟨⟨old, he⟩, ⟨o, ho, hc, hd⟩, _⟩ := st
    rcases List.mem_cons.mp hb with z | z
    · subst z
      exact ⟨_, he, fun v q => by cases q⟩
    · have z : b = it := by simpa using z
      exact ⟨o, by rw [z]; exact ho, fun v q => by rw [hd] at q; cases q⟩
  keep := fun i h h' st k => by
    obtain ⟨⟨old, he⟩, hi, n1, n2, n3⟩ := st
    exact ⟨⟨old, k e List.mem_cons_self _ he⟩, hi.at fun o q => k it (by simp) o q, n1, n2, n3⟩
  item := by
    intro X hP hw hK hc i pins s σ H E I hf st hg
    subst hP hw hK
    obtain ⟨⟨old, he⟩, hit, hne, n2, n3⟩ := st
    obtain ⟨xs, x, hq, hx⟩ := hg
    obtain ⟨its, rv, p, hz⟩ := I.tuple hq
    obtain ⟨u, hu, ru⟩ := rv.get hx
    have le : e < s.heap.objs.size := Heap.lt_size he
    have li : it < s.heap.objs.size := by
      obtain ⟨_, q, _⟩ := hit
      exact Heap.lt_size q
    have hlen : i < its.toArray.size := by
      have z := (List.getElem?_eq_some_iff.mp hu).1
      simpa using z
    have hh : X.A.in1.handled = none := by simp [I.ok.hd hc]
    have D := Draws.tuple (prog := X.prog) (w := X.w) (A := X.A.in1) hh it a n2 its.toArray
    refine wpAny_pyNext_enum_itemD D he ⟨hit, p⟩ hlen hne (by simp; exact ⟨hne, Ne.symm n3⟩) fun y h' tk hy ho hst hT hsz hk => ?_
    have ey : y = u := by
      have z : its.toArray[i]? = some y := hy
      have z2 : its[i]? = some y := by simpa using z
      rw [hu] at z2
      exact (Option.some.inj z2).symm
    subst ey
    refine ⟨_, rfl, wpAny_letOwnedTupleGo_enum (s := { s with heap := h', toks := tk + 1 }) ho fun h2 he2 sb => ?_⟩
    have hT2 : h2.get? s.heap.objs.size = some { cls := .type "tuple", data := .seq #[.int i tk, y] } := (sb.2 _ (Nat.ne_of_gt le)).trans hT
    have new : ObjOk X.prog X.w (upd H s.heap.objs.size (.tup [.int (i : Nat), x])) h2 s.heap.objs.size (.tup [.int (i : Nat), x]) :=
      ⟨(by show 2 ≤ sizeLine; rw [sizeLine_eq]; decide), [.int i tk, y], .cons ⟨_, rfl⟩ (.cons ru .nil), ⟨_, hT2, rfl, _, rfl⟩⟩
    have I2 : L2.Inv X pins σ (upd H s.heap.objs.size (.tup [.int (i : Nat), x])) { s with heap := h2, toks := tk + 1 } :=
      I.turnedNew (ch := [e, it]) (fun b ob hb q => by
        have b1 : b ≠ e := fun z => hb (by simp [z])
        have b2 : b ≠ it := fun z => hb (by simp [z])
        exact (sb.2 b b1).trans (hk b ob b1 b2 q)) hf (Nat.le_refl _) new
    refine ⟨.ref s.heap.objs.size, _, I2, rfl, ⟨_, x, rfl, I.hok.fresh (Nat.le_refl _), rfl, fun ys hy => by rw [I.tuple_inj hy hq]; exact hx⟩, ⟨⟨y, ?_⟩, hst.1.at fun o q => (sb.2 it (Ne.symm hne)).trans q, hne, n2, n3⟩, fun b hb => ?_⟩
    · have e1 : ((i + 1 : Nat) : Int) = (i : Int) + 1 := by omega
      rw [e1]
      exact he2
    · have lb : b < s.heap.objs.size := by
        rcases List.mem_cons.mp hb with z | z
        · rw [z]; exact le
        · have z : b = it := by simpa using z
          rw [z]; exact li
      rw [upd_ne (Nat.ne_of_lt lb)]
      exact (hf b hb).1
  done := by
    intro X hP hw hK hc i pins s σ H E I hf st hg
    subst hP hw hK
    obtain ⟨⟨old, he⟩, hit, hne, n2, n3⟩ := st
    obtain ⟨xs, hq, hx⟩ := hg
    obtain ⟨its, rv, p, hz⟩ := I.tuple hq
    obtain ⟨f0, f1, f2, f3, f4, f5⟩ := hf it (by simp)
    have hl := rv.length
    have hh : X.A.in1.handled = none := by simp [I.ok.hd hc]
    have hx2 : its.toArray[i]? = none := by
      rw [Array.getElem?_eq_none]
      simp
      omega
    have D : Draws X.prog X.w X.A.in1 it [it, a] i (fun _ _ => False) (fun k h => k = i ∧ h.IsTupleIter it a i ∧ h.IsTuple a its.toArray) :=
      ⟨fun k h st => let ⟨o, ho, _⟩ := st.2.1; ⟨o, ho⟩, fun k h h' st hk => ⟨st.1, st.2.1.at fun o q => hk it (by simp) o q, st.2.2.at fun o q => hk a (by simp) o q⟩,
        fun k s Q E hk st _ => absurd st.1 (Nat.ne_of_lt hk), fun s Q E st hE => wpAny_nextOf_tuple_end hh st.2.1 st.2.2 hx2 hE⟩
    exact wpAny_pyNext_enum_endD D he ⟨rfl, hit, p⟩ fun h' eb => ⟨rfl, I.turned (t' := s.toks) (fun b o hb q => eb b o hb q) f0 f1 f3 f4 f5⟩
  self := fun A i s Q E st h => by
    obtain ⟨⟨_, he⟩, _⟩ := st
    exact wpAny_pyIter_enum he h
section
variable {X : Cx} {c : Rc} {rec : CE → PSt → PH → R PV} {e : Expr} {ce : CE}
theorem i_enum {p pos tpos : Pos} {elts : List Expr} {kk : Nat} (hK : X.K = c.K) (hg : Gl X "enumerate") (hm : X.mg "enumerate" = none) (hs : noStar e = true) (he : PE X e (tE c (rec ce))) :
    PI X (.Tuple elts kk tpos) (.Call (.Name "enumerate" p) [e] [] pos) (tI c (evI rec (.enum ce))) := by
  refine ⟨fun pins s σ H R' I ⟨f, h, st, r, rs, q⟩ => ?_⟩
  unfold evI at q
  dsimp only at q
  have z1 : starEach [e] X.env = [(false, eval e X.env)] := star_of hs _ _
  split at q
  · rename_i i h1 e1
    split at q
    · rename_i xs e2
      refine (pi_enum hg hm (pa_cons he pa_nil (star_of hs _ _)) z1).run pins s σ H R' I (tE_of e1 r rs fun f1 H1 x x1 r1 rs1 rv1 => ?_)
      cases rv1 with
      | ref hi =>
        obtain ⟨vs, h2, _⟩ := seqL_ref r1 hi e2
        rw [hK]
        exact ⟨_, vs, rfl, h2, q _ _ x1 r1 _ (.enumL hi)⟩
    · exact q.elim
  · rename_i xs h1 e1
    have hA : PA X [e] (tCons (tE c (rec ce)) tNil) := pa_cons he pa_nil (star_of hs _ _)
    have hrd : tCons (tE c (rec ce)) tNil σ H fun vs H1 => ∃ a ws, vs = [.ref a] ∧ H1 a = some (.tup ws) ∧ R' (IteT c.K a) H1 := tE_of e1 r rs fun f1 H1 x x1 r1 rs1 rv1 => by
      cases rv1 with
      | tup a1 a2 => exact ⟨_, _, rfl, a1, q _ _ x1 r1 _ (.enumT a1 a2)⟩
    refine Call_ (ld_blt I hg hm boot_enumerate (PyProof.Rows.callWith_type1 (thn (hA.run pos pins s σ H _ I hrd) fun us s1 ⟨vs, H1, I1, r1, q1⟩ => ?_) z1 rfl))
    obtain ⟨a, ws, ex, hq, q2⟩ := q1
    subst ex
    cases r1 with
    | cons rr rn =>
      cases rn
      cases rr
      obtain ⟨its, rv, pt, hz⟩ := I1.tuple (SqT.of (K := X.K) hq)
      refine call_enum1 (begins_tuple a its.toArray) pt fun h' he' hit hk => wpAny_pyIter_enum he' ?_
      have I2 : L2.Inv X pins σ H1 { s1 with heap := h' } := I1.kept (t' := s1.toks) hk
      have la : a < s1.heap.objs.size := by
        obtain ⟨_, q, _⟩ := pt
        exact Heap.lt_size q
      refine ⟨s1.heap.objs.size + 1, [s1.heap.objs.size + 1, s1.heap.objs.size], _, _, H1, rfl, I2, turn_enumT a (s1.heap.objs.size + 1) s1.heap.objs.size, ⟨⟨.none, he'⟩, ⟨_, hit, rfl, rfl⟩, Nat.succ_ne_self _, Nat.ne_of_lt la, Nat.ne_of_lt (Nat.lt_succ_of_lt la)⟩, fun b hb => ?_, by rw [hK]; exact q2⟩
      have hle : s1.heap.objs.size ≤ b := by
        rcases List.mem_cons.mp hb with z | z
        · rw [z]; exact Nat.le_add_right _ _
        · have z : b = s1.heap.objs.size := by simpa using z
          rw [z]; exact Nat.le_refl _
      exact I1.fpOk hle (I1.hok.fresh hle)
  · exact q.elim
end
end Pyx

namespace Pyx
open PySem PySem.Spec PyProof.Rows L2
section
variable {X : Cx} {c : Rc} {call : Nat → List PV → PH → R PV} {n : Nat} {rec : CE → PSt → PH → R PV} {a b d e : Expr} {ca cb cd ce : CE} {pos : Pos}
theorem tI_of {f : Nat → Addr} {h h1 : PH} {H : Hp} {st : PSt} {σ : L2.St} {ev : PSt → PH → R IV} {iv : IV} {Q : It → Hp → Prop} (hr : ev st h = .ok iv h1) (r : Rel c f h H) (s : RSt c f h.n H st σ)
    (k : ∀ f1 H1 J, Ext f h.n H f1 h1.n H1 → Rel c f1 h1 H1 → RSt c f1 h1.n H1 st σ → JOk c f1 h1.n H1 iv J → Q J H1) : tI c ev σ H Q :=
  ⟨f, h, st, r, s, by rw [hr]; exact fun f1 H1 e1 R1 J j => k f1 H1 J e1 R1 (s.mono e1) j⟩
def tIf' (c : Rc) (rec : CE → PSt → PH → R PV) (o : Option CB) : TT := tB' c (evIf rec o)
theorem rd_lc {it : CI} {tg : CT} {vs : List Nat} {ifs : Option CB} {elt : CE} :
    ∀ σ H Q, tE c (eLc n rec it tg vs ifs elt) σ H Q → tLc (tI c (evI rec it)) (tT c tg) (tIf' c rec ifs) (tE c (rec elt)) vs σ H Q := fun σ H Q ⟨f, h, st, r, rs, p⟩ => by
  unfold eLc at p
  split at p
  · exact p.elim
  · rename_i htg
    split at p
    · exact p.elim
    · rename_i iv h1 e1
      refine tI_of e1 r rs fun f1 H1 J x1 r1 rs1 j1 => fun D hD => ?_
      obtain ⟨r2, x2⟩ := r1.laid (xs := []) (vs := []) hD .nil
      refine ⟨fun i m H' => ∃ f' h', Ext f1 h1.n H1 f' h'.n H' ∧ h1.n < h'.n ∧ Rel c f' h' H' ∧ f' h1.n = D ∧ Post c f' h'.n H' (lcL rec iv tg ifs elt (wipeP st vs) h1.n m i h') (fun f2 h2 H2 _ => ∀ v, RV c f2 h2.n H2 (.ref h1.n) v → Q v H2), ⟨n, ext1 f1 h1.n D, h1.push (.lst []), x2, Nat.lt_succ_self _, r2, ext1_at, ?_⟩, ?_⟩
      · have p2 := (p.mono x1).mono x2
        cases z : lcL rec iv tg ifs elt (wipeP st vs) h1.n n 0 (h1.push (.lst [])) with
        | stuck => rw [z] at p2; exact p2.elim
        | ok u hz =>
          rw [z] at p2
          exact fun f3 H3 x3 r3 v rv => p2 f3 H3 x3 r3 v rv
      · rintro i m H2 ⟨f2, h2, x3, hlt, r3, fD, p3⟩
        have j2 := j1.mono x3
        cases m with
        | zero => exact p3.elim
        | succ m =>
          unfold lcL at p3
          split at p3
          · exact p3.elim
          · rename_i e2
            refine .inl ⟨ivN_stop r3 j2 e2, ?_⟩
            have q := p3 _ _ .refl r3 (.ref (f2 h1.n)) (.ref hlt)
            rw [fD] at q
            exact q
          · rename_i v e2
            obtain ⟨g1, g2⟩ := ivN_item r3 j2 e2
            split at p3
            · exact p3.elim
            · rename_i st1 e3
              refine .inr ⟨g1, fun H' => ∃ f' h', Ext f1 h1.n H1 f' h'.n H' ∧ h1.n < h'.n ∧ Rel c f' h' H' ∧ f' h1.n = D ∧ Post c f' h'.n H' (lcL rec iv tg ifs elt (wipeP st vs) h1.n m (i + 1) h') (fun f2 h2 H2 _ => ∀ v, RV c f2 h2.n H2 (.ref h1.n) v → Q v H2), fun H' w => ⟨m, Nat.lt_succ_self _, w⟩, fun x H' hy => ?_⟩
              obtain ⟨r4, x4, rv4⟩ := g2 x H' hy
              refine ⟨f2, h2, wipeP st vs, v, st1, r4, (rs1.mono (x3.trans x4)).wipe vs, rv4, asgA_of e3, fun σ' rs5 hw => ⟨?_, ?_⟩⟩
              · rw [hw vs htg]
                have ww : ∀ (l : List Nat), (∀ i ∈ l, i ∈ vs) → L2.wipe (L2.wipe σ vs) l = L2.wipe σ vs := by
                  intro l
                  induction l with
                  | nil => intro _; rfl
                  | cons i l ih =>
                    intro hl
                    unfold L2.wipe
                    rw [ih fun i hi => hl i (List.mem_cons_of_mem _ hi)]
                    have none_at : ∀ (l : List Nat) (i : Nat), i ∈ l → (L2.wipe σ l).set i none = L2.wipe σ l := by
                      intro l i hi
                      have q := wipe_set (σ := σ) (v := none) hi
                      by_cases hd : True
                      · clear q
                        induction l with
                        | nil => cases hi
                        | cons k l ih2 =>
                          unfold L2.wipe
                          rcases List.mem_cons.mp hi with z | z
                          · subst z
                            rw [List.set_set]
                          · by_cases hk : k = i
                            · subst hk
                              rw [List.set_set]
                            · rw [List.set_comm _ _ hk, ih2 z]
                      · exact absurd trivial hd
                    cases vs with
                    | nil => exact absurd (hl i List.mem_cons_self) (by simp)
                    | cons k vs' => exact none_at (k :: vs') i (hl i List.mem_cons_self)
                exact ww vs fun _ h => h
              · refine ⟨f2, h2, st1, r4, rs5, ?_⟩
                have p4 := p3.mono x4
                cases z : evIf rec ifs st1 h2 with
                | stuck => rw [z] at p4; exact p4.elim
                | ok k h3 =>
                  rw [z] at p4
                  intro f3 H3 x5 r5
                  cases k with
                  | false =>
                    rw [if_neg Bool.false_ne_true]
                    exact ⟨f3, h3, (x3.trans x4).trans x5, Nat.lt_of_lt_of_le hlt x5.le, r5, by rw [x5.eq _ hlt]; exact fD, p4.mono x5⟩
                  | true =>
                    rw [if_pos rfl]
                    have p5 : Post c f2 h2.n H' (match rec elt st1 h3 with
                        | .stuck => .stuck
                        | .ok v h2 => match lstAt (.ref h1.n) h2 with
                          | some (_, acc) => match small acc with
                            | true => lcL rec iv tg ifs elt (wipeP st vs) h1.n m (i + 1) (h2.set h1.n (.lst (acc ++ [v])))
                            | false => .stuck
                          | none => .stuck) (fun f2 h2 H2 _ => ∀ v, RV c f2 h2.n H2 (.ref h1.n) v → Q v H2) := p4
                    have rs6 := rs5.mono x5
                    cases z2 : rec elt st1 h3 with
                    | stuck => rw [z2] at p5; exact p5.elim
                    | ok w h4 =>
                      rw [z2] at p5
                      refine tE_of z2 r5 rs6 fun f4 H4 y x6 r6 rs7 rv7 => ?_
                      dsimp only at p5
                      split at p5
                      · rename_i e4
                        split at p5
                        · rename_i sm
                          have lt3 : h1.n < h3.n := Nat.lt_of_lt_of_le hlt x5.le
                          have lt4 : h1.n < h4.n := Nat.lt_of_lt_of_le lt3 x6.le
                          have f4D : f4 h1.n = D := by rw [x6.eq _ lt3, x5.eq _ hlt]; exact fD
                          obtain ⟨ws, ew, hg, hH, rvs⟩ := lstAt_at r6 (.ref lt4) e4
                          have ei : ∀ {k : Nat} {acc : List PV}, lstAt (.ref h1.n) h4 = some (k, acc) → k = h1.n := fun {k acc} q => by
                            unfold lstAt at q
                            dsimp only at q
                            split at q
                            · cases q; rfl
                            · cases q
                          have ek := ei e4
                          subst ek
                          obtain ⟨r8, x8⟩ := r6.write hg (rvs.app (.cons rv7 .nil))
                          rw [f4D] at hH r8 x8
                          refine ⟨ws, hH, by rw [← rvs.length]; exact small_size sm, f4, h4.set _ _, ((((x3.trans x4).trans x5).trans x6).trans x8), lt4, r8, f4D, ?_⟩
                          exact ((p5.mono x5).mono x6).mono x8
                        · exact p5.elim
                      · exact p5.elim
theorem pts_of {o : Option CB} {ifs : List Expr} (h : (o = none ∧ ifs = []) ∨ ∃ b cb, o = some cb ∧ ifs = [b] ∧ PT X b (tB' c (evB rec cb))) : PTs X ifs (tIf' c rec o) := by
  rcases h with ⟨rfl, rfl⟩ | ⟨b, cb, rfl, rfl, h⟩
  · exact ⟨fun pins s σ H Q I ⟨f, h, st, r, rs, p⟩ => pts_nil.run pins s σ H Q I (p _ _ .refl r)⟩
  · exact pts_one h
def FQ (c : Rc) (D : Ends) : (Nat → Addr) → PH → Hp → FR → Prop := fun f h H r => match r with
  | .nx st => ∀ σ, RSt c f h.n H st σ → D.nx σ H
  | .rt v => ∀ w, RV c f h.n H v w → D.rt w H
  | .bk st => ∀ σ, RSt c f h.n H st σ → D.bk σ H
  | .ct st => ∀ σ, RSt c f h.n H st σ → D.ct σ H
def tS (c : Rc) (ev : PSt → PH → R FR) : TS := fun D σ H => ∃ f h st, Rel c f h H ∧ RSt c f h.n H st σ ∧ Post c f h.n H (ev st h) (FQ c D)
variable {s : Stmt} {ss : List Stmt} {recS : CS → PSt → PH → R FR} {ev : CE → PSt → PH → R PV}
theorem ps_w {t t' : TS} (h : PS X s t) (k : ∀ D σ H, t' D σ H → t D σ H) : PS X s t' := ⟨fun pins s σ H D I q => h.run pins s σ H D I (k D σ H q)⟩
theorem pss_w {t t' : TS} (h : PSs X ss t) (k : ∀ D σ H, t' D σ H → t D σ H) : PSs X ss t' := ⟨fun pins s σ H D I q => h.run pins s σ H D I (k D σ H q)⟩
theorem t_stuck {ev : PSt → PH → R FR} (hs : ∀ st h, ev st h = .stuck) : PS X s (tS c ev) := ⟨fun pins s σ H D I ⟨f, h, st, r, r', p⟩ => by rw [hs] at p; exact p.elim⟩
inductive PSS (X : Cx) (c : Rc) (recS : CS → PSt → PH → R FR) : List Stmt → List CS → Prop where
  | nil : PSS X c recS [] []
  | cons {s : Stmt} {k : CS} {ss : List Stmt} {ks : List CS} : PS X s (tS c (recS k)) → PSS X c recS ss ks → PSS X c recS (s :: ss) (k :: ks)
theorem pss_of : ∀ {ss : List Stmt} {ks : List CS}, PSS X c recS ss ks → PSs X ss (tS c (evSs recS ks))
  | [], [], .nil => pss_w pss_nil fun D σ H ⟨f, h, st, r, rs, p⟩ => p _ _ .refl r _ rs
  | s :: ss, k :: ks, .cons hs ht => by
    refine pss_w (pss_cons hs (pss_of ht)) fun D σ H ⟨f, h, st, r, rs, p⟩ => ?_
    refine ⟨f, h, st, r, rs, ?_⟩
    unfold evSs at p
    cases z : recS k st h with
    | stuck => rw [z] at p; exact p.elim
    | ok q h1 =>
      rw [z] at p
      cases q with
      | nx st1 => exact fun f1 H1 x1 r1 σ1 rs1 => ⟨f1, h1, st1, r1, rs1, p.mono x1⟩
      | rt v => exact p
      | bk st1 => exact p
      | ct st1 => exact p
theorem t_pass : PS X (.Pass pos) (tS c (stepS n ev recS .pass)) := ps_w ps_pass fun D σ H ⟨f, h, st, r, rs, p⟩ => p _ _ .refl r _ rs
theorem t_brk : PS X (.Break pos) (tS c (stepS n ev recS .brk)) := ps_w ps_break fun D σ H ⟨f, h, st, r, rs, p⟩ => p _ _ .refl r _ rs
theorem t_cont : PS X (.Continue pos) (tS c (stepS n ev recS .cont)) := ps_w ps_continue fun D σ H ⟨f, h, st, r, rs, p⟩ => p _ _ .refl r _ rs
theorem t_retN : PS X (.Return none pos) (tS c (stepS n ev recS .retN)) := ps_w ps_retN fun D σ H ⟨f, h, st, r, rs, p⟩ => p _ _ .refl r _ .non
theorem t_expr (hn : noComp e = true) (he : PE X e (tE c (ev ce))) : PS X (.Expr e pos) (tS c (xExpr n ev recS ce)) := by
  refine ps_w (ps_expr he (comp_of hn _ _ _)) fun D σ H ⟨f, h, st, r, rs, p⟩ => ?_
  unfold xExpr at p
  split at p
  · exact p.elim
  · rename_i v h1 e1
    exact tE_of e1 r rs fun f1 H1 x x1 r1 rs1 rv1 => p _ _ x1 r1 _ rs1
theorem t_ret (he : PE X e (tE c (ev ce))) : PS X (.Return (some e) pos) (tS c (xRet n ev recS ce)) := by
  refine ps_w (ps_ret he) fun D σ H ⟨f, h, st, r, rs, p⟩ => ?_
  unfold xRet at p
  split at p
  · exact p.elim
  · rename_i v h1 e1
    exact tE_of e1 r rs fun f1 H1 x x1 r1 rs1 rv1 => p _ _ x1 r1 _ rv1
theorem rd_asg {t : CT} {te : TE} (hte : ∀ σ H Q, tE c (ev ce) σ H Q → te σ H Q) : ∀ D σ H, tS c (xAsg n ev recS t ce) D σ H → tAsg te (tT c t) D σ H := fun D σ H ⟨f, h, st, r, rs, p⟩ => by
  unfold xAsg at p
  split at p
  · exact p.elim
  · rename_i v h1 e1
    refine hte _ _ _ (tE_of e1 r rs fun f1 H1 x x1 r1 rs1 rv1 => ?_)
    split at p
    · rename_i st1 e2
      exact ⟨f1, h1, st, v, st1, r1, rs1, rv1, e2, fun σ' rs' _ => p _ _ x1 r1 _ rs'⟩
    · exact p.elim
theorem t_asg {tg : Expr} {t : CT} (he : PE X e (tE c (ev ce))) (hg : PG X tg (tT c t)) (hs : swapsWithSole [tg] e pos.line X.env = pure false) (hw : swappedStores [tg] e X.env = pure none) (h1 : (assignEach [tg] X.env).map (·.2) = [assign tg X.env]) :
    PS X (.Assign [tg] e pos) (tS c (xAsg n ev recS t ce)) := ps_w (ps_asg he hg hs hw h1) (rd_asg fun _ _ _ h => h)
theorem t_setLc {i : Nat} {y : Str} {py : Pos} {elt tg iter : Expr} {ifs : List Expr} {scope : Scope} {own : List (Str × Nat)} {spos : Pos} {ci : CI} {ct : CT} {co : Option CB} {celt : CE} {vs : List Nat} (hv : vs = own.map (·.2)) (hc : X.calm = true) (hN : X.N.Nodup) (hy : X.N[i]? = some y) (hyl : X.env.scope.names.lookup y = some .local)
    (hsw : swapsWith (.ListComp elt [⟨tg, iter, ifs, 0⟩] scope pos) (some (.Name y py)) spos.line X.env = pure true) (hi : PI X tg iter (tI c (evI rec ci))) (ok : BlkOk X.N X.env.scope scope own)
    (hg : ∀ (s : Shared) (H : Hp) (C : Addr) (cl : List (Str × Addr)) (fp : List Addr), PG (X.blk s H scope (compEnvC scope cl C X.env) fp) tg (tT c ct)) (ht : ∀ (s : Shared) (H : Hp) (C : Addr) (cl : List (Str × Addr)) (fp : List Addr), PTs (X.blk s H scope (compEnvC scope cl C X.env) fp) ifs (tIf' c rec co))
    (he : ∀ (s : Shared) (H : Hp) (C : Addr) (cl : List (Str × Addr)) (fp : List Addr), PE (X.blk s H scope (compEnvC scope cl C X.env) fp) elt (tE c (rec celt))) (hs : ∀ x, foldedSetIterable iter X.env x = pure x) (hev : ∀ st h, ev ce st h = eLc n rec ci ct vs co celt st h) :
    PS X (.Assign [.Name y py] (.ListComp elt [⟨tg, iter, ifs, 0⟩] scope pos) spos) (tS c (xAsg n ev recS (.nm i) ce)) := by
  subst hv
  refine ps_w (ps_setLc hc hN hy hyl hsw hi ok hg ht he hs) fun D σ H ⟨f, h, st, r, rs, p⟩ => ?_
  unfold xAsg at p
  split at p
  · exact p.elim
  · rename_i v h1 e1
    rw [hev] at e1
    refine rd_lc σ H _ (tE_of e1 r rs fun f1 H1 x x1 r1 rs1 rv1 => ?_)
    exact p _ _ x1 r1 _ (rs1.set i rv1)
theorem s_lc {elt tg iter : Expr} {ifs : List Expr} {scope : Scope} {own : List (Str × Nat)} {ci : CI} {ct : CT} {co : Option CB} {celt : CE} {vs : List Nat} (hv : vs = own.map (·.2)) (hc : X.calm = true) (hN : X.N.Nodup) (hi : PI X tg iter (tI c (evI rec ci))) (ok : BlkOk X.N X.env.scope scope own)
    (hg : ∀ (s : Shared) (H : Hp) (C : Addr) (cl : List (Str × Addr)) (fp : List Addr), PG (X.blk s H scope (compEnvC scope cl C X.env) fp) tg (tT c ct)) (ht : ∀ (s : Shared) (H : Hp) (C : Addr) (cl : List (Str × Addr)) (fp : List Addr), PTs (X.blk s H scope (compEnvC scope cl C X.env) fp) ifs (tIf' c rec co))
    (he : ∀ (s : Shared) (H : Hp) (C : Addr) (cl : List (Str × Addr)) (fp : List Addr), PE (X.blk s H scope (compEnvC scope cl C X.env) fp) elt (tE c (rec celt))) (hs : ∀ x, foldedSetIterable iter X.env x = pure x) :
    PE X (.ListComp elt [⟨tg, iter, ifs, 0⟩] scope pos) (tE c (eLc n rec ci ct vs co celt)) := by
  subst hv
  exact pe_w (pe_lc hc hN hi ok hg ht he hs) rd_lc
theorem t_par {i j : Nat} {x y : Str} {px py pt : Pos} {kt k2 : Nat} {pt2 : Pos} (hc : X.calm = true) (hN : X.N.Nodup) (hi : X.N[i]? = some x) (hj : X.N[j]? = some y) (hij : i ≠ j)
    (hx : X.env.scope.names.lookup x = some .local) (hy : X.env.scope.names.lookup y = some .local) (hsa : noStar a = true) (hsb : noStar b = true) (ha : PE X a (tE c (ev ca))) (hb : PE X b (tE c (ev cb)))
    (hw : swappedStores [.Tuple [.Name x px, .Name y py] kt pt] (.Tuple [a, b] k2 pt2) X.env = pure (some [x, y])) :
    PS X (.Assign [.Tuple [.Name x px, .Name y py] kt pt] (.Tuple [a, b] k2 pt2) pos) (tS c (xPar n ev recS i j ca cb)) := by
  refine ps_w (ps_par hc hN hi hj hij hx hy (pa_cons ha (pa_cons hb pa_nil (star_of hsb _ _)) (star_of hsa _ _)) hw rfl) fun D σ H ⟨f, h, st, r, rs, p⟩ => ?_
  unfold xPar at p
  split at p
  · exact p.elim
  · rename_i v h1 e1
    refine tE_of e1 r rs fun f1 H1 x x1 r1 rs1 rv1 => ?_
    split at p
    · exact p.elim
    · rename_i w h2 e2
      exact tE_of e2 r1 rs1 fun f2 H2 y x2 r2 rs2 rv2 => ⟨_, _, rfl, p _ _ (x1.trans x2) r2 _ ((rs2.set i (rv1.mono x2)).set j rv2)⟩
theorem t_par3 {i j l : Nat} {x y z : Str} {px py pz pt : Pos} {kt k2 : Nat} {pt2 : Pos} (hc : X.calm = true) (hN : X.N.Nodup) (hi : X.N[i]? = some x) (hj : X.N[j]? = some y) (hl : X.N[l]? = some z) (hij : i ≠ j) (hil : i ≠ l) (hjl : j ≠ l)
    (hx : X.env.scope.names.lookup x = some .local) (hy : X.env.scope.names.lookup y = some .local) (hz : X.env.scope.names.lookup z = some .local) (hsa : noStar a = true) (hsb : noStar b = true) (hsd : noStar d = true) (ha : PE X a (tE c (ev ca))) (hb : PE X b (tE c (ev cb))) (hd : PE X d (tE c (ev cd)))
    (hw : swappedStores [.Tuple [.Name x px, .Name y py, .Name z pz] kt pt] (.Tuple [a, b, d] k2 pt2) X.env = pure (some [x, y, z])) :
    PS X (.Assign [.Tuple [.Name x px, .Name y py, .Name z pz] kt pt] (.Tuple [a, b, d] k2 pt2) pos) (tS c (xPar3 n ev recS i j l ca cb cd)) := by
  refine ps_w (ps_par3 hc hN hi hj hl hij hil hjl hx hy hz (pa_cons ha (pa_cons hb (pa_cons hd pa_nil (star_of hsd _ _)) (star_of hsb _ _)) (star_of hsa _ _)) hw rfl) fun D σ H ⟨f, h, st, r, rs, p⟩ => ?_
  unfold xPar3 at p
  split at p
  · exact p.elim
  · rename_i v h1 e1
    refine tE_of e1 r rs fun f1 H1 x x1 r1 rs1 rv1 => ?_
    split at p
    · exact p.elim
    · rename_i w h2 e2
      refine tE_of e2 r1 rs1 fun f2 H2 y x2 r2 rs2 rv2 => ?_
      split at p
      · exact p.elim
      · rename_i u h3 e3
        exact tE_of e3 r2 rs2 fun f3 H3 z x3 r3 rs3 rv3 => ⟨_, _, _, rfl, p _ _ ((x1.trans x2).trans x3) r3 _ (((rs3.set i ((rv1.mono x2).mono x3)).set j (rv2.mono x3)).set l rv3)⟩
theorem t_setix {o i : Expr} {co ci : CE} {tpos : Pos} (hu : X.A.units + 65 < cLine) (hn : noComp e = true) (hs : noSlice i = true) (ho : PE X o (tE c (ev co))) (hi : PE X i (tE c (ev ci))) (he : PE X e (tE c (ev ce))) :
    PS X (.Assign [.Subscript o i tpos] e pos) (tS c (xSetix n ev recS co ci ce)) := by
  refine ps_w (ps_asg he (pg_sub ho hi (set_at (c := c) hu) (by intro v; cases i <;> first | rfl | (cases hs; done))) (by have q := comp_of hn (some (.Subscript o i tpos)) pos.line X.env; exact q) rfl rfl) fun D σ H ⟨f, h, st, r, rs, p⟩ => ?_
  unfold xSetix at p
  split at p
  · exact p.elim
  · rename_i v h1 e1
    refine tE_of e1 r rs fun f1 H1 x x1 r1 rs1 rv1 => ?_
    split at p
    · exact p.elim
    · rename_i w h2 e2
      refine tE_of e2 r1 rs1 fun f2 H2 y x2 r2 rs2 rv2 => ?_
      split at p
      · exact p.elim
      · rename_i u h3 e3
        refine tE_of e3 r2 rs2 fun f3 H3 z x3 r3 rs3 rv3 => ?_
        split at p
        · rename_i h4 e4
          refine ⟨f3, h3, w, u, v, h4, r3, rv2.mono x3, rv3, (rv1.mono x2).mono x3, e4, fun H' r4 x4 => ?_⟩
          exact p _ _ (((x1.trans x2).trans x3).trans x4) r4 _ (rs3.mono x4)
        · exact p.elim
def rAug (op : Bop) : TIp := fun x y H Q => ∃ i j k, x = .int i ∧ y = .int j ∧ augI op i j = some k ∧ Q (.int k) H
theorem ip_aug (op : Bop) : PIp X (opB op) (rAug op) := by
  intro pins s σ H x y v u Q I rx ry ⟨i, j, k, e1, e2, e3, q⟩
  subst e1
  subst e2
  unfold augI at e3
  cases op with
  | add => cases e3; exact iop_add pins s σ H _ _ v u Q I rx ry ⟨_, _, rfl, rfl, q⟩
  | sub => cases e3; exact iop_sub pins s σ H _ _ v u Q I rx ry ⟨_, _, rfl, rfl, q⟩
  | mul =>
    dsimp only at e3
    split at e3
    · rename_i e
      cases e3
      rw [Bool.or_eq_true] at e
      exact iop_mul pins s σ H _ _ v u Q I rx ry ⟨_, _, rfl, rfl, e.elim (fun z => .inl (wide_is z)) fun z => .inr (wide_is z), q⟩
    · cases e3
  | fdiv =>
    dsimp only at e3
    split at e3
    · rename_i e
      cases e3
      rw [Bool.and_eq_true] at e
      exact iop_fdiv pins s σ H _ _ v u Q I rx ry ⟨_, _, rfl, rfl, ⟨of_decide_eq_true e.1, of_decide_eq_true e.2⟩, q⟩
    · cases e3
  | mod =>
    dsimp only at e3
    split at e3
    · rename_i e
      cases e3
      exact iop_mod pins s σ H _ _ v u Q I rx ry ⟨_, _, rfl, rfl, of_decide_eq_true e, q⟩
    · cases e3
  | pow => cases e3
theorem t_augn {i : Nat} {x : Str} {op : Bop} {pos' : Pos} (hN : X.N.Nodup) (hi : X.N[i]? = some x) (hx : Loc X.env.scope x) (hf : X.fn x = true ∨ X.env.scope.names.lookup x = some .local) (he : PE X e (tE c (ev ce))) :
    PS X (.AugAssign (.Name x pos') (opB op) e pos) (tS c (xAugn n ev recS i op ce)) := by
  refine ps_w (ps_aug hN hi hx he (ip_aug op) hf) fun D σ H ⟨f, h, st, r, rs, p⟩ => ?_
  unfold xAugn at p
  split at p
  · rename_i u e0
    split at p
    · rename_i v h1 e1
      split at p
      · rename_i z e3
        obtain ⟨w, e2, r0⟩ := rs.2 _ _ e0
        refine ⟨w, e2, tE_of e1 r rs fun f1 H1 y x1 r1 rs1 rv1 => ?_⟩
        cases r0
        cases rv1
        exact ⟨_, _, _, rfl, rfl, e3, p _ _ x1 r1 _ (rs1.set i (.int _))⟩
      · exact p.elim
    · exact p.elim
  · exact p.elim
theorem t_ite {t : Expr} {bt : CB} {sa sb : List Stmt} {ka kb : List CS} (ht : PT X t (tB' c (evB ev bt))) (ha : PSS X c recS sa ka) (hb : PSS X c recS sb kb) : PS X (.If t sa sb pos) (tS c (xIte n ev recS bt ka kb)) := by
  refine ps_w (ps_if ht (pss_of ha) (pss_of hb)) fun D σ H ⟨f, h, st, r, rs, p⟩ => ?_
  unfold xIte at p
  split at p
  · exact p.elim
  · rename_i h1 e1
    refine tB_of e1 r rs fun f1 H1 x1 r1 rs1 => ?_
    rw [if_pos rfl]
    exact ⟨f1, h1, st, r1, rs1, p.mono x1⟩
  · rename_i h1 e1
    refine tB_of e1 r rs fun f1 H1 x1 r1 rs1 => ?_
    rw [if_neg Bool.false_ne_true]
    exact ⟨f1, h1, st, r1, rs1, p.mono x1⟩
theorem t_while {t : Expr} {bt : CB} {sb : List Stmt} {kb : List CS} (hxe : X.xe = fun _ _ => False) (ht : PT X t (tB' c (evB ev bt))) (hb : PSS X c recS sb kb) : PS X (.While t sb [] pos) (tS c (xWhile n ev recS bt kb)) := by
  refine ps_w (ps_while (by rw [hxe]; exact PassesOwn.never) ht (pss_of hb)) fun D σ H ⟨f, h, st, r, rs, p⟩ => ?_
  unfold xWhile at p
  refine ⟨fun m σ' H' => ∃ f' h' st', Rel c f' h' H' ∧ RSt c f' h'.n H' st' σ' ∧ Post c f' h'.n H' (whL (evB ev bt) (evSs recS kb) m st' h') (FQ c D), ⟨n, f, h, st, r, rs, p⟩, ?_⟩
  rintro m σ' H' ⟨f', h', st', r', rs', p'⟩
  cases m with
  | zero => exact p'.elim
  | succ m =>
    unfold whL at p'
    split at p'
    · exact p'.elim
    · rename_i h1 e1
      refine tB_of e1 r' rs' fun f1 H1 x1 r1 rs1 => ?_
      rw [if_neg Bool.false_ne_true]
      exact p' _ _ x1 r1 _ rs1
    · rename_i h1 e1
      refine tB_of e1 r' rs' fun f1 H1 x1 r1 rs1 => ?_
      rw [if_pos rfl]
      refine ⟨fun σ2 H2 => ∃ f' h' st', Rel c f' h' H2 ∧ RSt c f' h'.n H2 st' σ2 ∧ Post c f' h'.n H2 (whL (evB ev bt) (evSs recS kb) m st' h') (FQ c D), fun σ2 H2 w => ⟨m, Nat.lt_succ_self _, w⟩, f1, h1, st', r1, rs1, ?_⟩
      have p2 := p'.mono x1
      cases z : evSs recS kb st' h1 with
      | stuck => rw [z] at p2; exact p2.elim
      | ok q h2 =>
        rw [z] at p2
        cases q with
        | nx st2 => exact fun f2 H2 x2 r2 σ2 rs2 => ⟨f2, h2, st2, r2, rs2, p2.mono x2⟩
        | ct st2 => exact fun f2 H2 x2 r2 σ2 rs2 => ⟨f2, h2, st2, r2, rs2, p2.mono x2⟩
        | bk st2 => exact fun f2 H2 x2 r2 σ2 rs2 => p2 _ _ x2 r2 _ rs2
        | rt v => exact fun f2 H2 x2 r2 w rw2 => p2 _ _ x2 r2 _ rw2
theorem t_for {tg iter : Expr} {t : CT} {ci : CI} {sb : List Stmt} {kb : List CS} (hxe : X.xe = fun _ _ => False) (hc : X.calm = true) (hi : PI X tg iter (tI c (evI ev ci))) (hg : PG X tg (tT c t)) (hb : PSS X c recS sb kb) (hs : ∀ x, foldedSetIterable iter X.env x = pure x) :
    PS X (.For tg iter sb [] pos) (tS c (xFor n ev recS t ci kb)) := by
  refine ps_w (ps_for (by rw [hxe]; exact PassesOwn.never) hc hi hg (pss_of hb) hs) fun D σ H ⟨f, h, st, r, rs, p⟩ => ?_
  unfold xFor at p
  split at p
  · exact p.elim
  · rename_i iv h1 e1
    refine tI_of e1 r rs fun f1 H1 J x1 r1 rs1 j1 => ?_
    refine ⟨fun i m σ' H' => ∃ f' h' st', Ext f1 h1.n H1 f' h'.n H' ∧ Rel c f' h' H' ∧ RSt c f' h'.n H' st' σ' ∧ Post c f' h'.n H' (forL (evSs recS kb) iv t m i st' h') (FQ c D), ⟨n, f1, h1, st, .refl, r1, rs1, p.mono x1⟩, ?_⟩
    rintro i m σ' H' ⟨f', h', st', x', r', rs', p'⟩
    have j2 := j1.mono x'
    cases m with
    | zero => exact p'.elim
    | succ m =>
      unfold forL at p'
      split at p'
      · exact p'.elim
      · rename_i e2
        exact .inl ⟨ivN_stop r' j2 e2, p' _ _ .refl r' _ rs'⟩
      · rename_i v e2
        obtain ⟨g1, g2⟩ := ivN_item r' j2 e2
        split at p'
        · exact p'.elim
        · rename_i st1 e3
          refine .inr ⟨g1, fun σ2 H2 => ∃ f' h' st', Ext f1 h1.n H1 f' h'.n H2 ∧ Rel c f' h' H2 ∧ RSt c f' h'.n H2 st' σ2 ∧ Post c f' h'.n H2 (forL (evSs recS kb) iv t m (i + 1) st' h') (FQ c D), fun σ2 H2 w => ⟨m, Nat.lt_succ_self _, w⟩, fun x H2 hy => ?_⟩
          obtain ⟨r4, x4, rv4⟩ := g2 x H2 hy
          refine ⟨f', h', st', v, st1, r4, rs'.mono x4, rv4, asgA_of e3, fun σ2 rs2 _ => ⟨f', h', st1, r4, rs2, ?_⟩⟩
          have p2 := p'.mono x4
          cases z : evSs recS kb st1 h' with
          | stuck => rw [z] at p2; exact p2.elim
          | ok q h2 =>
            rw [z] at p2
            cases q with
            | nx st2 => exact fun f2 H2 x2 r2 σ2 rs2 => ⟨f2, h2, st2, (x'.trans x4).trans x2, r2, rs2, p2.mono x2⟩
            | ct st2 => exact fun f2 H2 x2 r2 σ2 rs2 => ⟨f2, h2, st2, (x'.trans x4).trans x2, r2, rs2, p2.mono x2⟩
            | bk st2 => exact fun f2 H2 x2 r2 σ2 rs2 => p2 _ _ x2 r2 _ rs2
            | rt v => exact fun f2 H2 x2 r2 w rw2 => p2 _ _ x2 r2 _ rw2
end
end Pyx

namespace Pyx
open PySem PySem.Spec PyProof.Rows L2
section
variable {prog : Program} {w : World} {A : Around} {E : Value → Shared → Prop} {s : Shared}
theorem adjust_rev (n : Nat) : Builtin.Slice.sliceAdjust none none (-1) (n : Int) = ((n : Int) - 1, -1) := by
  unfold Builtin.Slice.sliceAdjust
  rfl
theorem places_rev (n : Nat) : Builtin.Slice.slicePlaces ((n : Int) - 1) (-1) (-1) = n := by
  unfold Builtin.Slice.slicePlaces
  have h1 : ¬ ((-1 : Int) > 0) := by omega
  simp only [h1, if_false, Int.neg_neg, Int.ediv_one]
  split <;> omega
theorem sliceApplied_rev {sl : Addr} {vs : Value} {n : Nat} {Q : Int × Int × Nat → Shared → Prop} (hs : s.heap.IsSliceOf sl .none .none vs) (ps : IsPart vs (some (-1)))
    (h : Q ((n : Int) - 1, -1, n) s) : wpAny (model prog w) A (Builtin.Slice.sliceApplied (.ref sl) (pure (n : Int))) Q E s := by
  obtain ⟨os, hos, hcs, hds⟩ := id hs
  unfold Builtin.Slice.sliceApplied Builtin.Slice.sliceFields
  refine wpAny_bind (wpAny_bind (wpAny_field hos hds (x := .none) rfl (wpAny_bind (wpAny_field hos hds (x := .none) rfl (wpAny_bind (wpAny_field hos hds (x := vs) rfl (wpAny_pure ?_)))))))
  refine wpAny_bind (HT.slicePart_ ps ?_)
  show wpAny _ _ (if ((-1 : Int) == 0) = true then _ else _) _ _ s
  rw [if_neg (by decide)]
  refine wpAny_bind (slicePart_none (wpAny_bind (slicePart_none (wpAny_bind (wpAny_pure ?_)))))
  show wpAny _ _ (match Builtin.Slice.sliceAdjust none none (-1) (n : Int) with | (lo, hi) => pure (lo, (-1 : Int), Builtin.Slice.slicePlaces lo hi (-1))) _ _ s
  rw [adjust_rev n]
  show wpAny _ _ (pure ((n : Int) - 1, (-1 : Int), Builtin.Slice.slicePlaces ((n : Int) - 1) (-1) (-1))) _ _ s
  rw [places_rev]
  exact wpAny_pure h
theorem fm_congr {α β : Type} {f g : α → Option β} : ∀ {l : List α}, (∀ x ∈ l, f x = g x) → l.filterMap f = l.filterMap g
  | [], _ => rfl
  | x :: l, h => by
    rw [List.filterMap_cons, List.filterMap_cons, h x (List.mem_cons_self ..), fm_congr fun y hy => h y (List.mem_cons_of_mem _ hy)]
theorem pick_rev (xs : Array Value) : ((List.range xs.size).filterMap fun (m : Nat) => xs[((xs.size : Int) - 1 + (m : Int) * (-1)).toNat]?).toArray = xs.toList.reverse.toArray := by
  rw [← PySem.W.krv_all xs, ← List.filterMap_reverse, ← PySem.W.krv_range, List.filterMap_map]
  refine congrArg List.toArray (fm_congr fun m hm => ?_)
  have := List.mem_range.mp hm
  show xs[_]? = xs[xs.size - 1 - m]?
  congr 1
  omega
theorem getItem_tuple_rev {t sl : Addr} {items : Array Value} {vs : Value} {Q : Value → Shared → Prop} (ht : IsTup s.heap t items) (hs : s.heap.IsSliceOf sl .none .none vs) (ps : IsPart vs (some (-1)))
    (h : Q (.ref s.heap.objs.size) { s with heap := s.heap.push { cls := .type "tuple", data := .seq items.toList.reverse.toArray } })
    (hsz : items.size ≤ sizeLine) : wpAny (model prog w) A (getItem (.ref t) (.ref sl)) Q E s := by
  have hrev : sizeOk (.seq items.toList.reverse.toArray) := by
    show items.toList.reverse.toArray.size ≤ sizeLine
    rw [List.size_toArray, List.length_reverse, Array.length_toList]
    exact hsz
  obtain ⟨os, hos, hcs, hds⟩ := id hs
  have hTs : s.TypeIs (.ref sl) "slice" := ⟨os, hos, hcs⟩
  unfold getItem
  try with_reducible refine wpAny_holding ?_
  first | refine wpAny_bind (wpAny_pure ?_) | skip
  refine wpAny_bind (wpAny_sequenceKey ht.typeIs (by decide) ?_)
  refine wpAny_bind (wpAny_callSpecial?_slot (name := Str.ofString "__getitem__") ht.typeIs PyProof.Rows.slot_tuple_getitem
    (wpAny_call_entry PyProof.Rows.slot_tuple_getitem ht.typeIs entry_tuple_getitem ?_ (args_tuple_getitem _ _)))
  show wpAny _ _ (Builtin.Tuple.tupleItemsOf (.ref t) >>= _) _ _ s
  refine wpAny_bind (tupleItemsOf_ ht ?_)
  refine wpAny_bind (wpAny_typeOf hTs ?_)
  rw [if_pos (by decide)]
  refine wpAny_bind (sliceApplied_rev hs ps ?_)
  have hno : ¬ ((((items.size : Int) - 1) == 0 && (-1 : Int) == 1 && items.size == items.size) = true) := by
    intro q
    rw [Bool.and_eq_true, Bool.and_eq_true] at q
    exact absurd q.1.2 (by decide)
  show wpAny _ _ (if (((items.size : Int) - 1) == 0 && (-1 : Int) == 1 && items.size == items.size) = true then _ else _) _ _ s
  rw [if_neg hno, pick_rev]
  first
    | exact wpAny_bind (m := Builtin.Tuple.tupleExact _) (wpAny_newObj_type (wpAny_pure ⟨_, rfl, wpAny_pure h⟩) hrev)
    | exact wpAny_bind (m := Builtin.Tuple.tupleExact _) (wpAny_newObj_type (wpAny_bind (wpAny_pure (wpAny_pure ⟨_, rfl, wpAny_pure h⟩))) hrev)
    | exact wpAny_bind (wpAny_bind (m := Builtin.Tuple.tupleExact _) (wpAny_newObj_type (wpAny_pure (wpAny_pure ⟨_, rfl, wpAny_pure h⟩)) hrev))
    | exact wpAny_bind (wpAny_bind (m := Builtin.Tuple.tupleExact _) (wpAny_newObj_type (wpAny_pure ⟨_, rfl, wpAny_pure h⟩) hrev))
end
section
variable {X : Cx} {e : Expr} {te : TE} {r : V → Hp → VK → Prop}
def tRevT (K : PySem.W.Frag) (te : TE) : TE := fun σ H Q => te σ H fun x H1 => (∃ a xs, x = .ref a ∧ SqL K H1 a xs ∧ ∀ p, H1 p = none → Q (.ref p) (upd H1 p (.lst xs.reverse))) ∨ (∃ a xs, x = .ref a ∧ SqT K H1 a xs ∧ ∀ p, H1 p = none → Q (.ref p) (upd H1 p (.tup xs.reverse)))
theorem pe_revT {k : Nat} {p1 p2 p3 pos : Pos} (he : PE X e te) : PE X (.Subscript e (.Slice none none (some (.UnaryOp .USub (.Constant (.int 1) k p1) p2)) p3) pos) (tRevT X.K te) := by
  refine ⟨fun pins s σ H Q I h => ?_⟩
  refine Subscript_ (thn (he.run pins s σ H _ I h) fun v s1 ⟨x, H1, I1, r1, q1⟩ => ?_)
  have hst : L2.PO X (some (.UnaryOp .USub (.Constant (.int 1) k p1) p2)) (tPart (tUn (rU fun i => .int (-i)) (tC (.int 1)))) := po_some (pe_un un_neg pe_int)
  refine wpAny_Slice (thn (po_none.run pins s1 σ H1 (fun o H2 => o = none ∧ H2 = H1) I1 ⟨rfl, rfl⟩) fun vl s2 ⟨l, H2, I2, pl, el, e2⟩ => ?_)
  subst el e2
  refine thn (po_none.run pins s2 σ H2 (fun o H3 => o = none ∧ H3 = H2) I2 ⟨rfl, rfl⟩) fun vu s3 ⟨u, H3, I3, pu, eu, e3⟩ => ?_
  subst eu e3
  refine thn (hst.run pins s3 σ H3 (fun o H4 => o = some (-1) ∧ H4 = H3) I3 ⟨1, rfl, -1, rfl, rfl, rfl⟩) fun vs s4 ⟨o, H4, I4, ps, eo, e4⟩ => ?_
  subst eo e4
  have I5 : Inv X pins σ H4 { s4 with heap := s4.heap.push { cls := .type "slice", data := .fields #[vl, vu, vs] } } := I4.kept (t' := s4.toks) fun b ob q => Heap.get?_push_of_some _ q
  rcases q1 with ⟨a, xs, ex, hx, q⟩ | ⟨a, xs, ex, hx, q⟩
  · subst ex
    cases r1
    obtain ⟨its, r, ht, hz⟩ := I5.list hx
    have hlen := r.length
    show wpAny (model X.prog X.w) X.A (subscriptTail e (.Slice none none (some (.UnaryOp .USub (.Constant (.int 1) k p1) p2)) p3) (.ref a) (.ref s4.heap.objs.size)) (EP X pins σ Q) X.xe { s4 with heap := s4.heap.push { cls := .type "slice", data := .fields #[vl, vu, vs] } }
    refine tail_any (ops := [.ref a, .ref s4.heap.objs.size]) ht.isList.typeIs (PySem.slot_list_getitem.lookup) ?_ (by with_unfolding_all rfl)
    refine wpAny_getItem_list_slice ht.isList (Heap.IsSliceOf.new _ vl vu vs) pl pu ps (by decide) ?_ (by rw [List.size_toArray]; omega)
    rw [PySem.W.krv_pick]
    refine ⟨.ref _, _, I5.laid (t' := s4.toks) (o := .lst xs.reverse) (fun b ob q => Heap.get?_push_of_some _ q) (Nat.le_refl _) ?_, rfl, q _ (I5.hok.fresh (Nat.le_refl _))⟩
    exact ⟨by rw [List.length_reverse]; exact hz, _, 0, r.reverse, Heap.get?_push_size _ rfl⟩
  · subst ex
    cases r1
    cases pl
    cases pu
    obtain ⟨its, r, ht, hz⟩ := I5.tuple hx
    have hlen : its.toArray.size = xs.length := by rw [List.size_toArray]; exact r.length.symm
    show wpAny (model X.prog X.w) X.A (subscriptTail e (.Slice none none (some (.UnaryOp .USub (.Constant (.int 1) k p1) p2)) p3) (.ref a) (.ref s4.heap.objs.size)) (EP X pins σ Q) X.xe { s4 with heap := s4.heap.push { cls := .type "slice", data := .fields #[.none, .none, vs] } }
    refine tail_any (ops := [.ref a, .ref s4.heap.objs.size]) ht.typeIs PyProof.Rows.slot_tuple_getitem.lookup ?_ (by with_unfolding_all rfl)
    refine getItem_tuple_rev ht (Heap.IsSliceOf.new _ .none .none vs) ps ?_ (by rw [hlen]; exact hz)
    refine ⟨.ref _, _, I5.laid (t' := s4.toks) (o := .tup xs.reverse) (fun b ob q => Heap.get?_push_of_some _ q) (Nat.le_refl _) ?_, rfl, q _ (I5.hok.fresh (Nat.le_refl _))⟩
    exact ⟨by rw [List.length_reverse]; exact hz, _, r.reverse, IsTup.new _ _⟩
end
end Pyx

namespace Pyx
open PySem PySem.Spec PyProof.Rows L2
section
variable {X : Cx} {c : Rc} {call : Nat → List PV → PH → R PV} {n : Nat} {rec : CE → PSt → PH → R PV} {a b d e : Expr} {ca cb cd ce : CE} {pos : Pos}
theorem RVs.rev {f : Nat → Addr} {m : Nat} {H : Hp} : ∀ {xs : List PV} {vs : List V}, RVs c f m H xs vs → RVs c f m H xs.reverse vs.reverse
  | [], [], .nil => .nil
  | _ :: _, _ :: _, .cons h t => by
    rw [List.reverse_cons, List.reverse_cons]
    exact t.rev.app (.cons h .nil)
theorem s_rev {k : Nat} {p1 p2 p3 : Pos} (hK : X.K = c.K) (ha : PE X a (tE c (rec ca))) : PE X (.Subscript a (.Slice none none (some (.UnaryOp .USub (.Constant (.int 1) k p1) p2)) p3) pos) (tE c (eRev rec ca)) := by
  refine pe_w (pe_revT ha) fun σ H Q ⟨f, h, st, r, rs, p⟩ => ?_
  unfold eRev at p
  split at p
  · exact p.elim
  · rename_i xs h1 e1
    refine tE_of e1 r rs fun f1 H1 x x1 r1 rs1 rv1 => ?_
    cases rv1 with
    | tup g1 g2 =>
      obtain ⟨z, k1, k2⟩ := okT_at r1 g2.rev (p.mono x1)
      exact .inr ⟨_, _, rfl, SqT.of g1, k1⟩
  · rename_i v h1 e1
    refine tE_of e1 r rs fun f1 H1 x x1 r1 rs1 rv1 => ?_
    split at p
    · rename_i xs e2
      obtain ⟨a, vs, rfl, hs, rv⟩ := seqL_at r1 rv1 e2
      have rv2 := rv.rev
      obtain ⟨z, k1⟩ := okL_at r1 rv2 (p.mono x1)
      rw [hK]
      exact .inl ⟨a, vs, rfl, hs, k1⟩
    · exact p.elim
theorem s_dnew {t : Bool} : PE X (.Dict [] [] pos) (tE c fun _ h => eDnew t h) := by
  cases t with
  | true =>
    refine pe_w pe_dnewT fun σ H Q ⟨f, h, st, r, rs, p⟩ => fun q hq => ?_
    obtain ⟨r1, x1⟩ := r.lays (o := .dT []) (u := .dT []) hq (.dT upd_same .nil trivial)
    have z := RV.ref (c := c) (f := ext1 f h.n q) (n := h.n + 1) (H := upd H q (.dT [])) (Nat.lt_succ_self h.n)
    rw [ext1_at] at z
    exact p _ _ x1 r1 _ z
  | false =>
    refine pe_w pe_dnewK fun σ H Q ⟨f, h, st, r, rs, p⟩ => fun q hq => ?_
    obtain ⟨r1, x1⟩ := r.lays (o := .dK []) (u := .dK []) hq (.dK upd_same .nil trivial)
    have z := RV.ref (c := c) (f := ext1 f h.n q) (n := h.n + 1) (H := upd H q (.dK [])) (Nat.lt_succ_self h.n)
    rw [ext1_at] at z
    exact p _ _ x1 r1 _ z
inductive PDs (X : Cx) (c : Rc) (rec : CE → PSt → PH → R PV) : List (Option Expr) → List Expr → List CE → List CE → Prop where
  | nil : PDs X c rec [] [] [] []
  | cons {k v : Expr} {ck cv : CE} {ks : List (Option Expr)} {vs : List Expr} {cks cvs : List CE} : PE X k (tE c (rec ck)) → PE X v (tE c (rec cv)) → PDs X c rec ks vs cks cvs → PDs X c rec (some k :: ks) (v :: vs) (ck :: cks) (cv :: cvs)
def trD (c : Rc) (rec : CE → PSt → PH → R PV) : List CE → List CE → List (TE × TE)
  | k :: ks, v :: vs => (tE c (rec k), tE c (rec v)) :: trD c rec ks vs
  | _, _ => []
theorem PDs.shape {ks : List (Option Expr)} {vs : List Expr} {cks cvs : List CE} (h : PDs X c rec ks vs cks cvs) : ks.all (·.isSome) = true ∧ ks.length = vs.length ∧ PPs X pos ks vs (trD c rec cks cvs) := by
  induction h with
  | nil => exact ⟨rfl, rfl, pps_nil⟩
  | cons hk hv _ ih => exact ⟨by rw [List.all_cons, ih.1]; rfl, by rw [List.length_cons, List.length_cons, ih.2.1], pps_cons hk hv ih.2.2⟩
theorem trD_at {ks : List (Option Expr)} {vs : List Expr} {cks cvs : List CE} (hp : PDs X c rec ks vs cks cvs) : ∀ {f : Nat → Addr} {h : PH} {H : Hp} {st : PSt} {σ : L2.St} {Q : List (V × V) → Hp → Prop}, Rel c f h H → RSt c f h.n H st σ →
    Post c f h.n H (evPs rec cks cvs st h) (fun f' h' H' ps => ∀ kvs : List (Key × V), RD kI c f' h'.n H' ps kvs → Q (kvs.map fun kv => (kV kv.1, kv.2)) H') → tPairs (trD c rec cks cvs) σ H Q := by
  induction hp with
  | nil => intro f h H st σ Q r rs p; exact p _ _ .refl r [] .nil
  | cons hk hv _ ih =>
    intro f h H st σ Q r rs p
    unfold evPs at p
    split at p
    · rename_i i h1 e1
      refine tE_of e1 r rs fun f1 H1 x x1 r1 rs1 rv1 => ?_
      split at p
      · exact p.elim
      · rename_i y h2 e2
        refine tE_of e2 r1 rs1 fun f2 H2 z x2 r2 rs2 rv2 => ?_
        cases rv1
        refine ih r2 rs2 ?_
        have p2 := (p.mono x1).mono x2
        split at p2
        · exact p2.elim
        · rename_i ps h3 e3
          rw [e3]
          intro f3 H3 x3 r3 kvs rd
          exact p2 f3 H3 x3 r3 ((kI i, z) :: kvs) (.cons (rv2.mono x3) rd)
    · exact p.elim
theorem merge_at {f : Nat → Addr} {k : Nat} {H : Hp} : ∀ {ps : List (Int × PV)} {kvs : List (Key × V)} {acc : List (Int × PV)} {ws : List (Key × V)}, RD kI c f k H ps kvs → RD kI c f k H acc ws → NoTw ws → RD kI c f k H (mergeG ps acc) (mergeK ws kvs) ∧ NoTw (mergeK ws kvs)
  | _, _, _, _, .nil, h, nt => ⟨h, nt⟩
  | _, _, _, _, .cons (k := i) hv t, h, nt => by
    have z := merge_at t (h.put kI_inj i hv nt) nt.put
    exact z
theorem s_disp {ks : List (Option Expr)} {vs : List Expr} {cks cvs : List CE} (hp : PDs X c rec ks vs cks cvs) (h0 : ks ≠ []) (h15 : ks.length ≤ 15) : PE X (.Dict ks vs pos) (tE c (eDisp rec cks cvs)) := by
  obtain ⟨s1, s2, s3⟩ := hp.shape (pos := pos)
  refine pe_w (pe_disp s3 s1 s2 h0 h15) fun σ H Q ⟨f, h, st, r, rs, p⟩ => fun q hq => ?_
  obtain ⟨r1, x1⟩ := r.lays (o := .dK []) (u := .dK []) hq (.dK upd_same .nil trivial)
  refine trD_at hp r1 (rs.mono x1) ?_
  unfold eDisp at p
  split at p
  · exact p.elim
  · rename_i ps h1 e1
    rw [e1]
    intro f2 H2 x2 r2 kvs rd
    have eq : f2 h.n = q := by rw [x2.eq _ (Nat.lt_succ_self h.n)]; exact ext1_at
    split at p
    · rename_i g
      split at p
      · rename_i hz
        cases r2.obj _ _ g with
        | dK g1 g2 g3 =>
          cases g2
          obtain ⟨m1, m2⟩ := merge_at rd .nil trivial
          obtain ⟨r3, x3⟩ := r2.writeK g m1 m2
          rw [eq] at g1 r3 x3
          refine ⟨g1, kvs, rfl, by rw [← rd.length]; exact Nat.le_of_ble_eq_true hz, ?_⟩
          have z := RV.ref (c := c) (f := f2) (n := h1.n) (H := upd H2 q (.dK (mergeK [] kvs))) (get_lt g)
          rw [eq] at z
          exact p _ _ ((x1.trans x2).trans x3) r3 _ z
      · exact p.elim
    · exact p.elim
def rGetP (c : Rc) : V → V → Hp → VK → Prop := fun x y H Q => ∃ f h pv pw pu, Rel c f h H ∧ RV c f h.n H pv x ∧ RV c f h.n H pw y ∧ ixP pv pw h = some pu ∧ (∀ xs, pv ≠ .tup xs) ∧ ∀ v, RV c f h.n H pu v → Q v H
theorem get_list : PGet X (rIxL X.K) := by
  intro pins s σ H x y v u Q I rx ry h
  obtain ⟨p, xs, i, z, rfl, rfl, hq, he, q⟩ := h
  cases rx
  obtain ⟨t, rfl⟩ := ry
  obtain ⟨its, r, pl, hz⟩ := I.list hq
  obtain ⟨j, h1, h2, h3, h4, h5⟩ := atI_get he
  obtain ⟨w, ew, rw'⟩ := r.get h2
  have hl := r.length
  have hn := line63
  have fin : EP X pins σ Q w s := ⟨z, H, I, rw', q⟩
  by_cases h0 : 0 ≤ i
  · have hj : i.toNat = j := by
      rw [seqIndex_of h0 h5] at h1
      exact Option.some.inj h1
    exact wpAny_getItem_list pl.isList h0 (by omega) (by rw [hj]; simpa using ew) fin
  · have hj : (i + (its.toArray.size : Int)).toNat = j := by
      rw [seqIndex_neg (by omega) h4] at h1
      rw [List.size_toArray, ← hl]
      exact Option.some.inj h1
    exact wpAny_getItem_list_neg pl.isList (by omega) (by rw [List.size_toArray] <;> omega) (by omega) (by rw [hj]; simpa using ew) fin
theorem getP_at (hK : X.K = c.K) (hu : X.A.units + 65 < cLine) : PGet X (rGetP c) := by
  intro pins s σ H x y v u Q I rx ry ⟨f, h, pv, pw, pu, r, r1, r2, p, nt, q⟩
  have dict : dGetP pv pw h = some pu → wpAny (model X.prog X.w) X.A (getItem v u) (EP X pins σ Q) X.xe s := fun p => by
    obtain ⟨a, w, e, g, r3⟩ := dGetP_at r r1 r2 p
    subst e
    cases (show v = Value.ref a from rx)
    exact d_getItem (by omega) I g ry fun w' s' I' rw' => ⟨w, H, I', rw', q w r3⟩
  unfold ixP at p
  split at p
  · rename_i i
    split at p
    · rename_i xs e
      cases r2
      obtain ⟨a, vs, ea, hs, rv⟩ := seqOf_at2 r r1 e
      obtain ⟨w, e1, r3⟩ := atI_at rv p
      rcases hs with hs | hs
      · rw [← hK] at hs
        exact get_list pins s σ H x _ v u Q I rx ry ⟨a, vs, i, w, ea, rfl, hs, e1, q w r3⟩
      · exact absurd hs.1 (nt _)
    · exact dict p
  · exact dict p
theorem setP_tup {xs : List PV} {k v : PV} {h : PH} : setP (.tup xs) k v h = none := by
  unfold setP lstAt dPutP
  dsimp only
  split
  · rename_i z; cases z
  · rfl
variable {recS : CS → PSt → PH → R FR} {ev : CE → PSt → PH → R PV}
theorem t_augix {o i : Expr} {co ci : CE} {op : Bop} {tpos : Pos} (hK : X.K = c.K) (hu : X.A.units + 65 < cLine) (hs : noSlice i = true) (ho : PE X o (tE c (ev co))) (hi : PE X i (tE c (ev ci))) (he : PE X e (tE c (ev ce))) :
    PS X (.AugAssign (.Subscript o i tpos) (opB op) e pos) (tS c (xAugix n ev recS co ci op ce)) := by
  refine ps_w (ps_augS ho hi (getP_at (c := c) hK hu) he (ip_aug op) (set_at (c := c) hu) (by intro ov iv new; cases i <;> first | rfl | (cases hs; done))) fun D σ H ⟨f, h, st, r, rs, p⟩ => ?_
  unfold xAugix at p
  split at p
  · exact p.elim
  · rename_i x h1 e1
    refine tE_of e1 r rs fun f1 H1 v1 x1 r1 rs1 rv1 => ?_
    split at p
    · exact p.elim
    · rename_i k h2 e2
      refine tE_of e2 r1 rs1 fun f2 H2 v2 x2 r2 rs2 rv2 => ?_
      split at p
      · rename_i z e3
        split at p
        · rename_i y h3 e4
          split at p
          · rename_i m e5
            split at p
            · rename_i h4 e6
              refine ⟨f2, h2, x, k, _, r2, rv1.mono x2, rv2, e3, fun xs ex => ?_, fun v rv3 => ?_⟩
              · rw [ex, setP_tup] at e6
                cases e6
              · cases rv3
                refine tE_of e4 r2 rs2 fun f3 H3 v3 x3 r3 rs3 rv3 => ?_
                cases rv3
                refine ⟨_, _, _, rfl, rfl, e5, f3, h3, x, k, .int m, h4, r3, (rv1.mono x2).mono x3, rv2.mono x3, .int _, e6, fun H' r4 x4 => ?_⟩
                exact p _ _ (((x1.trans x2).trans x3).trans x4) r4 _ (rs3.mono x4)
            · exact p.elim
          · exact p.elim
        · exact p.elim
      · exact p.elim
end
end Pyx

namespace Pyx
open PySem PySem.Spec PyProof.Rows L2
section
variable {X : Cx} {c : Rc} {n : Nat} {rec : CE → PSt → PH → R PV}
theorem wipe_idem {σ : L2.St} (vs : List Nat) : L2.wipe (L2.wipe σ vs) vs = L2.wipe σ vs := by
  have none_at : ∀ (l : List Nat) (i : Nat), i ∈ l → (L2.wipe σ l).set i none = L2.wipe σ l := by
    intro l i hi
    induction l with
    | nil => cases hi
    | cons k l ih2 =>
      unfold L2.wipe
      rcases List.mem_cons.mp hi with z | z
      · subst z
        rw [List.set_set]
      · by_cases hk : k = i
        · subst hk
          rw [List.set_set]
        · rw [List.set_comm _ _ hk, ih2 z]
  have ww : ∀ (l : List Nat), (∀ i ∈ l, i ∈ vs) → L2.wipe (L2.wipe σ vs) l = L2.wipe σ vs := by
    intro l
    induction l with
    | nil => intro _; rfl
    | cons i l ih =>
      intro hl
      have e1 := ih fun j hj => hl j (List.mem_cons_of_mem _ hj)
      have e2 := none_at vs i (hl i List.mem_cons_self)
      show (L2.wipe (L2.wipe σ vs) l).set i none = _
      rw [e1]
      exact e2
  exact ww vs fun _ h => h
theorem rd_turns {iv : IV} {J : It} {tg : CT} {vs : List Nat} {elt : CE} {st : PSt} {σ : L2.St} {d : Nat} {D : Addr} {f0 : Nat → Addr} {h0 : PH} {H0 : Hp} {Nx : Hp → Prop} {NX : (Nat → Addr) → PH → Hp → Prop} (htg : tgIn tg vs = true) (r0 : Rel c f0 h0 H0) (rs0 : RSt c f0 h0.n H0 st σ) (j0 : JOk c f0 h0.n H0 iv J) (hd : d < h0.n) (fD : f0 d = D)
    (p : Post c f0 h0.n H0 (lcL rec iv tg none elt (wipeP st vs) d n 0 h0) (fun f2 h2 H2 _ => NX f2 h2 H2)) (nx : ∀ f2 h2 H2, Ext f0 h0.n H0 f2 h2.n H2 → Rel c f2 h2 H2 → NX f2 h2 H2 → Nx H2) :
    ∃ W : Nat → Nat → Hp → Prop, (∃ m, W 0 m H0) ∧ ∀ i m H, W i m H →
      (J.stop i H ∧ Nx H) ∨ (J.go i H ∧ ∃ Nx1 : Hp → Prop, (∀ H', Nx1 H' → ∃ m', m' < m ∧ W (i + 1) m' H') ∧ ∀ x H', J.yld i H x H' → tT c tg x (L2.wipe σ vs) H' fun σ3 H5 => L2.wipe σ3 vs = L2.wipe σ vs ∧ tIf' c rec none σ3 H5 fun b H6 =>
        if b = true then tE c (rec elt) σ3 H6 fun y H7 => ∃ acc, H7 D = some (.lst acc) ∧ acc.length < sizeLine ∧ Nx1 (upd H7 D (.lst (acc ++ [y]))) else Nx1 H6) := by
  let WW : Nat → Nat → Hp → Prop := fun i m H' => ∃ f' h', Ext f0 h0.n H0 f' h'.n H' ∧ d < h'.n ∧ Rel c f' h' H' ∧ f' d = D ∧ Post c f' h'.n H' (lcL rec iv tg none elt (wipeP st vs) d m i h') (fun f2 h2 H2 _ => NX f2 h2 H2)
  refine ⟨WW, ⟨n, f0, h0, .refl, hd, r0, fD, p⟩, ?_⟩
  rintro i m H2 ⟨f2, h2, x3, hlt, r3, fD, p3⟩
  have j2 := j0.mono x3
  cases m with
  | zero => exact p3.elim
  | succ m =>
    unfold lcL at p3
    split at p3
    · exact p3.elim
    · rename_i e2
      exact .inl ⟨ivN_stop r3 j2 e2, nx _ _ _ x3 r3 (p3 _ _ .refl r3)⟩
    · rename_i v e2
      obtain ⟨g1, g2⟩ := ivN_item r3 j2 e2
      split at p3
      · exact p3.elim
      · rename_i st1 e3
        refine .inr ⟨g1, WW (i + 1) m, fun H' w => ⟨m, Nat.lt_succ_self _, w⟩, fun x H' hy => ?_⟩
        obtain ⟨r4, x4, rv4⟩ := g2 x H' hy
        refine ⟨f2, h2, wipeP st vs, v, st1, r4, (rs0.mono (x3.trans x4)).wipe vs, rv4, asgA_of e3, fun σ' rs5 hw => ⟨?_, ?_⟩⟩
        · rw [hw vs htg]
          exact wipe_idem vs
        · refine ⟨f2, h2, st1, r4, rs5, ?_⟩
          have p4 := p3.mono x4
          intro f3 H3 x5 r5
          dsimp only
          rw [if_pos rfl]
          have p5 : Post c f2 h2.n H' (match rec elt st1 h2 with
              | .stuck => .stuck
              | .ok v h2 => match lstAt (.ref d) h2 with
                | some (_, acc) => match small acc with
                  | true => lcL rec iv tg none elt (wipeP st vs) d m (i + 1) (h2.set d (.lst (acc ++ [v])))
                  | false => .stuck
                | none => .stuck) (fun f2 h2 H2 _ => NX f2 h2 H2) := p4
          have rs6 := rs5.mono x5
          cases z2 : rec elt st1 h2 with
          | stuck => rw [z2] at p5; exact p5.elim
          | ok w h4 =>
            rw [z2] at p5
            refine tE_of z2 r5 rs6 fun f4 H4 y x6 r6 rs7 rv7 => ?_
            dsimp only at p5
            split at p5
            · rename_i e4
              split at p5
              · rename_i sm
                have lt4 : d < h4.n := Nat.lt_of_lt_of_le hlt x6.le
                have f4D : f4 d = D := by rw [x6.eq _ hlt, x5.eq _ hlt]; exact fD
                obtain ⟨ws, ew, hg, hH, rvs⟩ := lstAt_at r6 (.ref lt4) e4
                have ei : ∀ {k : Nat} {acc : List PV}, lstAt (.ref d) h4 = some (k, acc) → k = d := fun {k acc} q => by
                  unfold lstAt at q
                  dsimp only at q
                  split at q
                  · cases q; rfl
                  · cases q
                have ek := ei e4
                subst ek
                obtain ⟨r8, x8⟩ := r6.write hg (rvs.app (.cons rv7 .nil))
                rw [f4D] at hH r8 x8
                refine ⟨ws, hH, by rw [← rvs.length]; exact small_size sm, f4, h4.set _ _, ((((x3.trans x4).trans x5).trans x6).trans x8), lt4, r8, f4D, ?_⟩
                exact ((p5.mono x5).mono x6).mono x8
              · exact p5.elim
            · exact p5.elim
theorem rd_lc2 {it it1 : CI} {tg tg1 : CT} {vs vs1 : List Nat} {elt : CE} :
    ∀ σ H Q, tE c (eLc2 n rec it tg it1 tg1 vs vs1 elt) σ H Q → tLc2 (tI c (evI rec it)) (tT c tg) (tIf' c rec none) (tI c (evI rec it1)) (tT c tg1) (tIf' c rec none) (tE c (rec elt)) vs vs1 σ H Q := fun σ H Q ⟨f, h, st, r, rs, p⟩ => by
  unfold eLc2 at p
  split at p
  · exact p.elim
  · rename_i htg
    rw [Bool.and_eq_true] at htg
    split at p
    · exact p.elim
    · rename_i iv h1 e1
      refine tI_of e1 r rs fun f1 H1 J x1 r1 rs1 j1 => fun D hD => ?_
      obtain ⟨r2, x2⟩ := r1.laid (xs := []) (vs := []) hD .nil
      let WW : Nat → Nat → Hp → Prop := fun i m H' => ∃ f' h', Ext f1 h1.n H1 f' h'.n H' ∧ h1.n < h'.n ∧ Rel c f' h' H' ∧ f' h1.n = D ∧ Post c f' h'.n H' (lcO rec n iv tg it1 tg1 vs1 elt (wipeP st vs) h1.n m i h') (fun f2 h2 H2 _ => ∀ v, RV c f2 h2.n H2 (.ref h1.n) v → Q v H2)
      refine ⟨WW, ⟨n, ext1 f1 h1.n D, h1.push (.lst []), x2, Nat.lt_succ_self _, r2, ext1_at, ?_⟩, ?_⟩
      · have p2 := (p.mono x1).mono x2
        cases z : lcO rec n iv tg it1 tg1 vs1 elt (wipeP st vs) h1.n n 0 (h1.push (.lst [])) with
        | stuck => rw [z] at p2; exact p2.elim
        | ok u hz =>
          rw [z] at p2
          exact fun f3 H3 x3 r3 v rv => p2 f3 H3 x3 r3 v rv
      · rintro i m H2 ⟨f2, h2, x3, hlt, r3, fD, p3⟩
        have j2 := j1.mono x3
        cases m with
        | zero => exact p3.elim
        | succ m =>
          unfold lcO at p3
          split at p3
          · exact p3.elim
          · rename_i e2
            refine .inl ⟨ivN_stop r3 j2 e2, ?_⟩
            have q := p3 _ _ .refl r3 (.ref (f2 h1.n)) (.ref hlt)
            rw [fD] at q
            exact q
          · rename_i v e2
            obtain ⟨g1, g2⟩ := ivN_item r3 j2 e2
            split at p3
            · exact p3.elim
            · rename_i st1 e3
              refine .inr ⟨g1, WW (i + 1) m, fun H' w => ⟨m, Nat.lt_succ_self _, w⟩, fun x H' hy => ?_⟩
              obtain ⟨r4, x4, rv4⟩ := g2 x H' hy
              refine ⟨f2, h2, wipeP st vs, v, st1, r4, (rs1.mono (x3.trans x4)).wipe vs, rv4, asgA_of e3, fun σ' rs5 hw => ⟨?_, ?_⟩⟩
              · rw [hw vs htg.1]
                exact wipe_idem vs
              · refine ⟨f2, h2, st1, r4, rs5, ?_⟩
                have p4 := p3.mono x4
                intro f3 H3 x5 r5
                dsimp only
                rw [if_pos rfl]
                have rs6 := rs5.mono x5
                split at p4
                · exact p4.elim
                · rename_i iv1 h3 e4
                  refine tI_of e4 r5 rs6 fun f4 H4 J1 x6 r6 rs7 j3 => ?_
                  have p6 := (p4.mono x5).mono x6
                  have lt2 : h1.n < h3.n := Nat.lt_of_lt_of_le hlt x6.le
                  have f4D : f4 h1.n = D := by rw [x6.eq _ hlt, x5.eq _ hlt]; exact fD
                  have x36 := ((x3.trans x4).trans x5).trans x6
                  refine rd_turns (n := n) (rec := rec) (vs := vs1) (elt := elt) (NX := fun f' h' H' => Post c f' h'.n H' (lcO rec n iv tg it1 tg1 vs1 elt (wipeP st vs) h1.n m (i + 1) h') (fun f2 h2 H2 _ => ∀ v, RV c f2 h2.n H2 (.ref h1.n) v → Q v H2)) htg.2 r6 rs7 j3 lt2 f4D ?_ fun f5 h5 H5 x7 r7 q => ⟨f5, h5, x36.trans x7, Nat.lt_of_lt_of_le lt2 x7.le, r7, by rw [x7.eq _ lt2]; exact f4D, q⟩
                  cases z : lcL rec iv1 tg1 none elt (wipeP st1 vs1) h1.n n 0 h3 with
                  | stuck => rw [z] at p6; exact p6.elim
                  | ok u h4 =>
                    rw [z] at p6
                    exact fun f5 H5 x7 r7 => p6.mono x7
end
section
variable {X : Cx} {c : Rc} {n : Nat} {rec : CE → PSt → PH → R PV} {elt tg iter tg1 iter1 : Expr} {scope : Scope} {own : List (Str × Nat)} {vs1 : List Nat} {ci ci1 : CI} {ct ct1 : CT} {celt : CE} {vs : List Nat} {pos : Pos}
theorem pts_none : PTs X [] (tIf' c rec none) := pts_of (.inl ⟨rfl, rfl⟩)
theorem s_lc2 (hv : vs = own.map (·.2)) (hv1 : ∀ i ∈ vs1, i ∈ own.map (·.2)) (hc : X.calm = true) (hN : X.N.Nodup) (hi : PI X tg iter (tI c (evI rec ci))) (ok : BlkOk X.N X.env.scope scope own)
    (hg : ∀ (s : Shared) (H : Hp) (C : Addr) (cl : List (Str × Addr)) (fp : List Addr), PG (X.blk s H scope (compEnvC scope cl C X.env) fp) tg (tT c ct)) (hi1 : ∀ (s : Shared) (H : Hp) (C : Addr) (cl : List (Str × Addr)) (fp : List Addr), PI (X.blk s H scope (compEnvC scope cl C X.env) fp) tg1 iter1 (tI c (evI rec ci1)))
    (hg1 : ∀ (s : Shared) (H : Hp) (C : Addr) (cl : List (Str × Addr)) (fp : List Addr), PG (X.blk s H scope (compEnvC scope cl C X.env) fp) tg1 (tT c ct1))
    (he : ∀ (s : Shared) (H : Hp) (C : Addr) (cl : List (Str × Addr)) (fp : List Addr), PE (X.blk s H scope (compEnvC scope cl C X.env) fp) elt (tE c (rec celt))) (hs : ∀ x, foldedSetIterable iter X.env x = pure x) (hs1 : ∀ env x, foldedSetIterable iter1 env x = pure x) :
    PE X (.ListComp elt [⟨tg, iter, [], 0⟩, ⟨tg1, iter1, [], 0⟩] scope pos) (tE c (eLc2 n rec ci ct ci1 ct1 vs vs1 celt)) := by
  subst hv
  exact pe_w (pe_lc2 hc hN hi ok hv1 hg (fun _ _ _ _ _ => pts_none (c := c) (rec := rec)) hi1 hg1 (fun _ _ _ _ _ => pts_none (c := c) (rec := rec)) he hs hs1) rd_lc2
theorem t_setLc2 {i : Nat} {y : Str} {py spos : Pos} {ev : CE → PSt → PH → R PV} {recS : CS → PSt → PH → R FR} {ce : CE} (hv : vs = own.map (·.2)) (hv1 : ∀ i ∈ vs1, i ∈ own.map (·.2)) (hc : X.calm = true) (hN : X.N.Nodup) (hy : X.N[i]? = some y) (hyl : X.env.scope.names.lookup y = some .local)
    (hsw : swapsWith (.ListComp elt [⟨tg, iter, [], 0⟩, ⟨tg1, iter1, [], 0⟩] scope pos) (some (.Name y py)) spos.line X.env = pure true) (hi : PI X tg iter (tI c (evI rec ci))) (ok : BlkOk X.N X.env.scope scope own)
    (hg : ∀ (s : Shared) (H : Hp) (C : Addr) (cl : List (Str × Addr)) (fp : List Addr), PG (X.blk s H scope (compEnvC scope cl C X.env) fp) tg (tT c ct)) (hi1 : ∀ (s : Shared) (H : Hp) (C : Addr) (cl : List (Str × Addr)) (fp : List Addr), PI (X.blk s H scope (compEnvC scope cl C X.env) fp) tg1 iter1 (tI c (evI rec ci1)))
    (hg1 : ∀ (s : Shared) (H : Hp) (C : Addr) (cl : List (Str × Addr)) (fp : List Addr), PG (X.blk s H scope (compEnvC scope cl C X.env) fp) tg1 (tT c ct1))
    (he : ∀ (s : Shared) (H : Hp) (C : Addr) (cl : List (Str × Addr)) (fp : List Addr), PE (X.blk s H scope (compEnvC scope cl C X.env) fp) elt (tE c (rec celt))) (hs : ∀ x, foldedSetIterable iter X.env x = pure x) (hs1 : ∀ env x, foldedSetIterable iter1 env x = pure x) (hev : ∀ st h, ev ce st h = eLc2 n rec ci ct ci1 ct1 vs vs1 celt st h) :
    PS X (.Assign [.Name y py] (.ListComp elt [⟨tg, iter, [], 0⟩, ⟨tg1, iter1, [], 0⟩] scope pos) spos) (tS c (xAsg n ev recS (.nm i) ce)) := by
  subst hv
  refine ps_w (ps_setLc2 hc hN hy hyl hsw hi ok hv1 hg (fun _ _ _ _ _ => pts_none (c := c) (rec := rec)) hi1 hg1 (fun _ _ _ _ _ => pts_none (c := c) (rec := rec)) he hs hs1) fun D σ H ⟨f, h, st, r, rs, p⟩ => ?_
  unfold xAsg at p
  split at p
  · exact p.elim
  · rename_i v h1 e1
    rw [hev] at e1
    refine rd_lc2 σ H _ (tE_of e1 r rs fun f1 H1 x x1 r1 rs1 rv1 => ?_)
    exact p _ _ x1 r1 _ (rs1.set i rv1)
end
end Pyx

namespace Pyx
open PySem PySem.Spec PyProof.Rows L2
section
variable {X : Cx} {c : Rc} {call : Nat → List PV → PH → R PV} {n : Nat} {rec : CE → PSt → PH → R PV} {a b d e : Expr} {ca cb cd ce : CE} {pos : Pos}
theorem isDic_at {f : Nat → Addr} {h : PH} {H : Hp} {v : PV} {x : V} (r : Rel c f h H) (rv : RV c f h.n H v x) (e : isDic v h = true) : ∃ p, x = .ref p ∧ IsD H p := by
  unfold isDic at e
  split at e
  · rename_i i
    cases rv with
    | ref hi =>
      split at e
      · rename_i kvs g
        cases r.obj _ _ g with
        | dK h1 _ _ => exact ⟨_, rfl, .inl ⟨_, .inl h1⟩⟩
      · rename_i kvs g
        cases r.obj _ _ g with
        | dT h1 _ _ => exact ⟨_, rfl, .inr ⟨_, .inl h1⟩⟩
      · rename_i kvs g
        cases r.obj _ _ g with
        | lT h1 _ _ => exact ⟨_, rfl, .inr ⟨_, .inr ⟨_, h1⟩⟩⟩
      · rename_i kvs g
        cases r.obj _ _ g with
        | lK h1 _ _ => exact ⟨_, rfl, .inl ⟨_, .inr ⟨_, h1⟩⟩⟩
      · cases e
  · cases e
theorem s_get2 {apos cpos : Pos} {x : Expr} {cx : CE} (hu : X.A.units + 65 < cLine) (hb : noBase d = true) (h1 : noStar e = true) (h2 : noStar x = true) (hline : (apos.endLine == cpos.line) = true) (hd : PE X d (tE c (rec cd))) (he : PE X e (tE c (rec ce))) (hx : PE X x (tE c (rec cx))) :
    PE X (.Call (.Attribute d "get" apos) [e, x] [] cpos) (tE c (eGet2 rec cd ce cx)) := by
  have m : M2 X d "get" apos e x cpos := ⟨base_of hb _ _ _, by rw [star_of h1, star_of h2]; rfl, hline, by rw [star_of h1, star_of h2]; rfl⟩
  refine pe_w (pe_dget2 (by omega) hd he hx m) fun σ H Q ⟨f, h, st, r, rs, p⟩ => ?_
  unfold eGet2 at p
  split at p
  · exact p.elim
  · rename_i v h1 e1
    refine tE_of e1 r rs fun f1 H1 y x1 r1 rs1 rv1 => ?_
    split at p
    · exact p.elim
    · rename_i ed
      obtain ⟨q, rfl, dq⟩ := isDic_at r1 rv1 ed
      refine ⟨q, rfl, dq, ?_⟩
      split at p
      · exact p.elim
      · rename_i w h2 e2
        refine tE_of e2 r1 rs1 fun f2 H2 y2 x2 r2 rs2 rv2 => ?_
        split at p
        · exact p.elim
        · rename_i z h3 e3
          refine tE_of e3 r2 rs2 fun f3 H3 y3 x3 r3 rs3 rv3 => ?_
          have rv1' := (rv1.mono x2).mono x3
          have rv2' := rv2.mono x3
          have xx := (x1.trans x2).trans x3
          split at p
          · rename_i u e4
            obtain ⟨a', o, ea, g, q4⟩ := dLook_at r3 rv1' rv2' e4
            cases ea
            refine ⟨o, g, ?_⟩
            rcases q4 with ⟨z1, _⟩ | ⟨p1, q1, z1, z2, z3⟩
            · cases z1
            · cases z1
              subst z2
              exact p _ _ xx r3 _ z3
          · rename_i e4
            obtain ⟨a', o, ea, g, q4⟩ := dLook_at r3 rv1' rv2' e4
            cases ea
            refine ⟨o, g, ?_⟩
            rcases q4 with ⟨_, z2⟩ | ⟨p1, q1, z1, z2, z3⟩
            · subst z2
              exact p _ _ xx r3 _ rv3
            · cases z1
          · exact p.elim
theorem kT_map (ks : List Int) : (kT ks).map kV = ks.map V.int := by
  unfold kT
  rw [List.map_map]
  rfl
theorem s_dispT {k v : Expr} {ck cv : CE} (hu : X.A.units + 65 < cLine) (hk : PE X k (tE c (rec ck))) (hv : PE X v (tE c (rec cv))) : PE X (.Dict [some k] [v] pos) (tE c (eDispT rec ck cv)) := by
  refine pe_w (pe_dispT (by omega) hk hv) fun σ H Q ⟨f, h, st, r, rs, p⟩ => fun q hq => ?_
  obtain ⟨r1, x1⟩ := r.lays (o := .dT []) (u := .dT []) hq (.dT upd_same .nil trivial)
  unfold eDispT at p
  split at p
  · exact p.elim
  · rename_i w h1 e1
    refine tE_of e1 r1 (rs.mono x1) fun f1 H1 y x2 r2 rs2 rv2 => ?_
    split at p
    · exact p.elim
    · rename_i z h2 e2
      refine tE_of e2 r2 rs2 fun f2 H2 y2 x3 r3 rs3 rv3 => ?_
      have xx := x2.trans x3
      have eq : f2 h.n = q := by rw [xx.eq _ (Nat.lt_succ_self h.n)]; exact ext1_at
      split at p
      · rename_i ks g ek
        obtain ⟨b', eb, hb⟩ := keyT_at (rv2.mono x3) ek
        subst eb
        cases r3.obj _ _ g with
        | dT g1 g2 g3 =>
          cases g2
          obtain ⟨r4, x4⟩ := r3.writeT (kvs' := [(ks, z)]) (ws := [(kT ks, y2)]) g (.cons rv3 .nil) ⟨rfl, trivial⟩
          rw [eq] at g1 r4 x4
          refine ⟨g1, kT ks, b', rfl, hb, ?_⟩
          have zz := RV.ref (c := c) (f := f2) (n := h2.n) (H := upd H2 q (.dT [(kT ks, y2)])) (get_lt g)
          rw [eq] at zz
          exact p _ _ ((x1.trans xx).trans x4) r4 _ zz
      · exact p.elim
theorem rd_emp {κ κ' : Type} {ek : κ → κ'} {f : Nat → Addr} {n : Nat} {H : Hp} {r : List (κ × PV)} {s : List (κ' × V)} (h : RD ek c f n H r s) : s.isEmpty = r.isEmpty := by
  cases h <;> rfl
theorem rd_isE : ∀ σ H Q, tE c (eIsE rec ca) σ H Q → tOp rEqEmp (tE c (rec ca)) tDNewT σ H Q := fun σ H Q ⟨f, h, st, r, rs, p⟩ => by
  unfold eIsE at p
  split at p
  · rename_i i h1 e1
    refine tE_of e1 r rs fun f1 H1 x x1 r1 rs1 rv1 => fun q hq => ?_
    split at p
    · rename_i kvs g
      obtain ⟨r2, x2⟩ := r1.same (same_upd (o := .dT []) hq)
      cases rv1 with
      | ref hi =>
        cases r1.obj _ _ g with
        | dT h1 h2 h3 =>
          refine ⟨_, q, _, rfl, rfl, .inl (same_upd hq _ _ h1), upd_same, ?_⟩
          rw [rd_emp h2]
          exact p _ _ (x1.trans x2) r2 _ (.bl _)
    · exact p.elim
  · exact p.elim
theorem s_isE {p2 : Pos} (hu : X.A.units + 65 < cLine) (hm : behindInMarks .Eq (.Dict [] [] p2) = false) (ha : PE X a (tE c (rec ca))) : PE X (.Compare a [.Eq] [.Dict [] [] p2] pos) (tE c (eIsE rec ca)) :=
  pe_w (pe_cmpR (op_eq_emp (by omega)) ha pe_dnewT hm) rd_isE
theorem b_isE {p2 : Pos} (hu : X.A.units + 65 < cLine) (hm : behindInMarks .Eq (.Dict [] [] p2) = false) (ha : PE X a (tE c (rec ca))) : PT X (.Compare a [.Eq] [.Dict [] [] p2] pos) (tTest (tOp rEqEmp (tE c (rec ca)) tDNewT)) :=
  pt_cmpR (op_eq_emp (by omega)) ha pe_dnewT hm
theorem kI_back : ∀ (ks : List Int), intsV ((kT ks).map kV) = ks := fun ks => by
  rw [kT_map]
  exact intsV_map ks
theorem isKeys_keys {f : Nat → Addr} {n : Nat} {H : Hp} : ∀ {kvs : List (List Int × PV)} {ws : List (List L2.Key × V)} {bs : List Addr}, RD kT c f n H kvs ws → IsKeys H ws bs → (bs.map V.ref).map (kOf H) = kvs.map (·.1)
  | _, _, bs, .nil, ik => by cases ik; rfl
  | _, _, bs, .cons (k := k) hv t, ik => by
    cases ik with
    | cons e ik =>
      rename_i b bs
      rw [List.map_cons, List.map_cons, List.map_cons, isKeys_keys t ik]
      congr 1
      show (match H b with | some (.tup us) => intsV us | _ => []) = k
      have e : H b = some (.tup ((kT k).map kV)) := e
      rw [e]
      exact kI_back k
theorem rd_mem {f : Nat → Addr} {n : Nat} {H : Hp} : ∀ {kvs : List (List Int × PV)} {ws : List (List L2.Key × V)}, RD kT c f n H kvs ws → ∀ x ∈ ws, ∃ y ∈ kvs, x.1 = kT y.1
  | _, _, .nil, x, hx => nomatch hx
  | _, _, .cons hv t, x, hx => by
    rcases List.mem_cons.mp hx with e | hx
    · subst e
      exact ⟨_, List.mem_cons_self, rfl⟩
    · obtain ⟨y, hy, e⟩ := rd_mem t x hx
      exact ⟨y, List.mem_cons_of_mem _ hy, e⟩
theorem s_skeys {p apos cpos : Pos} (hK : X.K = c.K) (hc : X.calm = true) (hb : noBase a = true) (hline : (apos.endLine == cpos.line) = true) (hg : Gl X "sorted") (hm : X.mg "sorted" = none) (ha : PE X a (tE c (rec ca))) :
    PE X (.Call (.Name "sorted" p) [.Call (.Attribute a "keys" apos) [] [] cpos] [] pos) (tE c (eSkeys rec ca)) := by
  have h1 := pe_bm0 (X := X) (apos := apos) (cpos := cpos) PySem.F.plainAttrs_dict PySem.F.slot_dict_keys PySem.F.type_dict_keys mt_keysT ha (base_of hb _ _ _) hline
  refine pe_w (pe_callB (cr_sortKT hc) hg hm rfl (pa_cons h1 pa_nil rfl)) fun σ H Q ⟨f, h, st, r, rs, p⟩ => ?_
  unfold eSkeys at p
  split at p
  · rename_i i h1 e1
    refine tE_of e1 r rs fun f1 H1 x x1 r1 rs1 rv1 => ?_
    split at p
    · rename_i kvs g
      split at p
      · rename_i ene
        cases rv1 with
        | ref hi =>
          cases r1.obj _ _ g with
          | dT g1 g2 g3 =>
            rename_i ws
            refine ⟨.inr (.inr (.inl ⟨rfl, .inr ⟨_, g1⟩⟩)), _, _, rfl, rfl, g1, fun q hq => ?_⟩
            obtain ⟨r2, x2⟩ := r1.same (same_upd (o := keysO q (f1 i)) hq)
            have rd2 := g2.mono x2
            refine ⟨q, f1 i, ws, kOf (upd H1 q (keysO q (f1 i))), rfl, upd_same, .inl (same_upd hq _ _ g1), fun b y hy eb => ?_, fun bs ys p3 ik h2 h3 h4 => ?_⟩
            · obtain ⟨z, hz, ez⟩ := rd_mem g2 y hy
              have ek : kOf (upd H1 q (keysO q (f1 i))) (.ref b) = z.1 := by
                show (match upd H1 q (keysO q (f1 i)) b with | some (.tup us) => intsV us | _ => []) = z.1
                rw [eb, ez]
                exact kI_back z.1
              rw [ek, ez]
              refine ⟨kT_map _, fun zz => ?_⟩
              have z1 := List.all_eq_true.mp ene z hz
              rw [zz] at z1
              cases z1
            · have e1 : ys.map (kOf (upd H1 q (keysO q (f1 i)))) = sortT (kvs.map (·.1)) := by
                refine srtT_same ?_ (List.pairwise_map.mpr h2) (sortT_srt _)
                refine ((h3.map _).trans ?_).trans (sortT_perm _).symm
                rw [isKeys_keys rd2 ik]
              have hk : ∀ v ∈ ys, ∃ t, v = V.ref t ∧ upd H1 q (keysO q (f1 i)) t = some (.tup ((kOf (upd H1 q (keysO q (f1 i))) v).map V.int)) ∧ kOf (upd H1 q (keysO q (f1 i))) v ≠ [] := fun v hv => by
                obtain ⟨b, hb2, rfl⟩ := List.mem_map.mp (h3.mem_iff.mp hv)
                obtain ⟨y, hy, eb⟩ := isKeys_mem ik b hb2
                obtain ⟨z, hz, ez⟩ := rd_mem g2 y hy
                have ek : kOf (upd H1 q (keysO q (f1 i))) (.ref b) = z.1 := by
                  show (match upd H1 q (keysO q (f1 i)) b with | some (.tup us) => intsV us | _ => []) = z.1
                  rw [eb, ez]
                  exact kI_back z.1
                rw [ek]
                refine ⟨b, rfl, ?_, fun zz => ?_⟩
                · rw [eb, ez, kT_map]
                · have z1 := List.all_eq_true.mp ene z hz
                  rw [zz] at z1
                  cases z1
              have rvs := rvs_tups (c := c) (f := f1) (n := h1.n) hk
              rw [e1] at rvs
              obtain ⟨z, k⟩ := okL_at r2 rvs ((p.mono x1).mono x2)
              exact k p3 h4
      · exact p.elim
    · exact p.elim
  · exact p.elim
theorem lockP_at {f : Nat → Addr} {h : PH} {H : Hp} {st : PSt} {i a : Nat} {kvs : List (List Int × PV)} (e : lockP st h i = some (a, kvs)) : h.get a = some (.dT kvs) := by
  unfold lockP at e
  split at e
  · split at e
    · rename_i g
      cases e
      exact g
    · cases e
  · cases e
theorem unlock_at {α : Type} {f : Nat → Addr} {h : PH} {H : Hp} {a : Nat} {ws : List (List L2.Key × V)} {od : Obj} {r0 : R α} {Q : (Nat → Addr) → PH → Hp → α → Prop} (hi : a < h.n) (hw : H (f a) = some (.dT ws))
    (p : Post c f h.n H (unl a r0) Q) :
    Post c f h.n (upd H (f a) (.frz od (.dT ws))) r0 (fun f2 h2 H2 x => H2 (f a) = some (.frz od (.dT ws)) ∧ ∃ kvs2, Rel c f2 (h2.set a (.dT kvs2)) (upd H2 (f a) (.dT ws)) ∧ Q f2 (h2.set a (.dT kvs2)) (upd H2 (f a) (.dT ws)) x ∧ ∀ b vs, H2 b = some (.tup vs) → upd H2 (f a) (.dT ws) b = some (.tup vs)) := by
  cases r0 with
  | stuck => exact p
  | ok x h2 =>
    unfold unl at p
    intro f2 H2 x2 r2
    dsimp only at p
    split at p
    · rename_i kvs2 g
      have e1 : f2 a = f a := x2.eq _ hi
      have hu : H2 (f a) = some (.frz od (.dT ws)) := x2.frz _ _ _ trivial upd_same
      have r3 := r2.unlock g (od := od) (ws := ws) (by rw [e1]; exact hu)
      rw [e1] at r3
      have tm : ∀ b vs, H2 b = some (.tup vs) → upd H2 (f a) (.dT ws) b = some (.tup vs) := fun b vs q => by
        rw [upd_ne (ne_of q hu (fun z => by cases z))]
        exact q
      refine ⟨hu, kvs2, r3, p _ _ ⟨x2.le, x2.eq, fun b vs q => ?_, fun b q' q => ?_, fun b o qs dq q => ?_⟩ r3, tm⟩
      · have nb : b ≠ f a := ne_of q hw (fun z => by cases z)
        rw [upd_ne nb]
        exact x2.tup _ _ (by rw [upd_ne nb]; exact q)
      · have nb : b ≠ f a := ne_of q hw (fun z => by unfold LamX.CodeO at z; cases z)
        rw [upd_ne nb]
        exact x2.cod _ _ (by rw [upd_ne nb]; exact q)
      · have nb : b ≠ f a := ne_of q hw (fun z => by cases z)
        rw [upd_ne nb]
        exact x2.frz _ _ _ dq (by rw [upd_ne nb]; exact q)
    · exact p.elim
theorem lockK_at {f : Nat → Addr} {h : PH} {H : Hp} {st : PSt} {i a : Nat} {kvs : List (Int × PV)} (e : lockK st h i = some (a, kvs)) : h.get a = some (.dK kvs) := by
  unfold lockK at e
  split at e
  · split at e
    · rename_i g
      cases e
      exact g
    · cases e
  · cases e
theorem unlockK_at {α : Type} {f : Nat → Addr} {h : PH} {H : Hp} {a : Nat} {ws : List (L2.Key × V)} {od : Obj} {r0 : R α} {Q : (Nat → Addr) → PH → Hp → α → Prop} (hi : a < h.n) (hw : H (f a) = some (.dK ws))
    (p : Post c f h.n H (unlK a r0) Q) :
    Post c f h.n (upd H (f a) (.frz od (.dK ws))) r0 (fun f2 h2 H2 x => H2 (f a) = some (.frz od (.dK ws)) ∧ ∃ kvs2, Rel c f2 (h2.set a (.dK kvs2)) (upd H2 (f a) (.dK ws)) ∧ Q f2 (h2.set a (.dK kvs2)) (upd H2 (f a) (.dK ws)) x ∧ ∀ b vs, H2 b = some (.tup vs) → upd H2 (f a) (.dK ws) b = some (.tup vs)) := by
  cases r0 with
  | stuck => exact p
  | ok x h2 =>
    unfold unlK at p
    intro f2 H2 x2 r2
    dsimp only at p
    split at p
    · rename_i kvs2 g
      have e1 : f2 a = f a := x2.eq _ hi
      have hu : H2 (f a) = some (.frz od (.dK ws)) := x2.frz _ _ _ trivial upd_same
      have r3 := r2.unlockK g (od := od) (ws := ws) (by rw [e1]; exact hu)
      rw [e1] at r3
      have tm : ∀ b vs, H2 b = some (.tup vs) → upd H2 (f a) (.dK ws) b = some (.tup vs) := fun b vs q => by
        rw [upd_ne (ne_of q hu (fun z => by cases z))]
        exact q
      refine ⟨hu, kvs2, r3, p _ _ ⟨x2.le, x2.eq, fun b vs q => ?_, fun b q' q => ?_, fun b o qs dq q => ?_⟩ r3, tm⟩
      · have nb : b ≠ f a := ne_of q hw (fun z => by cases z)
        rw [upd_ne nb]
        exact x2.tup _ _ (by rw [upd_ne nb]; exact q)
      · have nb : b ≠ f a := ne_of q hw (fun z => by unfold LamX.CodeO at z; cases z)
        rw [upd_ne nb]
        exact x2.cod _ _ (by rw [upd_ne nb]; exact q)
      · have nb : b ≠ f a := ne_of q hw (fun z => by cases z)
        rw [upd_ne nb]
        exact x2.frz _ _ _ dq (by rw [upd_ne nb]; exact q)
    · exact p.elim
theorem s_lockE {i : Nat} (he : PE X e (tE c (rec ce))) : PE X e (tE c (eLockE rec i ce)) := by
  refine pe_w (pe_lock he) fun σ H Q ⟨f, h, st, r, rs, p⟩ => ?_
  unfold eLockE at p
  split at p
  · rename_i a kvs e1
    have g := lockP_at (f := f) (H := H) e1
    obtain ⟨ws, hw, k⟩ := r.lock g
    refine ⟨f a, .dT ws, hw, trivial, fun od => ?_⟩
    obtain ⟨r1, x1⟩ := k od
    refine ⟨f, h.set a (.lT kvs), st, r1, rs.mono x1, ?_⟩
    refine (unlock_at (od := od) (get_lt g) hw p).imp ?_
    intro f2 h2 H2 x ⟨hu, kvs2, r3, q, tm⟩ v rv
    exact ⟨hu, q v (rv.tmap tm)⟩
  · split at p
    · rename_i a kvs e1
      have g := lockK_at (f := f) (H := H) e1
      obtain ⟨ws, hw, k⟩ := r.lockK g
      refine ⟨f a, .dK ws, hw, trivial, fun od => ?_⟩
      obtain ⟨r1, x1⟩ := k od
      refine ⟨f, h.set a (.lK kvs), st, r1, rs.mono x1, ?_⟩
      refine (unlockK_at (od := od) (get_lt g) hw p).imp ?_
      intro f2 h2 H2 x ⟨hu, kvs2, r3, q, tm⟩ v rv
      exact ⟨hu, q v (rv.tmap tm)⟩
    · exact p.elim
theorem RSt.tmap {f : Nat → Addr} {k : Nat} {H H' : Hp} {st : PSt} {σ : L2.St} (e : ∀ a vs, H a = some (.tup vs) → H' a = some (.tup vs)) (r : RSt c f k H st σ) : RSt c f k H' st σ :=
  ⟨r.1, fun i x q => let ⟨v, h1, h2⟩ := r.2 i x q; ⟨v, h1, h2.tmap e⟩⟩
theorem t_lock {s : Stmt} {recS : CS → PSt → PH → R FR} {ks : CS} {i : Nat} (hs : PS X s (tS c (recS ks))) : PS X s (tS c (xLock recS i ks)) := by
  refine ps_w (ps_lock hs) fun D σ H ⟨f, h, st, r, rs, p⟩ => ?_
  unfold xLock at p
  split at p
  · rename_i a kvs e1
    have g := lockP_at (f := f) (H := H) e1
    obtain ⟨ws, hw, k⟩ := r.lock g
    refine ⟨f a, .dT ws, hw, trivial, fun od => ?_⟩
    obtain ⟨r1, x1⟩ := k od
    refine ⟨f, h.set a (.lT kvs), st, r1, rs.mono x1, ?_⟩
    refine (unlock_at (od := od) (get_lt g) hw p).imp ?_
    intro f2 h2 H2 x ⟨hu, kvs2, r3, q, tm⟩
    cases x with
    | nx st2 => exact fun σ2 rs2 => ⟨hu, q σ2 (rs2.tmap tm)⟩
    | ct st2 => exact fun σ2 rs2 => ⟨hu, q σ2 (rs2.tmap tm)⟩
    | bk st2 => exact fun σ2 rs2 => ⟨hu, q σ2 (rs2.tmap tm)⟩
    | rt v => exact fun w rw2 => ⟨hu, q w (rw2.tmap tm)⟩
  · split at p
    · rename_i a kvs e1
      have g := lockK_at (f := f) (H := H) e1
      obtain ⟨ws, hw, k⟩ := r.lockK g
      refine ⟨f a, .dK ws, hw, trivial, fun od => ?_⟩
      obtain ⟨r1, x1⟩ := k od
      refine ⟨f, h.set a (.lK kvs), st, r1, rs.mono x1, ?_⟩
      refine (unlockK_at (od := od) (get_lt g) hw p).imp ?_
      intro f2 h2 H2 x ⟨hu, kvs2, r3, q, tm⟩
      cases x with
      | nx st2 => exact fun σ2 rs2 => ⟨hu, q σ2 (rs2.tmap tm)⟩
      | ct st2 => exact fun σ2 rs2 => ⟨hu, q σ2 (rs2.tmap tm)⟩
      | bk st2 => exact fun σ2 rs2 => ⟨hu, q σ2 (rs2.tmap tm)⟩
      | rt v => exact fun w rw2 => ⟨hu, q w (rw2.tmap tm)⟩
    · exact p.elim
end
end Pyx

namespace Pyx
open PySem PySem.Spec PyProof.Rows L2
section
variable {X : Cx} {c : Rc} {call : Nat → List PV → PH → R PV} {n : Nat} {rec : CE → PSt → PH → R PV} {a b d e : Expr} {ca cb cd ce : CE} {pos : Pos}
def tLk (t : TE) : TE := fun σ H Q => t σ H fun x H1 => ∃ (d : Addr) (u : HO), H1 d = some u ∧ Mut (some u) ∧ ∀ od, Q x (upd H1 d (.frz od u))
theorem pe_lk {t : TE} (h : PE X e t) : PE X e (tLk t) := by
  refine ⟨fun pins s σ H Q I hw => ?_⟩
  refine thn (h.run pins s σ H _ I hw) fun v s1 ⟨x, H1, I1, r, d, u, hd, mu, q⟩ => ?_
  obtain ⟨od, I2⟩ := I1.lock hd mu
  exact ⟨x, _, I2, r, q od⟩
theorem s_lk (ha : PE X e (tE c (rec ca))) : PE X e (tE c (eLk rec ca)) := by
  refine pe_w (pe_lk ha) fun σ H Q ⟨f, h, st, r, rs, p⟩ => ?_
  unfold eLk at p
  split at p
  · rename_i i h1 e1
    refine tE_of e1 r rs fun f1 H1 x x1 r1 rs1 rv1 => ?_
    split at p
    · rename_i kvs g
      obtain ⟨ws, hw, k⟩ := r1.lock g
      refine ⟨f1 i, .dT ws, hw, trivial, fun od => ?_⟩
      obtain ⟨r2, x2⟩ := k od
      exact p _ _ (x1.trans x2) r2 _ (rv1.mono x2)
    · rename_i kvs g
      obtain ⟨ws, hw, k⟩ := r1.lockK g
      refine ⟨f1 i, .dK ws, hw, trivial, fun od => ?_⟩
      obtain ⟨r2, x2⟩ := k od
      exact p _ _ (x1.trans x2) r2 _ (rv1.mono x2)
    · exact p.elim
  · exact p.elim
def tListVals (td : TE) : TE := fun σ H Q => td σ H fun x H1 => ∃ (a : Addr) (kvs : List (L2.Key × V)), x = V.ref a ∧ H1 a = some (.dK kvs) ∧ ∀ q, H1 q = none → Q (.ref q) (upd H1 q (.lst (kvs.map (·.2))))
theorem kv_vals {kvs : List (L2.Key × V)} {vs : List (L2.Key × Value)} (r : KV kvs vs) : Vals (kvs.map (·.2)) (vs.map (·.2)) := by
  induction r with
  | nil => exact .nil
  | cons h _ ih => exact .cons h.2 ih
theorem pe_listVals {p apos mpos : Pos} {td : TE} (hc : X.calm = true) (hg : Gl X "list") (hm : X.mg "list" = none) (hd : PE X a td) (hbase : attributeBase a "values" X.env (eval a X.env) = eval a X.env := by rfl) (hline : (apos.endLine == mpos.line) = true := by rfl)
    (hse : starEach [Expr.Call (.Attribute a "values" apos) [] [] mpos] X.env = (false, eval (Expr.Call (.Attribute a "values" apos) [] [] mpos) X.env) :: starEach [] X.env := by rfl) :
    PE X (.Call (.Name "list" p) [.Call (.Attribute a "values" apos) [] [] mpos] [] pos) (tListVals td) := by
  refine ⟨fun pins s σ H Q I h => ?_⟩
  refine wpAny_Call_Name_kw (ld_blt I hg hm (u := .type "list") (by first | rfl | decide +kernel) ?_)
  refine PyProof.Rows.callWith_type1 ?_ hse rfl
  rw [hse]
  show wpAny _ _ (spliced ((false, eval (.Call (.Attribute a "values" apos) [] [] mpos) X.env) :: backTo pos (starEach [] X.env))) _ _ s
  refine Calls.spliced_cons ?_
  refine wpAny_Call_method0_late hbase hline (thn (hd.run pins s σ H _ I h) fun v s1 ⟨x, H1, I1, r1, a, kvs, ex, ha, q⟩ => ?_)
  subst ex
  obtain rfl : v = Value.ref a := r1
  obtain ⟨hz, hsys, vs, rel, dof⟩ := dk_of I1.hok ha
  obtain ⟨ep, dat⟩ := dof.dictAt
  have dat' := dat
  obtain ⟨ob, es, ho, ex, hdat, hko, hpr, hnd⟩ := dat'
  refine ⟨"dict", "dict.values", F.plainAttrs_dict, F.slot_dict_values, F.type_dict_values, ⟨ob, ho, ex.1⟩, fun b e => ?_, Calls.callWith_builtin rfl (PySem.evalArgs_none ?_)⟩
  · cases e
    exact ⟨ob, ho, ex.2.1⟩
  refine call_meetsIn F.slot_dict_values ⟨ob, ho, ex.1⟩ F.entry_dict_values (F.args_dict_values_1 _) (meets_dict_values (mixKind X.prog X.w) a hsys) ⟨⟨vs, dof⟩, ?_⟩
  have I2 : Inv X pins σ H1 { s1 with heap := s1.heap.push { cls := .type "dict_values", data := .fields #[.ref a] } } := I1.kept (t' := s1.toks) fun b ob q => Heap.get?_push_of_some _ q
  refine Calls.spliced_nil ?_
  have lk : kvs.length = vs.length := Paired.length rel
  refine PySem.W.kdl_call (PySem.W.kdl_values (knd := mixKind X.prog X.w) (kvs := vs) (ep := ep) (d := a) (r := s1.heap.objs.size)) (I1.ok.hd hc) ⟨⟨_, Heap.get?_push_size _ rfl, rfl, rfl⟩, dat.push _⟩ (by omega) fun h' tk acc c' hk hS hi => ?_
  have ev : acc.toList = vs.map (·.2) := PySem.W.kdl_vals_eq acc.toList (by rw [Array.length_toList]; exact hi.1) fun j v e => hi.2 j v (by rw [← Array.getElem?_toList]; exact e)
  refine ⟨.ref _, upd H1 _ (.lst (kvs.map (·.2))), I2.laid hk (Nat.le_refl _) ⟨by rw [List.length_map]; exact hz, acc.toList, c', by rw [ev]; exact kv_vals rel, by rw [Array.toArray_toList]; exact hS⟩, rfl, q _ (I2.hok.fresh (Nat.le_refl _))⟩
theorem rv_vals {f : Nat → Addr} {k : Nat} {H : Hp} : ∀ {kvs : List (Int × PV)} {ws : List (L2.Key × V)}, RD kI c f k H kvs ws → RVs c f k H (kvs.map (·.2)) (ws.map (·.2))
  | _, _, .nil => .nil
  | _, _, .cons hv t => .cons hv (rv_vals t)
theorem s_vals {p apos cpos : Pos} (hc : X.calm = true) (hb : noBase a = true) (hline : (apos.endLine == cpos.line) = true) (hg : Gl X "list") (hm : X.mg "list" = none) (ha : PE X a (tE c (rec ca))) :
    PE X (.Call (.Name "list" p) [.Call (.Attribute a "values" apos) [] [] cpos] [] pos) (tE c (eVals rec ca)) := by
  refine pe_w (pe_listVals hc hg hm ha (base_of hb _ _ _) hline) fun σ H Q ⟨f, h, st, r, rs, p⟩ => ?_
  unfold eVals at p
  split at p
  · rename_i i h1 e1
    refine tE_of e1 r rs fun f1 H1 x x1 r1 rs1 rv1 => ?_
    split at p
    · rename_i kvs g
      cases rv1 with
      | ref hi =>
        cases r1.obj _ _ g with
        | dK g1 g2 g3 =>
          obtain ⟨_, k⟩ := okL_at r1 (rv_vals g2) (p.mono x1)
          exact ⟨_, _, rfl, g1, k⟩
    · exact p.elim
  · exact p.elim
end
end Pyx

namespace Pyx
open PySem PySem.Spec PyProof.Rows L2
structure DefR where
  x : Str
  st : Stmt
  N : List Str
  ps : List Str
  g : Str := x
structure CEnv where
  N : List Str
  names : List (Str × NameKind)
  fns : List (Str × (Nat × Nat))
  consts : List (Str × PV)
  nob : List Str
  dts : List Nat
  excs : List (Str × Nat) := []
  exb : Str := ""
  rsn : List Str := []
  lam : Bool := false
  tolds : List (Str × (Nat × DefR)) := []
def gd {α : Type} (b : Bool) (o : Option α) : Option α := match b with
  | true => o
  | false => none
def bd {α β : Type} (o : Option α) (f : α → Option β) : Option β := match o with
  | some a => f a
  | none => none
theorem gd_is {α : Type} {b : Bool} {o : Option α} {r : α} (h : gd b o = some r) : b = true ∧ o = some r := by
  cases b with
  | true => exact ⟨rfl, h⟩
  | false => cases h
theorem bd_is {α β : Type} {o : Option α} {f : α → Option β} {r : β} (h : bd o f = some r) : ∃ a, o = some a ∧ f a = some r := by
  cases o with
  | some a => exact ⟨a, rfl, h⟩
  | none => cases h
def ixOf (x : Str) : List Str → Nat → Option Nat
  | [], _ => none
  | y :: r, i => match decide (y = x) with
    | true => some i
    | false => ixOf x r (i + 1)
theorem ixOf_is {x : Str} : ∀ {N : List Str} {i j : Nat}, ixOf x N i = some j → i ≤ j ∧ N[j - i]? = some x
  | [], _, _, h => by cases h
  | y :: r, i, j, h => by
    unfold ixOf at h
    split at h
    · rename_i e
      cases h
      have e := of_decide_eq_true e
      subst e
      exact ⟨Nat.le_refl _, by rw [Nat.sub_self]; rfl⟩
    · obtain ⟨h1, h2⟩ := ixOf_is h
      refine ⟨Nat.le_of_succ_le h1, ?_⟩
      rw [show j - i = (j - (i + 1)) + 1 by omega, List.getElem?_cons_succ]
      exact h2
def isVis : Option NameKind → Bool
  | some .local => true
  | some .cell => true
  | some .free => true
  | _ => false
def isLoc : Option NameKind → Bool
  | some .local => true
  | some .cell => true
  | _ => false
def isGl : Option NameKind → Bool
  | some .globalImplicit => true
  | _ => false
def okName (x : Str) : Bool := !(x == ("__debug__" : Str)) && !(x == ("__classdict__" : Str))
def cVar (Γ : CEnv) (x : Str) : Option Nat := gd (okName x && isVis (Γ.names.lookup x)) (ixOf x Γ.N 0)
def cLoc (Γ : CEnv) (x : Str) : Option Nat := gd (isLoc (Γ.names.lookup x)) (ixOf x Γ.N 0)
def bltin (Γ : CEnv) (x : Str) : Bool := isGl (Γ.names.lookup x) && Γ.nob.contains x
def bopOf : Operator → Option Bop
  | .Add => some .add
  | .Sub => some .sub
  | .Mult => some .mul
  | .FloorDiv => some .fdiv
  | .Mod => some .mod
  | .Pow => some .pow
  | _ => none
def three (p q r : Cop) (x y z u : CE) : Option CB := match y with
  | .var i => match z with
    | .var j => some (.and (.bl (.cmp p x (.var i))) (.and (.bl (.cmp q (.var i) (.var j))) (.bl (.cmp r (.var j) u))))
    | _ => none
  | _ => none
def copOf : CmpOp → Expr → Option Cop
  | .Eq, _ => some .eq
  | .NotEq, _ => some .ne
  | .Lt, _ => some .lt
  | .LtE, _ => some .le
  | .Gt, _ => some .gt
  | .GtE, _ => some .ge
  | .Is, _ => some .is
  | .IsNot, _ => some .nis
  | _, _ => none
def tyOf (x : Str) : Option Ty := match decide (x = tyS .int) with
  | true => some .int
  | false => match decide (x = tyS .bool) with
    | true => some .bool
    | false => match decide (x = tyS .str) with
      | true => some .str
      | false => match decide (x = tyS .tuple) with
        | true => some .tuple
        | false => match decide (x = tyS .list) with
          | true => some .list
          | false => none
theorem tyOf_is {x : Str} {t : Ty} (h : tyOf x = some t) : x = tyS t := by
  unfold tyOf at h
  repeat' split at h
  all_goals first | (cases h; done) | (cases h; rename_i e; exact of_decide_eq_true e)
def biOf (x : Str) : Option Bi := [Bi.len, .min, .max, .sum, .sorted, .abs, .list, .tuple, .int, .set, .dict].find? fun b => decide (x = biN b)
theorem biOf_is {x : Str} {b : Bi} (h : biOf x = some b) : x = biN b := by
  have q := List.find?_some (p := fun b => decide (x = biN b)) h
  exact of_decide_eq_true q
def mtOf (x : Str) : Option Mt := [Mt.append, .pop, .count, .index].find? fun m => decide (x = mtN m)
theorem mtOf_is {x : Str} {m : Mt} (h : mtOf x = some m) : x = mtN m := by
  have q := List.find?_some (p := fun m => decide (x = mtN m)) h
  exact of_decide_eq_true q
def ownOf (Γ : CEnv) (scope : Scope) : List (Str × Nat) := scope.names.filterMap fun y => match isLoc (some y.2) with
  | true => (ixOf y.1 Γ.N 0).map fun i => (y.1, i)
  | false => none
def fkS (names : List (Str × NameKind)) : Scope := { kind := .function, names := names, isGenerator := false, isCoroutine := false }
structure Cmp where
  E : CEnv → Expr → Option CE
  B : CEnv → Expr → Option CB
def cEs (f : Expr → Option CE) : List Expr → Option (List CE)
  | [] => some []
  | e :: es => bd (f e) fun c => bd (cEs f es) fun cs => some (c :: cs)
def cAnds (f : Expr → Option CE) : List Expr → Option CE
  | [] => none
  | [a] => f a
  | a :: b :: r => bd (f a) fun x => bd (cAnds f (b :: r)) fun y => some (.and x y)
def cOrs (f : Expr → Option CE) : List Expr → Option CE
  | [] => none
  | [a] => f a
  | a :: b :: r => bd (f a) fun x => bd (cOrs f (b :: r)) fun y => some (.or x y)
def bAnds (f : Expr → Option CB) : List Expr → Option CB
  | [] => none
  | [a] => f a
  | a :: b :: r => bd (f a) fun x => bd (bAnds f (b :: r)) fun y => some (.and x y)
def bOrs (f : Expr → Option CB) : List Expr → Option CB
  | [] => none
  | [a] => f a
  | a :: b :: r => bd (f a) fun x => bd (bOrs f (b :: r)) fun y => some (.or x y)
def cOpt (f : Expr → Option CE) : Option Expr → Option (Option CE)
  | none => some none
  | some e => bd (f e) fun c => some (some c)
def cTgts (f : Expr → Option CT) : List Expr → Option (List CT)
  | [] => some []
  | e :: es => gd (noStar e) (bd (f e) fun c => bd (cTgts f es) fun cs => some (c :: cs))
def cTgt : Nat → CEnv → Expr → Option CT
  | 0, _, _ => none
  | n + 1, Γ, e => match e with
    | .Name x _ => bd (cLoc Γ x) fun i => some (.nm i)
    | .Tuple es _ _ => bd (cTgts (cTgt n Γ) es) fun ts => some (.tup ts)
    | _ => none
def isTupT : Expr → Bool
  | .Tuple _ _ _ => true
  | _ => false
def cIt (C : Cmp) (Γ : CEnv) (tg it : Expr) : Option CI := match it with
  | .Call (.Name x _) [a] [] _ => match decide (x = "range") && bltin Γ x with
    | true => gd (noStar a) (bd (C.E Γ a) fun ca => some (.rng1 ca))
    | false => match decide (x = "enumerate") && bltin Γ x && isTupT tg with
      | true => gd (noStar a) (bd (C.E Γ a) fun ca => some (.enum ca))
      | false => bd (C.E Γ it) fun c => some (.over c)
  | .Call (.Name x _) [a, b] [] _ => match decide (x = "range") && bltin Γ x with
    | true => gd (noStar a && noStar b) (bd (C.E Γ a) fun ca => bd (C.E Γ b) fun cb => some (.rng2 ca cb))
    | false => match decide (x = "zip") && bltin Γ x && isTupT tg with
      | true => gd (noStar a && noStar b) (bd (C.E Γ a) fun ca => bd (C.E Γ b) fun cb => some (.zip ca cb))
      | false => bd (C.E Γ it) fun c => some (.over c)
  | .Call (.Attribute a m apos) [] [] cpos => gd (decide (m = "keys") && (apos.endLine == cpos.line) && noBase a) (bd (C.E Γ a) fun ca => some (.keys (.lk ca)))
  | _ => bd (C.E Γ it) fun c => some (.over c)
def cIfs (C : Cmp) (Γ : CEnv) : List Expr → Option (Option CB)
  | [] => some none
  | [b] => bd (C.B Γ b) fun c => some (some c)
  | _ => none
def cLcG (C : Cmp) (Γ : CEnv) (fi : Expr → Expr → Option CI) (elt : Expr) (gens : List Comprehension) (scope : Scope) : Option CE := match gens with
  | [⟨tg, iter, ifs, 0⟩] =>
    gd (blkC Γ.N (fkS Γ.names) scope (ownOf Γ scope) && noSet iter) (bd (fi tg iter) fun ci =>
      bd (cTgt 9 { Γ with names := scope.names } tg) fun ct => bd (cIfs C { Γ with names := scope.names } ifs) fun co =>
        bd (C.E { Γ with names := scope.names } elt) fun ce => some (.lc ci ct ((ownOf Γ scope).map (·.2)) co ce))
  | _ => none
def cLc (C : Cmp) (Γ : CEnv) (elt : Expr) (gens : List Comprehension) (scope : Scope) : Option CE := cLcG C Γ (cIt C Γ) elt gens scope
def kyOf (it : Expr) : Option (Str × Bool) := match it with
  | .Name x _ => some (x, false)
  | .Call (.Attribute (.Name x _) m apos) [] [] cpos => match decide (m = "keys") && (apos.endLine == cpos.line) with
    | true => some (x, true)
    | false => none
  | _ => none
theorem kyOf_is {it : Expr} {x : Str} {b : Bool} (h : kyOf it = some (x, b)) : (∃ p, it = .Name x p) ∨ ∃ p apos cpos, it = .Call (.Attribute (.Name x p) "keys" apos) [] [] cpos ∧ (apos.endLine == cpos.line) = true := by
  unfold kyOf at h
  split at h
  · cases h; exact .inl ⟨_, rfl⟩
  · split at h
    · rename_i e
      cases h
      rw [Bool.and_eq_true] at e
      have e1 := of_decide_eq_true e.1
      subst e1
      exact .inr ⟨_, _, _, rfl, e.2⟩
    · cases h
  · cases h
def cItK (Γ : CEnv) (it : Expr) : Option (Nat × CI) := bd (kyOf it) fun p => bd (cVar Γ p.1) fun i => some (i, .keys (.var i))
def cLcK (C : Cmp) (Γ : CEnv) (elt : Expr) (gens : List Comprehension) (scope : Scope) : Option CE := match gens with
  | [⟨_, iter, _, _⟩] => bd (cItK Γ iter) fun p => bd (cLcG C Γ (fun _ it => bd (cItK Γ it) fun q => some q.2) elt gens scope) fun ce => some (.lockE p.1 ce)
  | _ => none
def ctSl : CT → List Nat
  | .nm i => [i]
  | .tup _ => []
def cLc2 (C : Cmp) (Γ : CEnv) (elt : Expr) (gens : List Comprehension) (scope : Scope) : Option CE := match gens with
  | [⟨tg, iter, [], 0⟩, ⟨tg1, iter1, [], 0⟩] =>
    gd (blkC Γ.N (fkS Γ.names) scope (ownOf Γ scope) && noSet iter && noSet iter1) (bd (cIt C Γ tg iter) fun ci =>
      bd (cTgt 9 { Γ with names := scope.names } tg) fun ct => bd (cIt C { Γ with names := scope.names } tg1 iter1) fun ci1 => bd (cTgt 9 { Γ with names := scope.names } tg1) fun ct1 =>
        bd (C.E { Γ with names := scope.names } elt) fun ce => gd ((ctSl ct1).all fun i => ((ownOf Γ scope).map (·.2)).contains i) (some (.lc2 ci ct ci1 ct1 ((ownOf Γ scope).map (·.2)) (ctSl ct1) ce)))
  | _ => none
def cIsi (C : Cmp) (Γ : CEnv) (es : List Expr) : Option CE := match es with
  | [a, .Name t _] => gd (noStar a && bltin Γ t) (bd (tyOf t) fun ty => bd (C.E Γ a) fun ca => some (.isi ca ty))
  | [a, .Tuple [.Name t _, .Name u _] _ _] => gd (noStar a && bltin Γ t && bltin Γ u) (bd (tyOf t) fun ty => bd (tyOf u) fun uy => bd (C.E Γ a) fun ca => some (.isis ca ty uy))
  | _ => none
def lrgOf (x : Str) (es : List Expr) : Option (Expr × Expr) := match decide (x = "list") with
  | true => match es with
    | [.Call (.Name y _) [a, b] [] _] => match decide (y = "range") with
      | true => some (a, b)
      | false => none
    | _ => none
  | false => none
theorem lrgOf_is {x : Str} {es : List Expr} {a b : Expr} (h : lrgOf x es = some (a, b)) : x = "list" ∧ ∃ p q, es = [.Call (.Name "range" p) [a, b] [] q] := by
  unfold lrgOf at h
  split at h
  · rename_i e
    split at h
    · split at h
      · rename_i e2
        cases h
        have e2 := of_decide_eq_true e2
        subst e2
        exact ⟨of_decide_eq_true e, _, _, rfl⟩
      · cases h
    · cases h
  · cases h
def lrg1Of (x : Str) (es : List Expr) : Option Expr := match decide (x = "list") with
  | true => match es with
    | [.Call (.Name y _) [b] [] _] => match decide (y = "range") with
      | true => some b
      | false => none
    | _ => none
  | false => none
theorem lrg1Of_is {x : Str} {es : List Expr} {b : Expr} (h : lrg1Of x es = some b) : x = "list" ∧ ∃ p q, es = [.Call (.Name "range" p) [b] [] q] := by
  unfold lrg1Of at h
  split at h
  · rename_i e
    split at h
    · split at h
      · rename_i e2
        cases h
        have e2 := of_decide_eq_true e2
        subst e2
        exact ⟨of_decide_eq_true e, _, _, rfl⟩
      · cases h
    · cases h
  · cases h
def skOf (x : Str) (es : List Expr) : Option Expr := match decide (x = "sorted") with
  | true => match es with
    | [.Call (.Attribute a m apos) [] [] cpos] => match decide (m = "keys") && (apos.endLine == cpos.line) && noBase a with
      | true => some a
      | false => none
    | _ => none
  | false => none
theorem skOf_is {x : Str} {es : List Expr} {a : Expr} (h : skOf x es = some a) : x = "sorted" ∧ ∃ apos cpos, es = [.Call (.Attribute a "keys" apos) [] [] cpos] ∧ (apos.endLine == cpos.line) = true ∧ noBase a = true := by
  unfold skOf at h
  split at h
  · rename_i e
    split at h
    · split at h
      · rename_i e2
        cases h
        rw [Bool.and_eq_true, Bool.and_eq_true] at e2
        have e3 := of_decide_eq_true e2.1.1
        subst e3
        exact ⟨of_decide_eq_true e, _, _, rfl, e2.1.2, e2.2⟩
      · cases h
    · cases h
  · cases h
def vlOf (x : Str) (es : List Expr) : Option Expr := match decide (x = "list") with
  | true => match es with
    | [.Call (.Attribute a m apos) [] [] cpos] => match decide (m = "values") && (apos.endLine == cpos.line) && noBase a with
      | true => some a
      | false => none
    | _ => none
  | false => none
theorem vlOf_is {x : Str} {es : List Expr} {a : Expr} (h : vlOf x es = some a) : x = "list" ∧ ∃ apos cpos, es = [.Call (.Attribute a "values" apos) [] [] cpos] ∧ (apos.endLine == cpos.line) = true ∧ noBase a = true := by
  unfold vlOf at h
  split at h
  · rename_i e
    split at h
    · split at h
      · rename_i e2
        cases h
        rw [Bool.and_eq_true, Bool.and_eq_true] at e2
        have e3 := of_decide_eq_true e2.1.1
        subst e3
        exact ⟨of_decide_eq_true e, _, _, rfl, e2.1.2, e2.2⟩
      · cases h
    · cases h
  · cases h
def trgOf (x : Str) (es : List Expr) : Option Expr := match decide (x = "tuple") with
  | true => match es with
    | [.Call (.Name y _) [b] [] _] => match decide (y = "range") with
      | true => some b
      | false => none
    | _ => none
  | false => none
theorem trgOf_is {x : Str} {es : List Expr} {b : Expr} (h : trgOf x es = some b) : x = "tuple" ∧ ∃ p q, es = [.Call (.Name "range" p) [b] [] q] := by
  unfold trgOf at h
  split at h
  · rename_i e
    split at h
    · split at h
      · rename_i e2
        cases h
        have e2 := of_decide_eq_true e2
        subst e2
        exact ⟨of_decide_eq_true e, _, _, rfl⟩
      · cases h
    · cases h
  · cases h
def cCallV (C : Cmp) (Γ : CEnv) (x : Str) (es : List Expr) : Option CE := gd (es.all noStar && !es.isEmpty) (bd (cVar Γ x) fun i => bd (cEs (C.E Γ) es) fun cs => some (.callv i cs))
def cCall (C : Cmp) (Γ : CEnv) (x : Str) (es : List Expr) : Option CE := match isVis (Γ.names.lookup x) with
 | true => cCallV C Γ x es
 | false => match Γ.fns.lookup x with
  | some (k, ar) => gd (isGl (Γ.names.lookup x) && !(x == ("__debug__" : Str)) && es.all noStar && decide (es.length = ar)) (bd (cEs (C.E Γ) es) fun cs => some (.call k cs))
  | none => gd (bltin Γ x) (match decide (x = "isinstance") with
    | true => cIsi C Γ es
    | false => match lrgOf x es with
      | some (a, b) => gd (bltin Γ "range" && noStar a && noStar b) (bd (C.E Γ a) fun ca => bd (C.E Γ b) fun cb => some (.lrg ca cb))
      | none => match lrg1Of x es with
      | some b => gd (bltin Γ "range" && noStar b) (bd (C.E Γ b) fun cb => some (.lrg1 cb))
      | none => match trgOf x es with
      | some b => gd (bltin Γ "range" && noStar b) (bd (C.E Γ b) fun cb => some (.trg cb))
      | none => match skOf x es with
      | some a => bd (C.E Γ a) fun ca => some (.skeys ca)
      | none => match vlOf x es with
      | some a => bd (C.E Γ a) fun ca => some (.vals ca)
      | none => gd (es.all noStar && !es.isEmpty) (bd (biOf x) fun b => bd (cEs (C.E Γ) es) fun cs => some (.bi b cs)))
def cGlob (Γ : CEnv) (x : Str) : Option CE := match Γ.consts.lookup x with
  | some v => some (.val v)
  | none => bd (Γ.fns.lookup x) fun p => some (.val (.fn p.1))
def keysOf : List (Option Expr) → Option (List Expr)
  | [] => some []
  | some k :: r => bd (keysOf r) fun ks => some (k :: ks)
  | none :: _ => none
def cDisp (C : Cmp) (Γ : CEnv) (ks : List (Option Expr)) (vs : List Expr) : Option CE := gd (Nat.ble ks.length 15 && !ks.isEmpty) (bd (keysOf ks) fun ks => bd (cEs (C.E Γ) ks) fun cks => bd (cEs (C.E Γ) vs) fun cvs => gd (decide (ks.length = vs.length)) (some (.disp cks cvs)))
def posN (p : Pos) : Nat := p.line * 1000 + p.col
def cDict (C : Cmp) (Γ : CEnv) (ks : List (Option Expr)) (vs : List Expr) (p : Pos) : Option CE := match ks, vs with
  | [], [] => some (.dnew (Γ.dts.contains (posN p)))
  | [some k], [v] => match Γ.dts.contains (posN p) with
    | true => bd (C.E Γ k) fun ck => bd (C.E Γ v) fun cv => some (.dispT ck cv)
    | false => cDisp C Γ [some k] [v]
  | ks, vs => cDisp C Γ ks vs
def isEmD (op : CmpOp) (b : Expr) : Bool := match op, b with
  | .Eq, .Dict [] [] _ => true
  | _, _ => false
theorem isEmD_is {op : CmpOp} {b : Expr} (h : isEmD op b = true) : op = .Eq ∧ ∃ p, b = .Dict [] [] p := by
  unfold isEmD at h
  split at h
  · exact ⟨rfl, _, rfl⟩
  · cases h
def isOne : Expr → Bool
  | .UnaryOp .USub (.Constant (.int 1) _ _) _ => true
  | _ => false
def isGlD (Γ : CEnv) (x : Str) : Bool := isGl (Γ.names.lookup x) && !(x == ("__debug__" : Str))
def xCall (C : Cmp) (Γ : CEnv) (e : Expr) : Option (Nat × List CE) := match e with
  | .Call (.Name x _) es [] _ => match Γ.fns.lookup x with
    | some (k, ar) => gd (isGlD Γ x && es.all noStar && decide (es.length = ar) && !es.isEmpty && Γ.rsn.contains x) (bd (cEs (C.E Γ) es) fun cs => some (k, cs))
    | none => none
  | _ => none
def hval : Nat → CEnv → Str → Nat → Expr → Option PV
  | 0, _, _, _, _ => none
  | m + 1, Γ, n, i, e => match e with
    | .Constant (.bool b) _ _ => some (.bl b)
    | .Constant (.str s) _ _ => some (.str s)
    | .Call (.Name f _) [.Name y _, .Name D _] [] _ => gd (decide (f = "isinstance") && bltin Γ f && decide (y = n) && isGlD Γ D) (bd (Γ.excs.lookup D) fun j => some (.bl (decide (i = j))))
    | .IfExp t a b _ => gd (plainT t) (match hval m Γ n i t with
      | some (.bl true) => hval m Γ n i a
      | some (.bl false) => hval m Γ n i b
      | _ => none)
    | _ => none
def hAll (Γ : CEnv) (n : Str) (e : Expr) : List (Str × Nat) → Option (List (Nat × PV))
  | [] => some []
  | p :: r => bd (hval 9 Γ n p.2 e) fun v => bd (hAll Γ n e r) fun t => some ((p.2, v) :: t)
def isFnK : ScopeKind → Bool
  | .function => true
  | _ => false
structure Told where
  a : Str
  x : Str
  n : Str
  e : Expr
  aft : Option Bool
def toldOf (st : Stmt) : Option Told := match defBody st with
  | [.Try [.Return (some (.Call (.Name a _) [] [] _)) _] [.ExceptHandler (some (.Name x _)) (some n) [.Return (some e) _] _] [] [] _] => some ⟨a, x, n, e, none⟩
  | [.Try [.Expr (.Call (.Name a _) [] [] _) _] [.ExceptHandler (some (.Name x _)) (some n) [.Return (some e) _] _] [] [] _, .Return (some (.Constant (.bool b) _ _)) _] => some ⟨a, x, n, e, some b⟩
  | _ => none
def gEnv (Γ : CEnv) (d : DefR) : CEnv := { N := d.N, names := (defScope d.st).names, fns := [], consts := [], nob := Γ.nob, dts := [], excs := Γ.excs, exb := Γ.exb }
def lEnv (Γ : CEnv) (scope : Scope) : CEnv := { Γ with names := scope.names, lam := false }
def lamOf : List Expr → Option (Arguments × Expr × Scope)
  | [.Lambda params body scope _] => some (params, body, scope)
  | _ => none
theorem lamOf_is {es : List Expr} {p : Arguments} {b : Expr} {sc : Scope} (h : lamOf es = some (p, b, sc)) : ∃ q, es = [.Lambda p b sc q] := by
  unfold lamOf at h
  split at h
  · cases h; exact ⟨_, rfl⟩
  · cases h
def noPar (p : Arguments) : Bool := match p with
  | ⟨[], [], none, [], [], none, []⟩ => true
  | _ => false
theorem noPar_is {p : Arguments} (h : noPar p = true) : p = ⟨[], [], none, [], [], none, []⟩ := by
  unfold noPar at h
  split at h
  · rfl
  · cases h
def isCF : Option NameKind → Bool
  | some .cell => true
  | some .free => true
  | _ => false
def scB (Γ : CEnv) (scope : Scope) : Bool := isFnK scope.kind && !scope.isCoroutine && !scope.isGenerator && scope.names.all fun y => !isLoc (some y.2) && (match y.2 with | .free => isCF (Γ.names.lookup y.1) | _ => true)
def parOf (p : Arguments) : Option (Arg × Int × Nat × Pos) := match p with
  | ⟨[], [ar], none, [], [], none, [.Constant (.int i) kd kp]⟩ => some (ar, i, kd, kp)
  | _ => none
theorem parOf_is {p : Arguments} {ar : Arg} {i : Int} {kd : Nat} {kp : Pos} (h : parOf p = some (ar, i, kd, kp)) : p = ⟨[], [ar], none, [], [], none, [.Constant (.int i) kd kp]⟩ := by
  unfold parOf at h
  split at h
  · cases h; rfl
  · cases h
def scP (Γ : CEnv) (scope : Scope) (a : Str) : Bool := isFnK scope.kind && !scope.isCoroutine && !scope.isGenerator && decide (scope.names.lookup a = some .local) && !(Γ.N.contains a) && scope.names.all fun y => (!isLoc (some y.2) || (decide (y.1 = a) && decide (y.2 = .local))) && (match y.2 with | .free => isCF (Γ.names.lookup y.1) | _ => true)
def lamSc (Γ : CEnv) (params : Arguments) (scope : Scope) : Bool := match parOf params with
  | some q => scP Γ scope q.1.arg
  | none => noPar params && scB Γ scope
def tChk (Γ : CEnv) (d : DefR) (t : Told) : Bool := decide (t.x = Γ.exb) && isGlD (gEnv Γ d) t.x && decide ((gEnv Γ d).names.lookup t.n = some .local) && okName t.n && decide (d.ps = [t.a]) && decide (d.N[0]? = some t.a) && isVis ((gEnv Γ d).names.lookup t.a) && okName t.a
def cLam (C : Cmp) (Γ : CEnv) (x : Str) (params : Arguments) (body : Expr) (scope : Scope) : Option CE :=
  gd (Γ.lam && !Γ.excs.isEmpty && isGlD Γ x && lamSc Γ params scope) (bd (Γ.tolds.lookup x) fun p => bd (toldOf p.2.st) fun t => gd (tChk Γ p.2 t) (bd (ixOf t.n p.2.N 0) fun _ => bd (C.E (lEnv Γ scope) body) fun cb => bd (xCall C (lEnv Γ scope) body) fun px => bd (hAll (gEnv Γ p.2) t.n t.e Γ.excs) fun hs => some (.lam cb (.call (xbig + px.1) px.2) hs t.aft)))
def stepC (C : Cmp) : Cmp where
  E := fun Γ e => match e with
    | .Name x _ => match isVis (Γ.names.lookup x) with
      | true => bd (cVar Γ x) fun i => some (.var i)
      | false => gd (isGl (Γ.names.lookup x) && okName x) (cGlob Γ x)
    | .Constant (.int i) _ _ => some (.val (.int i))
    | .Constant (.bool b) _ _ => some (.val (.bl b))
    | .Constant .none _ _ => some (.val .non)
    | .Constant (.str s) _ _ => some (.val (.str s))
    | .BinOp a op b _ => bd (bopOf op) fun o => bd (C.E Γ a) fun x => bd (C.E Γ b) fun y => some (.bin o x y)
    | .UnaryOp .USub a _ => bd (C.E Γ a) fun x => some (.neg x)
    | .UnaryOp .Not a _ => bd (C.E Γ a) fun x => some (.not x)
    | .Compare a [op] [b] _ => match isEmD op b with
     | true => bd (C.E Γ a) fun x => some (.isE x)
     | false => match op with
      | .In => gd (noSet b) (bd (C.E Γ a) fun x => bd (C.E Γ b) fun y => some (.isin false x y))
      | .NotIn => gd (noSet b) (bd (C.E Γ a) fun x => bd (C.E Γ b) fun y => some (.isin true x y))
      | _ => gd (noSet b) (bd (copOf op b) fun o => bd (C.E Γ a) fun x => bd (C.E Γ b) fun y => some (.cmp o x y))
    | .Compare a [o1, o2] [b, d] _ => gd (noSet d) (bd (copOf o1 b) fun p => bd (copOf o2 d) fun q => bd (C.E Γ a) fun x => bd (C.E Γ b) fun y => bd (C.E Γ d) fun z => some (.chain p q x y z))
    | .BoolOp .And es _ => cAnds (C.E Γ) es
    | .BoolOp .Or es _ => cOrs (C.E Γ) es
    | .IfExp t a b _ => bd (C.B Γ t) fun x => bd (C.E Γ a) fun y => bd (C.E Γ b) fun z => some (.ite x y z)
    | .Tuple es _ _ => gd (es.all noStar) (bd (cEs (C.E Γ) es) fun cs => some (.tup cs))
    | .List es _ => gd (es.all noStar) (bd (cEs (C.E Γ) es) fun cs => some (.lst cs))
    | .Call (.Name x _) es [] _ => match lamOf es with
      | some q => cLam C Γ x q.1 q.2.1 q.2.2
      | none => cCall C Γ x es
    | .Call (.Attribute o m apos) es [] cpos => gd (noBase o && (apos.endLine == cpos.line)) (match decide (m = "get") with
     | true => (match es with
      | [k, x] => gd (noStar k && noStar x) (bd (C.E Γ o) fun co => bd (C.E Γ k) fun ck => bd (C.E Γ x) fun cx => some (.get2 co ck cx))
      | _ => none)
     | false => bd (mtOf m) fun mt => match mt, es with
      | .append, [a] => gd (noStar a) (bd (C.E Γ o) fun co => bd (C.E Γ a) fun ca => some (.mt .append co [ca]))
      | .count, [a] => gd (noStar a) (bd (C.E Γ o) fun co => bd (C.E Γ a) fun ca => some (.mt .count co [ca]))
      | .index, [a] => gd (noStar a) (bd (C.E Γ o) fun co => bd (C.E Γ a) fun ca => some (.mt .index co [ca]))
      | .pop, [] => bd (C.E Γ o) fun co => some (.mt .pop co [])
      | _, _ => none)
    | .Subscript a (.Slice lo hi none _) _ => bd (C.E Γ a) fun x => bd (cOpt (C.E Γ) lo) fun l => bd (cOpt (C.E Γ) hi) fun h => some (.sl x l h)
    | .Subscript a (.Slice none none (some st) _) _ => gd (isOne st) (bd (C.E Γ a) fun x => some (.rev x))
    | .Dict ks vs p => cDict C Γ ks vs p
    | .Subscript a b _ => gd (noSlice b) (bd (C.E Γ a) fun x => bd (C.E Γ b) fun y => some (.ix x y))
    | .ListComp elt gens scope p => match Γ.dts.contains (posN p) with
     | true => cLcK C Γ elt gens scope
     | false => match gens with
      | [_, _] => cLc2 C Γ elt gens scope
      | _ => cLc C Γ elt gens scope
    | _ => none
  B := fun Γ e => match e with
    | .UnaryOp .Not a _ => bd (C.B Γ a) fun x => some (.not x)
    | .BoolOp .And es _ => bAnds (C.B Γ) es
    | .BoolOp .Or es _ => bOrs (C.B Γ) es
    | .Compare a [op] [b] _ => match isEmD op b with
     | true => bd (C.E Γ a) fun x => some (.bl (.isE x))
     | false => match op with
      | .In => gd (noSet b) (bd (C.E Γ a) fun x => bd (C.E Γ b) fun y => some (.bl (.isin false x y)))
      | .NotIn => gd (noSet b) (bd (C.E Γ a) fun x => bd (C.E Γ b) fun y => some (.bl (.isin true x y)))
      | _ => gd (noSet b) (bd (copOf op b) fun o => bd (C.E Γ a) fun x => bd (C.E Γ b) fun y => some (.bl (.cmp o x y)))
    | .Compare a [o1, o2] [b, d] _ => gd (noSet d) (bd (copOf o1 b) fun p => bd (copOf o2 d) fun q => bd (C.E Γ a) fun x => bd (C.E Γ b) fun y => bd (C.E Γ d) fun z => some (.bl (.chain p q x y z)))
    | .Compare a [o1, o2, o3] [b, d, e2] _ => gd (noSet e2) (bd (copOf o1 b) fun p => bd (copOf o2 d) fun q => bd (copOf o3 e2) fun r => bd (C.E Γ a) fun x => bd (C.E Γ b) fun y => bd (C.E Γ d) fun z => bd (C.E Γ e2) fun u => three p q r x y z u)
    | _ => gd (plainT e) (bd (C.E Γ e) fun x => some (.val x))
def cmpN : Nat → Cmp
  | 0 => ⟨fun _ _ => none, fun _ _ => none⟩
  | n + 1 => stepC (cmpN n)
end Pyx

namespace Pyx
open PySem PySem.Spec PyProof.Rows L2
def FnIn (c : Rc) (call : Nat → List PV → PH → R PV) (X : Cx) (x : Str) (k ar : Nat) : Prop := ∃ fd ps lvl, X.mg x = some (.ref (c.F k)) ∧ PySem.W.keepIn X.K (.ref (c.F k)) = true ∧ Binds X.K fd ps [] ∧ Room lvl X.A ∧
  FnOk X.prog X.w X.K X.mg X.base (L2.CX X.prog X.w) lvl (c.F k) fd ps (spB c call k ar)
structure ExF (c : Rc) (K : PySem.W.Frag) (mg : Str → Option Value) (x : Str) (i : Nat) : Prop where
  mg : mg x = some (.ref (c.C i))
  keep : PySem.W.keepIn K (.ref (c.C i)) = true
  exc : ∃ (B newId initId : String) (bmB : List Value), ExcBaseFacts B newId initId bmB ∧ PySem.W.excIn K (c.C i) bmB newId = true
  sub : PySem.W.subIn K (.ref (c.C i)) (.type "BaseException") = some true
  ty : PySem.W.typeIn K (.ref (c.C i)) = some (.type "type")
  is : ExcC K (c.C i)
structure ExAll (c : Rc) (K : PySem.W.Frag) (mg : Str → Option Value) (xs : List (Str × Nat)) (xb : Str) : Prop where
  one : ∀ x i, (x, i) ∈ xs → ExF c K mg x i
  kit : ∀ x i y j, (x, i) ∈ xs → (y, j) ∈ xs → PySem.W.kitOne K (.ref (c.C i)) (.ref (c.C j)) = some (decide (i = j))
  base : xs ≠ [] → ∃ CB, mg xb = some (.ref CB) ∧ ∀ x i, (x, i) ∈ xs → PySem.W.exmOne K (.ref (c.C i)) (.ref CB) = some true
structure LamG (c : Rc) (call : Nat → List PV → PH → R PV) (Γ : CEnv) (X : Cx) : Prop where
  code : X.env.code = .ref c.cd
  tab : LamX.TabB X.base X.mg c.cd c.tb
  qual : X.env.qual ++ "<lambda>" = c.lq
  lvl : ∃ m, Room (m + 2) X.A ∧ (∀ x k ar, Γ.fns.lookup x = some (k, ar) → ∃ fd ps, X.mg x = some (.ref (c.F k)) ∧ PySem.W.keepIn X.K (.ref (c.F k)) = true ∧ Binds X.K fd ps [] ∧ FnOk X.prog X.w X.K X.mg X.base (L2.CX X.prog X.w) m (c.F k) fd ps (spB c call k ar)) ∧
    (∀ k vs h, call k vs h ≠ .stuck → k < xbig → ∃ x fd ps, X.mg x = some (.ref (c.F k)) ∧ PySem.W.keepIn X.K (.ref (c.F k)) = true ∧ Binds X.K fd ps [] ∧ FnOk X.prog X.w X.K X.mg X.base (L2.CX X.prog X.w) m (c.F k) fd ps (spB c call k vs.length))
  told : ∀ x k d, Γ.tolds.lookup x = some (k, d) → d.x = x ∧ X.mg x = some (.ref (c.F k)) ∧ ∃ fd, Fun X.K d.x d.x d.st (c.F k) fd ∧ Binds X.K fd d.ps [] ∧ FnScope d.N d.ps (defScope d.st)
structure Good (c : Rc) (call : Nat → List PV → PH → R PV) (Γ : CEnv) (X : Cx) : Prop where
  K : X.K = c.K
  W : X.w = c.w
  calm : X.calm = true
  nd : X.N.Nodup
  N : X.N = Γ.N
  xe : X.xe = fun _ _ => False
  vis : ∀ x, isVis (Γ.names.lookup x) = true → Vis X.env.scope x
  loc : ∀ x, isLoc (Γ.names.lookup x) = true → Loc X.env.scope x ∧ (X.fn x = true ∨ X.env.scope.names.lookup x = some .local)
  fr : ∀ x, (Γ.names.lookup x = some .cell ∨ Γ.names.lookup x = some .free) → (X.env.scope.names.lookup x = some .cell ∨ X.env.scope.names.lookup x = some .free)
  gl : ∀ x, isGl (Γ.names.lookup x) = true → Gl X x
  fns : ∀ x k ar, Γ.fns.lookup x = some (k, ar) → FnIn c call X x k ar
  fnv : ∀ k vs h, call k vs h ≠ .stuck → k < xbig → ∃ x, FnIn c call X x k vs.length
  consts : ∀ x v, Γ.consts.lookup x = some v → ∃ u w, X.mg x = some u ∧ RelV w u ∧ ∀ f n H, RV c f n H v w
  nob : ∀ x, Γ.nob.contains x = true → X.mg x = none
  units : X.A.units + 65 < cLine
  exs : ExAll c X.K X.mg Γ.excs Γ.exb
  lams : Γ.lam = true → LamG c call Γ X
section
variable {c : Rc} {call : Nat → List PV → PH → R PV} {Γ : CEnv} {X : Cx}
theorem bltin_is (G : Good c call Γ X) {x : Str} (h : bltin Γ x = true) : Gl X x ∧ X.mg x = none := by
  unfold bltin at h
  rw [Bool.and_eq_true] at h
  exact ⟨G.gl x h.1, G.nob x h.2⟩
theorem okName_is {x : Str} (h : okName x = true) : (x == ("__debug__" : Str)) = false ∧ (x == ("__classdict__" : Str)) = false := by
  unfold okName at h
  rw [Bool.and_eq_true, Bool.not_eq_true', Bool.not_eq_true'] at h
  exact h
theorem cVar_is (G : Good c call Γ X) {x : Str} {i : Nat} (h : cVar Γ x = some i) : X.N[i]? = some x ∧ Vis X.env.scope x ∧ (x == ("__debug__" : Str)) = false ∧ (x == ("__classdict__" : Str)) = false := by
  obtain ⟨h1, h2⟩ := gd_is h
  rw [Bool.and_eq_true] at h1
  obtain ⟨h3, h4⟩ := okName_is h1.1
  have q := (ixOf_is h2).2
  rw [Nat.sub_zero, ← G.N] at q
  exact ⟨q, G.vis x h1.2, h3, h4⟩
theorem cLoc_is (G : Good c call Γ X) {x : Str} {i : Nat} (h : cLoc Γ x = some i) : X.N[i]? = some x ∧ Loc X.env.scope x ∧ (X.fn x = true ∨ X.env.scope.names.lookup x = some .local) := by
  obtain ⟨h1, h2⟩ := gd_is h
  have q := (ixOf_is h2).2
  rw [Nat.sub_zero, ← G.N] at q
  exact ⟨q, G.loc x h1⟩
theorem lookup_mapk {g : Str → NameKind → NameKind} : ∀ (l : List (Str × NameKind)) (x : Str), (l.map fun p => (p.1, g p.1 p.2)).lookup x = (l.lookup x).map (g x)
  | [], _ => rfl
  | (n, k) :: r, x => by
    rw [List.map_cons, List.lookup_cons, List.lookup_cons]
    cases h : x == n with
    | true =>
      have e : x = n := by simpa using h
      subst e
      rfl
    | false => exact lookup_mapk r x
theorem relabel_look (scope : Scope) (env : Env) (x : Str) : (relabel scope env).names.lookup x = (scope.names.lookup x).map fun k => if (k == .free && env.scope.kind == .function && env.kindOf x == some .cell) = true then .cell else k := by
  have e : (relabel scope env).names = scope.names.map fun p => (p.1, if (p.2 == .free && env.scope.kind == .function && env.kindOf p.1 == some .cell) = true then .cell else p.2) := by
    unfold relabel
    refine List.map_congr_left fun p _ => ?_
    obtain ⟨n, k⟩ := p
    dsimp only
    split
    · rename_i h; rfl
    · rename_i h; rfl
  rw [e, lookup_mapk (g := fun n k => if (k == .free && env.scope.kind == .function && env.kindOf n == some .cell) = true then .cell else k)]
theorem good_blk (G : Good c call Γ X) (s : Shared) (H : Hp) (scope : Scope) (C : Addr) (cl : List (Str × Addr)) (fp : List Addr) : Good c call { Γ with names := scope.names } (X.blk s H scope (compEnvC scope cl C X.env) fp) where
  K := G.K
  W := G.W
  calm := G.calm
  nd := G.nd
  N := G.N
  xe := rfl
  vis := fun x h => by
    show Vis (relabel scope X.env) x
    unfold Vis
    rw [relabel_look]
    cases e : scope.names.lookup x with
    | none => have h : isVis (scope.names.lookup x) = true := h; rw [e] at h; cases h
    | some k =>
      have h : isVis (scope.names.lookup x) = true := h
      rw [e] at h
      rw [Option.map_some]
      split
      · exact .inr (.inl rfl)
      · cases k <;> first | (cases h; done) | exact .inl rfl | exact .inr (.inl rfl) | exact .inr (.inr rfl)
  loc := fun x h => by
    have h : isLoc (scope.names.lookup x) = true := h
    show Loc (relabel scope X.env) x ∧ ((scope.names.lookup x == some .cell) = true ∨ (relabel scope X.env).names.lookup x = some .local)
    unfold L2.Loc
    rw [relabel_look]
    cases e : scope.names.lookup x with
    | none => rw [e] at h; cases h
    | some k =>
      rw [e] at h
      cases k <;> first | (cases h; done) | exact ⟨.inl rfl, .inr rfl⟩ | exact ⟨.inr rfl, .inl rfl⟩
  fr := fun x h => by
    have h : scope.names.lookup x = some .cell ∨ scope.names.lookup x = some .free := h
    show (relabel scope X.env).names.lookup x = some .cell ∨ (relabel scope X.env).names.lookup x = some .free
    rw [relabel_look]
    rcases h with h | h
    · rw [h]; exact .inl rfl
    · rw [h, Option.map_some]
      split
      · exact .inl rfl
      · exact .inr rfl
  gl := fun x h => by
    have h : isGl (scope.names.lookup x) = true := h
    show (relabel scope X.env).names.lookup x = some .globalImplicit
    rw [relabel_look]
    cases e : scope.names.lookup x with
    | none => rw [e] at h; cases h
    | some k =>
      rw [e] at h
      cases k <;> first | (cases h; done) | rfl
  fns := G.fns
  fnv := G.fnv
  consts := G.consts
  nob := G.nob
  exs := G.exs
  units := G.units
  lams := fun h => (let L := G.lams h; ⟨L.code, L.tab, L.qual, L.lvl, L.told⟩)
theorem blk_of (G : Good c call Γ X) {scope : Scope} {own : List (Str × Nat)} (h : blkC Γ.N (fkS Γ.names) scope own = true) : BlkOk X.N X.env.scope scope own := by
  have B := blkOk_by h
  rw [G.N]
  exact ⟨B.kind, B.uniq, B.ix, fun y hy e => G.fr _ (B.free y hy e), B.own⟩
structure COk (c : Rc) (call : Nat → List PV → PH → R PV) (C : Cmp) : Prop where
  E : ∀ Γ X, Good c call Γ X → ∀ e ce, C.E Γ e = some ce → ∀ n, PE X e (tE c (evE call n ce))
  B : ∀ Γ X, Good c call Γ X → ∀ e cb, C.B Γ e = some cb → ∀ n, PT X e (tB' c (evB (evE call n) cb))
theorem pes_of {f : Expr → Option CE} {rec : CE → PSt → PH → R PV} (hf : ∀ e ce, f e = some ce → PE X e (tE c (rec ce))) : ∀ {es : List Expr} {cs : List CE}, es.all noStar = true → cEs f es = some cs → PEs X c rec es cs
  | [], cs, _, h => by cases h; exact .nil
  | e :: es, cs, hs, h => by
    rw [List.all_cons, Bool.and_eq_true] at hs
    obtain ⟨ce, h1, h⟩ := bd_is h
    obtain ⟨ces, h2, h⟩ := bd_is h
    cases h
    exact .cons hs.1 (hf e ce h1) (pes_of hf hs.2 h2)
theorem stuck0 {e : Expr} {ce : CE} : PE X e (tE c (evE call 0 ce)) := s_stuck fun _ _ => rfl
theorem evB0 : ∀ (cb : CB) (st : PSt) (h : PH), evB (evE call 0) cb st h = .stuck
  | .val e, st, h => rfl
  | .bl e, st, h => rfl
  | .not b, st, h => by unfold evB; rw [evB0 b]
  | .and a b, st, h => by unfold evB; rw [evB0 a]
  | .or a b, st, h => by unfold evB; rw [evB0 a]
theorem stuckB0 {e : Expr} {cb : CB} : PT X e (tB' c (evB (evE call 0) cb)) := ⟨fun pins s σ H Q I ⟨f, h, st, r, r', p⟩ => by rw [evB0] at p; exact p.elim⟩
theorem tgts_of {f : Expr → Option CT} (hf : ∀ e t, f e = some t → PG X e (tT c t)) : ∀ {es : List Expr} {ts : List CT}, cTgts f es = some ts → PTgs X c es ts
  | [], ts, h => by cases h; exact .nil
  | e :: es, ts, h => by
    obtain ⟨hs, h⟩ := gd_is h
    obtain ⟨t, h1, h⟩ := bd_is h
    obtain ⟨ts', h2, h⟩ := bd_is h
    cases h
    exact .cons hs (hf e t h1) (tgts_of hf h2)
theorem tgt_of : ∀ (m : Nat) {Γ : CEnv} {X : Cx}, Good c call Γ X → ∀ e t, cTgt m Γ e = some t → PG X e (tT c t)
  | 0, _, _, _, _, _, h => by cases h
  | m + 1, Γ, X, G, e, t, h => by
    unfold cTgt at h
    split at h
    · obtain ⟨i, h1, h⟩ := bd_is h
      cases h
      obtain ⟨q1, q2, q3⟩ := cLoc_is G h1
      exact g_nm G.nd q1 q2 q3
    · obtain ⟨ts, h1, h⟩ := bd_is h
      cases h
      exact g_tup G.K G.calm (tgts_of (tgt_of m G) h1)
    · cases h
end
end Pyx

namespace Pyx
open PySem PySem.Spec PyProof.Rows L2
section
variable {X : Cx}
theorem pa_nox {es : List Expr} {t : TA} (h : PA X.nox es t) : PA X es t := ⟨fun pos pins s σ H Q I hw =>
  wpAny_mono (h.run pos pins s σ H Q (I.wish _) hw) (fun _ _ ⟨v, H', I', r, q⟩ => ⟨v, H', I'.unwish, r, q⟩) fun _ _ z => False.elim z⟩
theorem ps_nox {s : Stmt} {t : TS} (h : PS X.nox s t) : PS X s t := ⟨fun pins s σ H D I hw =>
  wpAny_mono (h.run pins s σ H D (I.wish _) hw) (fun _ _ q => q.unwish) fun _ _ z => False.elim z⟩
theorem ps_alt {s : Stmt} {t u : TS} (h1 : PS X s t) (h2 : PS X s u) : PS X s (fun D σ H => t D σ H ∨ u D σ H) := ⟨fun pins s σ H D I hw => by
  rcases hw with hw | hw
  · exact h1.run pins s σ H D I hw
  · exact h2.run pins s σ H D I hw⟩
theorem pmk_none {C : Addr} {bmB : List Value} {B newId initId : String} {x : Str} {p pos : Pos} (F : ExcBaseFacts B newId initId bmB) (q : PySem.W.excIn X.K C bmB newId = true) (gC : X.mg x = some (.ref C)) (kC : PySem.W.keepIn X.K (.ref C) = true) (r : Raises X (.ref C))
    (hg : Gl X x) (hdb : (x == ("__debug__" : Str)) = false) : PMk X (.Call (.Name x p) [] [] pos) (fun _ H Q => Q (.ref C) none H) := by
  intro pins s σ H Q I h
  refine wpAny_Call_Name_kw (ld_glob I hg gC ?_ hdb)
  refine PySem.W.callWith_K0 I.kIn kC ?_
  show wpAny _ _ (call (.ref C) []) _ _ _
  obtain ⟨bm, N, nm, qn, bs, hdct, sn, sub, ab, col, dd, k0, k1, k2, k3, k5, mN, hC, hN, hni, T⟩ := exc_obj I.kIn q
  refine wpAny_call_exc_subT F T hC hN hni (fun h' e hm => ?_) (by show 0 ≤ sizeLine; exact Nat.zero_le _)
  exact mk_of I hm r h (I.hok.gone hm.new)
end
theorem kit_self {K : PySem.W.Frag} {C : Addr} : PySem.W.kitOne K (.ref C) (.ref C) = some (decide (0 = 0)) := by
  unfold PySem.W.kitOne
  rw [if_pos (beq_self_eq_true _)]
  rfl
def tXe (c : Rc) (W : WX) (ev : PSt → PH → R PV) : TE := fun σ H _ => ∃ f h st, Rel c f h H ∧ RSt c f h.n H st σ ∧ Post c f h.n H (ev st h) (fun _ _ H' x => ∃ i : Nat, x = .int (i : Nat) ∧ W (.ref (c.C i)) none σ H')
def tXs (c : Rc) (W : WX) (ev : PSt → PH → R PV) : TS := fun _ σ H => tXe c W ev σ H fun _ _ => False
def tX (c : Rc) (E : XK) (ev : PSt → PH → R PV) : TS := tXs c (fun cls d _ H => E cls d H) ev
section
variable {c : Rc} {call : Nat → List PV → PH → R PV} {Γ : CEnv} {X : Cx} {C : Cmp}
theorem isGlD_is (G : Good c call Γ X) {x : Str} (h : isGlD Γ x = true) : Gl X x ∧ (x == ("__debug__" : Str)) = false := by
  unfold isGlD at h
  rw [Bool.and_eq_true, Bool.not_eq_true'] at h
  exact ⟨G.gl x h.1, h.2⟩
def xOf : Option (Nat × List CE) → XS
  | some p => .call p.1 p.2
  | none => .no
def xStmt (C : Cmp) (Γ : CEnv) (s : Stmt) : Option (Nat × List CE) := match s with
  | .Expr e _ => gd (noComp e) (xCall C Γ e)
  | .Return (some e) _ => xCall C Γ e
  | .Assign [.Name y _] e _ => gd (noComp e) (bd (cLoc Γ y) fun _ => xCall C Γ e)
  | _ => none
theorem xe_call (K : COk c call C) {W : WX} (G : Good c call Γ X.nox) (tk : Takes X W) {e : Expr} {k : Nat} {ces : List CE} (h : xCall C Γ e = some (k, ces)) (n : Nat) : PE X e (tXe c W (evE call n (.call (xbig + k) ces))) := by
  unfold xCall at h
  split at h
  · rename_i x p es ps
    split at h
    · rename_i k' ar e1
      obtain ⟨h1, h⟩ := gd_is h
      simp only [Bool.and_eq_true, Bool.not_eq_true', decide_eq_true_eq] at h1
      obtain ⟨cs, h2, h⟩ := bd_is h
      cases h
      cases n with
      | zero => exact ⟨fun pins s σ H Q I ⟨f, h', st, r, rs, p⟩ => p.elim⟩
      | succ n =>
        obtain ⟨fd, ps, lvl, a1, a2, a3, a4, a5⟩ := G.fns _ _ _ e1
        obtain ⟨g1, g2⟩ := isGlD_is G h1.1.1.1.1
        have hp := pes_of (X := X.nox) (rec := evE call n) (fun e ce q => K.E Γ X.nox G e ce q n) h1.1.1.1.2 h2
        have hl : ar = es.length := h1.1.1.2.symm
        cases hp with
        | nil => have z := h1.1.2; cases z
        | @cons e0 ce0 es0 ces0 hs he ht =>
          refine pe_w (pe_callS (X := X) (CX := L2.CX X.prog X.w) (E := WE W) a5 a4 g1 a1 a2 a3 (fun σ => passAt tk σ) (pa_nox (pa_of (.cons hs he ht))) g2 (star_of hs _ X.env) (plain_args ht _ X.env)) fun σ H Q ⟨f, h', st, r, rs, p⟩ => ?_
          have pp : Post c f h'.n H (eCall call (evE call n) (xbig + k) (ce0 :: ces0) st h') _ := p
          unfold eCall at pp
          split at pp
          · exact pp.elim
          · rename_i vs hh e2
            refine tA_of e2 r rs fun f1 H1 ws x1 r1 rs1 rv1 => .inr ⟨?_, f1, hh, vs, r1, rv1, pp.mono x1⟩
            rw [← rv1.length, hl]
            have len : ∀ {es : List Expr} {ces : List CE} {vs : List PV} {h h1 : PH}, PEs X.nox c (evE call n) es ces → evL (evE call n) ces st h = .ok vs h1 → vs.length = es.length := by
              intro es
              induction es with
              | nil =>
                intro ces vs h h1 q e
                cases q
                cases e
                rfl
              | cons e es ih =>
                intro ces vs h h1 q e
                cases q with
                | cons _ _ t =>
                  unfold evL at e
                  split at e
                  · cases e
                  · split at e
                    · cases e
                    · rename_i e2
                      cases e
                      rw [List.length_cons, List.length_cons, ih t e2]
            exact len (.cons hs he ht) e2
    · cases h
  · cases h
theorem xs_stmt (K : COk c call C) {W : WX} (G : Good c call Γ X.nox) (tk : Takes X W) {s : Stmt} {k : Nat} {ces : List CE} (h : xStmt C Γ s = some (k, ces)) (n : Nat) : PS X s (tXs c W (evE call n (.call (xbig + k) ces))) := by
  unfold xStmt at h
  split at h
  · obtain ⟨h0, h⟩ := gd_is h
    exact ps_w (ps_expr (xe_call K G tk h n) (comp_of h0 _ _ _)) fun D σ H q => q
  · exact ps_w (ps_ret (xe_call K G tk h n)) fun D σ H q => q
  · rename_i y py e pos
    obtain ⟨h0, h⟩ := gd_is h
    obtain ⟨i, h1, h⟩ := bd_is h
    obtain ⟨q1, q2, q3⟩ := cLoc_is G h1
    refine ps_w (ps_asg (xe_call K G tk h n) (pg_name G.nd q1 q2 q3) (comp_of h0 (some (.Name y py)) pos.line X.env) ?_ rfl) fun D σ H q => q
    cases e <;> first | rfl | (cases h0; done)
  · cases h
def vOf : PV → V
  | .bl b => .bl b
  | .str s => .str s
  | _ => .non
theorem hval_rv {c : Rc} {f : Nat → Addr} {N : Nat} {H : Hp} {n : Str} {i : Nat} : ∀ (m : Nat) (e : Expr) (v : PV), hval m Γ n i e = some v → RV c f N H v (vOf v)
  | 0, _, _, h => by cases h
  | m + 1, e, v, h => by
    unfold hval at h
    split at h
    · cases h; exact .bl _
    · cases h; exact .str _
    · obtain ⟨_, h⟩ := gd_is h
      obtain ⟨_, _, h⟩ := bd_is h
      cases h; exact .bl _
    · obtain ⟨_, h⟩ := gd_is h
      split at h
      · exact hval_rv m _ v h
      · exact hval_rv m _ v h
      · cases h
    · cases h
def tH (j : Nat) (a : Addr) (w : V) : TE := fun σ H Q => σ[j]? = some (some (.ref a)) ∧ Q w H
theorem hval_ok (G : Good c call Γ X) {a : Addr} {oe : Obj} {pn : List (Addr × Obj)} {n : Str} {i j : Nat} {xi : Str} (hi : (xi, i) ∈ Γ.excs) (hz : Zc (.ref (c.C i)) none oe) (hf : ∃ vs, oe.data = .fields vs) (hN : X.N[j]? = some n) (hv : Vis X.env.scope n)
    (hd : (n == ("__debug__" : Str)) = false) (hcd : (n == ("__classdict__" : Str)) = false) : ∀ (m : Nat) (e : Expr) (v : PV), hval m Γ n i e = some v → PE (X.suite a ((a, oe) :: pn)) e (tH j a (vOf v))
  | 0, _, _, h => by cases h
  | m + 1, e, v, h => by
    have D := (G.exs.one xi i hi)
    unfold hval at h
    split at h
    · cases h; exact pe_w pe_bl fun σ H Q q => q.2
    · cases h; exact pe_w pe_str fun σ H Q q => q.2
    · rename_i fx p1 y p2 dx p3 p4
      obtain ⟨h1, h⟩ := gd_is h
      simp only [Bool.and_eq_true, decide_eq_true_eq] at h1
      obtain ⟨jj, h2, h⟩ := bd_is h
      cases h
      obtain ⟨⟨⟨e1, e2⟩, e3⟩, e4⟩ := h1
      subst e1
      subst e3
      obtain ⟨g1, g2⟩ := bltin_is G e2
      obtain ⟨g3, g4⟩ := isGlD_is G e4
      have h2 := PySem.mem_of_lookup h2
      have kt := G.exs.kit _ _ _ _ hi h2
      have D2 := G.exs.one _ _ h2
      have hA : PA (X.suite a ((a, oe) :: pn)) [.Name y p2, .Name dx p3] _ := pa_cons (pe_var (i := j) hN hv hd hcd) (pa_cons (pe_glob (v := .ref (c.C jj)) g3 D2.mg rfl g4) pa_nil rfl) rfl
      refine pe_w (pe_callB (call_isE D.is hz hf) g1 g2 boot_isinstance hA (by decide) (by decide) rfl rfl) fun σ H Q q => ?_
      exact ⟨_, q.1, .ref (c.C jj), .ref (c.C jj), _, rfl, fun u r => r, kt, q.2⟩
    · rename_i t ea eb p
      obtain ⟨h1, h⟩ := gd_is h
      have ht : ∀ k : Bool, hval m Γ n i t = some (.bl k) → PT (X.suite a ((a, oe) :: pn)) t (fun σ H Q => σ[j]? = some (some (.ref a)) ∧ Q k H) := fun k hk =>
        pt_w (pt_truth (hval_ok G hi hz hf hN hv hd hcd m t _ hk) (fun whole => plain_of h1 _ whole)) fun σ H Q q => ⟨q.1, k, (by cases k <;> rfl), q.2⟩
      split at h
      · rename_i hk
        have ha := hval_ok (a := a) (pn := pn) G hi hz hf hN hv hd hcd m ea v h
        refine pe_w (pe_ifExp (ht true hk) ha (⟨fun _ _ _ _ _ _ z => z.elim⟩ : PE (X.suite a ((a, oe) :: pn)) eb fun _ _ _ => False)) fun σ H Q q => ⟨q.1, ?_⟩
        show (if true = true then tH j a (vOf v) σ H Q else False)
        rw [if_pos rfl]
        exact q
      · rename_i hk
        have hb := hval_ok (a := a) (pn := pn) G hi hz hf hN hv hd hcd m eb v h
        refine pe_w (pe_ifExp (ht false hk) (⟨fun _ _ _ _ _ _ z => z.elim⟩ : PE (X.suite a ((a, oe) :: pn)) ea fun _ _ _ => False) hb) fun σ H Q q => ⟨q.1, ?_⟩
        show (if false = true then False else tH j a (vOf v) σ H Q)
        rw [if_neg Bool.false_ne_true]
        exact q
      · cases h
    · cases h
def hTgt (Γ : CEnv) (hd : Stmt) : Option (Option Nat × Expr) := match hd with
  | .Return (some e) _ => some (none, e)
  | .Assign [.Name y _] e _ => gd (noComp e) (bd (cLoc Γ y) fun i => some (some i, e))
  | _ => none
theorem hAll_at {n : Str} {e : Expr} {k : Int} {v : PV} : ∀ {xs : List (Str × Nat)} {hs : List (Nat × PV)}, hAll Γ n e xs = some hs → hvAt k hs = some v → ∃ x i, k = (i : Nat) ∧ (x, i) ∈ xs ∧ hval 9 Γ n i e = some v
  | [], hs, h, q => by cases h; cases q
  | p :: r, hs, h, q => by
    obtain ⟨w, h1, h⟩ := bd_is h
    obtain ⟨t, h2, h⟩ := bd_is h
    cases h
    unfold hvAt at q
    split at q
    · rename_i e1
      cases q
      exact ⟨p.1, p.2, of_decide_eq_true e1, List.mem_cons_self .., h1⟩
    · obtain ⟨x, i, h3, h4, h5⟩ := hAll_at h2 q
      exact ⟨x, i, h3, List.mem_cons_of_mem _ h4, h5⟩
def cTry (C : Cmp) (Γ : CEnv) (kb : CS) (x n : Str) (b hd : Stmt) : Option CS :=
  gd (decide (x = Γ.exb) && isGlD Γ x && decide (Γ.names.lookup n = some .local) && okName n) (bd (ixOf n Γ.N 0) fun j => bd (xStmt C Γ b) fun p => bd (hTgt Γ hd) fun q => gd (decide (q.1 ≠ some j)) (bd (hAll Γ n q.2 Γ.excs) fun hs => some (.tryx kb (.call (xbig + p.1) p.2) j q.1 hs)))
def tsH (c : Rc) (Γ : CEnv) (n : Str) (j : Nat) (e : Expr) (tgt : Option Nat) (a : Addr) (cls : Value) (d : Option Addr) : TS := fun D σ H =>
  ∃ (x : Str) (i : Nat) (v : PV), d = none ∧ cls = .ref (c.C i) ∧ (x, i) ∈ Γ.excs ∧ hval 9 Γ n i e = some v ∧ σ[j]? = some (some (.ref a)) ∧ (match tgt with | none => D.rt (vOf v) H | some t => D.nx (σ.set t (some (vOf v))) H)
theorem ts_ok (G : Good c call Γ X) {a : Addr} {oe : Obj} {cls : Value} {d : Option Addr} {pn : List (Addr × Obj)} {n : Str} {j : Nat} {hd : Stmt} {tgt : Option Nat} {e : Expr} (hz : Zc cls d oe) (hf : ∃ vs, oe.data = .fields vs) (hN : X.N[j]? = some n) (hv : Vis X.env.scope n)
    (hdn : (n == ("__debug__" : Str)) = false) (hcd : (n == ("__classdict__" : Str)) = false) (ht : hTgt Γ hd = some (tgt, e)) : PSs (X.suite a ((a, oe) :: pn)) [hd] (tsH c Γ n j e tgt a cls d) := by
  refine ⟨fun pins s σ H D I ⟨x, i, v, e1, e2, hi, hw, hs, q⟩ => ?_⟩
  subst e1
  subst e2
  have he := hval_ok (a := a) (pn := pn) G hi hz hf hN hv hdn hcd 9 e v hw
  unfold hTgt at ht
  split at ht
  · cases ht
    exact (pss_one (ps_ret he)).run pins s σ H D I ⟨hs, q⟩
  · rename_i y py e' pos
    obtain ⟨h0, ht⟩ := gd_is ht
    obtain ⟨t, h1, ht⟩ := bd_is ht
    have ht := Option.some.inj ht
    have e1 : tgt = some t := (congrArg Prod.fst ht).symm
    have e2 : e' = e := congrArg Prod.snd ht
    subst e1
    subst e2
    obtain ⟨q1, q2, q3⟩ := cLoc_is G h1
    have hp : PS (X.suite a ((a, oe) :: pn)) (.Assign [.Name y py] e' pos) (tAsg (tH j a (vOf v)) (gName t)) :=
      ps_asg he (pg_name G.nd q1 q2 q3) (comp_of h0 (some (.Name y py)) pos.line _) (by cases e' <;> first | rfl | (cases h0; done)) rfl
    exact (pss_one hp).run pins s σ H D I ⟨hs, q⟩
  · cases ht
theorem rst_wipe1 {f : Nat → Addr} {N : Nat} {H : Hp} {st : PSt} {σ : L2.St} (r : RSt c f N H st σ) (j : Nat) : RSt c f N H (st.set j none) (σ.set j none) := r.wipe [j]
theorem try_thru {kb : CS} {b : Stmt} {hd : ExceptHandler} {pos : Pos} (n : Nat) (hb : ∀ pn, PS (X.tr pn fun _ _ => False) b (tS c (evS call n kb))) : PS X (.Try [b] [hd] [] [] pos) (tS c (evS call (n + 1) (.ite (.val (.val (.bl true))) [kb] []))) := by
  refine ps_w (ps_try_thru0 (pss_one (hb X.pn))) fun D σ H ⟨f, h', st, r, rs, p⟩ => ⟨f, h', st, r, rs, ?_⟩
  cases n with
  | zero => exact p.elim
  | succ n =>
    have p : Post c f h'.n H (evSs (evS call (n + 1)) [kb] st h') (FQ c D) := p
    unfold evSs at p
    split at p
    · rename_i st1 h1 e
      rw [e]
      exact p
    · exact p
theorem try_ok (K : COk c call C) (G : Good c call Γ X) (hst : X.stack = X.env :: X.outer) (hfm : X.env.frame = some X.env.locals) (hnm : X.env.scope.names = Γ.names) {kb : CS} {x n : Str} {b hd : Stmt} {k : CS} {np p1 p2 : Pos} (h : cTry C Γ kb x n b hd = some k) (m : Nat)
    (hb : ∀ pn, PS (X.tr pn fun _ _ => False) b (tS c (evS call m kb))) : PS X (.Try [b] [.ExceptHandler (some (.Name x np)) (some n) [hd] p1] [] [] p2) (tS c (evS call (m + 1) k)) := by
  unfold cTry at h
  obtain ⟨h1, h⟩ := gd_is h
  simp only [Bool.and_eq_true, decide_eq_true_eq] at h1
  obtain ⟨⟨⟨ex, hx⟩, hn⟩, hok⟩ := h1
  obtain ⟨j, h2, h⟩ := bd_is h
  obtain ⟨p, h3, h⟩ := bd_is h
  obtain ⟨q, h4, h⟩ := bd_is h
  obtain ⟨h5, h⟩ := gd_is h
  obtain ⟨hs, h6, h⟩ := bd_is h
  cases h
  obtain ⟨k', ces⟩ := p
  obtain ⟨tgt, e⟩ := q
  have h5 : tgt ≠ some j := of_decide_eq_true h5
  subst ex
  obtain ⟨g1, g2⟩ := isGlD_is G hx
  obtain ⟨o1, o2⟩ := okName_is hok
  have hj : X.N[j]? = some n := by
    have q := (ixOf_is h2).2
    rw [Nat.sub_zero, ← G.N] at q
    exact q
  by_cases hne : Γ.excs = []
  · -- nothing is caught: the body alone
    refine ps_w (ps_try_thru0 (pss_one (hb X.pn))) fun D σ H ⟨f, h', st, r, rs, pp⟩ => ⟨f, h', st, r, rs, ?_⟩
    have p : Post c f h'.n H (xTry m (evE call m) (evS call m) kb (.call (xbig + k') ces) j tgt hs st h') (FQ c D) := pp
    unfold xTry at p
    split at p
    · split at p
      · rename_i v e1
        rw [hne] at h6
        cases h6
        cases e1
      · exact p.elim
    · exact p
    · exact p.elim
  obtain ⟨CB, b1, b2⟩ := G.exs.base hne
  have hX : ∀ (pn : List (Addr × Obj)) (xe : Value → Shared → Prop), Good c call Γ (X.tr pn xe).nox := fun pn xe =>
    { K := G.K, W := G.W, calm := G.calm, nd := G.nd, N := G.N, xe := rfl, vis := G.vis, loc := G.loc, fr := G.fr, gl := G.gl, fns := G.fns, fnv := G.fnv, consts := G.consts, nob := G.nob, units := G.units, exs := G.exs, lams := fun h => (let L := G.lams h; ⟨L.code, L.tab, L.qual, L.lvl, L.told⟩) }
  have base := ps_try_as (X := X) (x := Γ.exb) (n := n) (c := .ref CB) (i := j) (body := [b]) (b₀ := hd) (suite := []) (np := np) (pos' := p1) (pos := p2) (Wout := fun _ _ _ _ => False)
    (tb := fun W D σ H => tSeq (fun D σ H => tS c (evS call m kb) D σ H ∨ tXs c W (evE call m (.call (xbig + k') ces)) D σ H) tNext D σ H) (ts := tsH c Γ n j e tgt) hst hfm G.nd hj (by show X.env.kindOf n = _; exact (show X.env.scope.names.lookup n = some .local by rw [hnm]; exact hn)) ⟨g1, g2, .inl b1⟩ takes0
    (fun W pn xe tk _ => pss_cons (ps_alt (ps_nox (hb pn)) (xs_stmt K (hX pn xe) tk h3 m)) pss_nil)
    (fun a oe cls d pn hz hf => ts_ok G hz hf hj (.inl (by rw [hnm]; exact hn)) o1 o2 h4)
  refine ⟨fun pins s σ H D I qq => base.run pins s σ H D I ?_⟩
  obtain ⟨f, h', st, r, rs, pp⟩ := qq
  have p : Post c f h'.n H (xTry m (evE call m) (evS call m) kb (.call (xbig + k') ces) j tgt hs st h') (FQ c D) := pp
  have hlen : j < σ.length := by
    rw [I.len]
    exact (List.getElem?_eq_some_iff.mp hj).1
  unfold xTry at p
  split at p
  · rename_i kk h1 e1
    refine .inr ⟨f, h', st, r, rs, ?_⟩
    rw [e1]
    split at p
    · rename_i v e2
      obtain ⟨xi, i, ei, hi, hv⟩ := hAll_at h6 e2
      subst ei
      intro f1 H1 x1 r1
      refine ⟨i, rfl, true, b2 _ _ hi, fun _ a na => ⟨xi, i, v, rfl, rfl, hi, hv, List.getElem?_set_self hlen, ?_⟩, fun z => nomatch z⟩
      cases tgt with
      | none => exact p _ _ x1 r1 _ (hval_rv 9 e v hv)
      | some t =>
        have htj : t ≠ j := fun z => h5 (by rw [z])
        have q := p _ _ x1 r1
        refine q _ ?_
        have e3 : ((σ.set j (some (V.ref a))).set t (some (vOf v))).set j none = (σ.set j none).set t (some (vOf v)) := by
          rw [List.set_comm _ _ htj, List.set_set]
        rw [e3]
        exact (rst_wipe1 (rs.mono x1) j).set t (hval_rv 9 e v hv)
    · exact p.elim
  · refine .inl ⟨f, h', st, r, rs, ?_⟩
    cases z : evS call m kb st h' with
    | stuck => rw [z] at p; exact p.elim
    | ok r1 h1 =>
      rw [z] at p
      cases r1 with
      | nx st1 => exact p
      | rt v => exact p
      | bk st1 => exact p
      | ct st1 => exact p
  · exact p.elim
end
end Pyx

namespace Pyx
open PySem PySem.Spec PyProof.Rows L2
def fuD (q : Str) (ps : Arguments) (body : Expr) (sc : Scope) (cl : List (Str × Addr)) (mn cv ct dv : Value) : FuncData := { PySem.W.kla_fn "<lambda>" q ps body sc cl mn cv ct with defaults := dv }
section
variable {X : Cx} {pins : List (Addr × Obj)} {σ : L2.St} {H : Hp} {s : Shared}
theorem codeD {T : List (Addr × Str)} {c P : Addr} {q : Str} {ps : Arguments} {body : Expr} {sc : Scope} {pos : Pos} {M : Model} {A : Around} {E Q : Value → Shared → Prop} (I : L2.Inv X pins σ H s) (B : LamX.TabB X.base X.mg c P) (ec : X.env.code = .ref c)
    (inT : (P, q) ∈ T) (one : ∀ p ∈ T, p.1 = P → p.2 = q) (tT : LamX.Tabs T H)
    (k : ∀ (c' : Addr) (H1 : Hp) (s1 : Shared), L2.Inv X pins σ H1 s1 → LamX.ExtN H H1 → LamX.Tabs T H1 → (∀ b o, b ≠ P → s.heap.get? b = some o → s1.heap.get? b = some o) → H1 c' = some (LamX.CodeO c' q) → (∀ b, H b = none → b < s.heap.objs.size → H1 b = none) → s.heap.objs.size ≤ s1.heap.objs.size → Q (.ref c') s1) :
    wpAny M A (functionCode X.env pos pos.line "<lambda>" q ps sc (.expr body)) Q E s := by
  obtain ⟨tab, hP, tri, old⟩ := tT _ inT
  have oP := I.hok P _ hP
  have hd : s.heap.get? P = some { cls := .none, data := .fields tab } := oP
  have CH := B.code.keeps I.bk
  cases found : codeAmong pos tab.toList with
  | some cv =>
    obtain ⟨c', rfl, known⟩ := old pos cv found
    exact wpAny_functionCode_hit ec (CH.code hd tri) found (k c' H s I (LamX.ExtN.refl H) tT (fun _ _ _ e => e) known (fun _ e _ => e) (Nat.le_refl _))
  | none =>
    refine wpAny_functionCodeX ec (CH.code hd tri) (CH.tab hd) found fun c' h' tk ext ge lt _ rec tb _ => ?_
    obtain ⟨_, oc, vs, t, ee, go, gd, gv⟩ := rec
    cases ee
    have fr : H c' = none := I.hok.fresh ge
    have atP : h'.get? P = some { cls := .none, data := .fields (tab ++ #[rawInt pos.line, rawInt pos.col, .ref c']) } := tb.2
    have J := LamX.inv_table (t' := tk) (more := #[rawInt pos.line, rawInt pos.col, .ref c']) I hP ext atP ge ⟨oc, vs, t, go, gd, gv⟩
    have keep : LamX.ExtN H (upd (upd H P (.tbl (tab ++ #[rawInt pos.line, rawInt pos.col, .ref c']))) c' (LamX.CodeO c' q)) := fun b o eb nt => by
      have b1 : b ≠ c' := fun z => by rw [z, fr] at eb; cases eb
      have b2 : b ≠ P := fun z => by rw [z, hP] at eb; exact nt tab (Option.some.inj eb).symm
      rw [upd_ne b1, upd_ne b2]
      exact eb
    have here : upd (upd H P (.tbl (tab ++ #[rawInt pos.line, rawInt pos.col, .ref c']))) c' (LamX.CodeO c' q) c' = some (LamX.CodeO c' q) := upd_same
    refine k c' _ _ J keep (fun p hp => ?_) ext here (fun b e lb => ?_) (Nat.le_trans ge (Nat.le_of_lt lt))
    · by_cases same : p.1 = P
      · have sn : (tab ++ #[rawInt pos.line, rawInt pos.col, Value.ref c']).toList = tab.toList ++ [rawInt pos.line, rawInt pos.col, .ref c'] := by simp
        rw [one p hp same, same]
        refine ⟨_, (upd_ne fun z => by rw [z, fr] at hP; cases hP).trans upd_same, ?_, fun p' cv hc => ?_⟩
        · rw [sn]
          exact PySem.TriplesOk_snoc _ _ _ _ tri
        · rw [sn] at hc
          rcases LamX.among_app _ tri hc with z | z
          · obtain ⟨c0, z1, z2⟩ := old p' cv z
            exact ⟨c0, z1, keep _ _ z2 LamX.codeO_ne⟩
          · exact ⟨c', z, here⟩
      · obtain ⟨t2, y1, y2, y3⟩ := tT p hp
        refine ⟨t2, ?_, y2, fun p' cv hc => ?_⟩
        · rw [upd_ne (fun z => by rw [z, fr] at y1; cases y1), upd_ne same]
          exact y1
        · obtain ⟨c0, z1, z2⟩ := y3 p' cv hc
          exact ⟨c0, z1, keep _ _ z2 LamX.codeO_ne⟩
    · rw [upd_ne (show b ≠ c' from fun z => Nat.lt_irrefl _ (Nat.lt_of_lt_of_le (z ▸ lb) ge)), upd_ne (show b ≠ P from fun z => by rw [z, hP] at e; cases e)]
      exact e
theorem tailD {T : List (Addr × Str)} {c P td : Addr} {q : Str} {ps : Arguments} {body : Expr} {sc : Scope} {pos : Pos} {A : Around} {E Q : Value → Shared → Prop} {ot : Obj} (I : L2.Inv X pins σ H s) (B : LamX.TabB X.base X.mg c P) (ec : X.env.code = .ref c)
    (inT : (P, q) ∈ T) (one : ∀ p ∈ T, p.1 = P → p.2 = q) (tT : LamX.Tabs T H) (fre : ∀ y ∈ sc.names, y.2 = .free → ∃ c, X.env.cells.lookup y.1 = some c) (gt : s.heap.get? td = some ot) (nt : H td = none) (ntP : td ≠ P)
    (k : ∀ (f c' : Addr) (mn ct : Value) (H1 : Hp) (s1 : Shared), L2.Inv X pins σ H1 s1 → LamX.ExtN H H1 → LamX.Tabs T H1 → s1.heap.get? f = some { cls := .type "function", data := .func (fuD q ps body sc (cloFrom X.env.cells sc.names []) mn (.ref c') ct (.ref td)) } → H1 f = none → s.heap.objs.size ≤ f →
      s1.heap.get? td = some ot → H1 td = none → H1 c' = some (LamX.CodeO c' q) → Q (.ref f) s1) :
    wpAny (model X.prog X.w) A (makeTail "<lambda>" q ps (.expr body) sc X.env (.ref td) .none none pos pos.line) Q E s := by
  unfold makeTail
  rw [closure_ok fre, I.ok.glob]
  refine wpAny_bind (wpAny_pure ?_)
  -- behind the tuple of cells
  have rest : ∀ (ct : Value) (s0 : Shared), L2.Inv X pins σ H s0 → s0.heap.get? td = some ot → s.heap.objs.size ≤ s0.heap.objs.size →
      wpAny (model X.prog X.w) A (functionCode X.env pos pos.line "<lambda>" q ps sc (.expr body)) (fun cv s1 => ∃ (c' : Addr) (H1 : Hp), cv = .ref c' ∧ L2.Inv X pins σ H1 s1 ∧ LamX.ExtN H H1 ∧ LamX.Tabs T H1 ∧ s1.heap.get? td = some ot ∧ H1 td = none ∧ H1 c' = some (LamX.CodeO c' q) ∧ s.heap.objs.size ≤ s1.heap.objs.size) E s0 := fun ct s0 J g0 le =>
    codeD J B ec inT one tT fun c' H1 s1 J1 x1 t1 kp kn nn sz => ⟨c', H1, rfl, J1, x1, t1, kp td ot ntP g0, nn td nt (Heap.lt_size g0), kn, Nat.le_trans le sz⟩
  have last : ∀ (ct : Value) (s0 : Shared), L2.Inv X pins σ H s0 → s0.heap.get? td = some ot → s.heap.objs.size ≤ s0.heap.objs.size →
      wpAny (model X.prog X.w) A (do
        let code ← functionCode X.env pos pos.line "<lambda>" q ps sc (.expr body)
        let builtins ← builtinsFor mainGlobals X.env.builtins
        let mn ← nsGet mainGlobals "__name__"
        let doc ← (pure .none : Sem Value)
        newObj (.type "function") (.func { name := "<lambda>", qualname := q, params := ps, body := .expr body, scope := sc, globals := mainGlobals, closure := cloFrom X.env.cells sc.names [], closureTuple := ct, code, builtins, defaults := .ref td, kwdefaults := .none, annotations := none, pyModule := mn.getD .none, doc })) Q E s0 := fun ct s0 J g0 le => by
    refine wpAny_bind (wpAny_mono (rest ct s0 J g0 le) (fun cv s1 hq => ?_) fun _ _ z => z)
    obtain ⟨c', H1, rfl, J1, x1, t1, gt1, nt1, kn, sz⟩ := hq
    obtain ⟨bm, ob, e1, e2, _, _, e5, e6, e7, e8⟩ := B.bm.keeps J1.bk
    have gl := J1.mod.glob.keeps J1.bk
    refine wpAny_bind (wpAny_builtinsFor gl e1 e2 e5 e6 e7 e8 (wpAny_bind (wpAny_nsGet gl (wpAny_bind (wpAny_pure (wpAny_newObj_type ?_ (by size_fits)))))))
    have J2 : L2.Inv X pins σ H1 { s1 with heap := s1.heap.push { cls := .type "function", data := .func (fuD q ps body sc (cloFrom X.env.cells sc.names []) ((X.mg "__name__").getD .none) (.ref c') ct (.ref td)) } } := J1.kept (t' := s1.toks) fun b o e => Heap.get?_push_of_some _ e
    exact k s1.heap.objs.size c' _ ct H1 _ J2 x1 t1 (Heap.get?_push_size _ rfl) (J1.hok.fresh (Nat.le_refl _)) sz (Heap.get?_push_of_some _ gt1) nt1 kn
  cases cells : cloFrom X.env.cells sc.names [] with
  | nil =>
    rw [cells] at last
    exact wpAny_bind (wpAny_pure (last .none s I gt (Nat.le_refl _)))
  | cons a r =>
    rw [cells] at last
    refine wpAny_bind (wpAny_newTextTuple ?_)
    refine last _ _ (I.kept (t' := s.toks) fun b o e => Heap.get?_push_of_some _ e) (Heap.get?_push_of_some _ gt) ?_
    show _ ≤ (s.heap.push _).objs.size
    rw [Heap.size_push]
    omega
abbrev parD (ar : Arg) (i : Int) (kd : Nat) (kp : Pos) : Arguments := ⟨[], [ar], none, [], [], none, [.Constant (.int i) kd kp]⟩
theorem evalD {T : List (Addr × Str)} {c P : Addr} {ar : Arg} {i : Int} {kd : Nat} {kp : Pos} {body : Expr} {sc : Scope} {pos : Pos} {Q : Value → Shared → Prop} (I : L2.Inv X pins σ H s) (B : LamX.TabB X.base X.mg c P) (ec : X.env.code = .ref c)
    (inT : (P, X.env.qual ++ "<lambda>") ∈ T) (one : ∀ p ∈ T, p.1 = P → p.2 = X.env.qual ++ "<lambda>") (tT : LamX.Tabs T H) (fre : ∀ y ∈ sc.names, y.2 = .free → ∃ c, X.env.cells.lookup y.1 = some c)
    (k : ∀ (f c' td : Addr) (mn ct v : Value) (H1 : Hp) (s1 : Shared), L2.Inv X pins σ H1 s1 → LamX.ExtN H H1 → LamX.Tabs T H1 → s1.heap.get? f = some { cls := .type "function", data := .func (fuD (X.env.qual ++ "<lambda>") (parD ar i kd kp) body sc (cloFrom X.env.cells sc.names []) mn (.ref c') ct (.ref td)) } → H1 f = none → s.heap.objs.size ≤ f →
      s1.heap.get? td = some { cls := .type "tuple", data := .seq #[v] } → H1 td = none → s.heap.objs.size ≤ td → H1 c' = some (LamX.CodeO c' (X.env.qual ++ "<lambda>")) → RelV (.int i) v → Q (.ref f) s1) :
    wpAny (model X.prog X.w) X.A (eval (.Lambda (parD ar i kd kp) body sc pos) X.env) Q X.xe s := by
  rw [arm_eval_Lambda]
  show wpAny _ _ (do
    let dv ← (do let v ← eval (.Constant (.int i) kd kp) X.env; let r ← holding [v] (pure []); pure (v :: r))
    let kdv ← holding dv (pure [])
    makeFunction "<lambda>" (X.env.qual ++ "<lambda>") (parD ar i kd kp) (.expr body) sc X.env dv kdv [] pos pos.line) _ _ _
  refine wpAny_bind (wpAny_bind (wpAny_Constant_int ?_))
  have J : L2.Inv X pins σ H { s with toks := s.toks + 1 } := I.tok _
  have r : RelV (.int i) (.int i s.toks) := ⟨_, rfl⟩
  have le0 : s.heap.objs.size ≤ ({ s with toks := s.toks + 1 } : Shared).heap.objs.size := Nat.le_refl _
  generalize Value.int i s.toks = v at r ⊢
  generalize ({ s with toks := s.toks + 1 } : Shared) = s1 at J le0 ⊢
  refine wpAny_bind (wpAny_holding (wpAny_pure (wpAny_pure ?_)))
  refine wpAny_bind (wpAny_holding (wpAny_pure ?_))
  rw [makeFunction_eq]
  simp only [List.zip_nil_right, List.filterMap_nil, List.isEmpty_nil, List.isEmpty_cons, Bool.false_eq_true, if_false, if_true, pure_bind]
  refine wpAny_bind (wpAny_newTextTuple ?_)
  have J2 : L2.Inv X pins σ H { s1 with heap := s1.heap.push { cls := .type "tuple", data := .seq #[v] } } := J.kept (t' := s1.toks) fun b o e => Heap.get?_push_of_some _ e
  obtain ⟨tab, hP, _⟩ := tT _ inT
  have nP : s1.heap.objs.size ≠ P := fun z => by
    have := J.hok.fresh (Nat.le_refl s1.heap.objs.size)
    rw [z, hP] at this
    cases this
  refine tailD (td := s1.heap.objs.size) J2 B ec inT one tT fre (Heap.get?_push_size _ rfl) (J.hok.fresh (Nat.le_refl _)) nP fun f c' mn ct H2 s2 J3 x3 t3 gf nf sz gt nt kn => ?_
  have sp : s1.heap.objs.size + 1 ≤ f := by
    have e : (s1.heap.push { cls := .type "tuple", data := .seq #[v] }).objs.size = s1.heap.objs.size + 1 := Heap.size_push _ _
    rw [← e]
    exact sz
  exact k f c' _ mn ct v H2 s2 J3 x3 t3 gf nf (Nat.le_trans le0 (Nat.le_of_succ_le sp)) gt nt le0 kn r
theorem bindD {q : Str} {ar : Arg} {i : Int} {kd : Nat} {kp : Pos} {body : Expr} {sc : Scope} {cl : List (Str × Addr)} {mn cv ct v : Value} {td : Addr} {s : Shared} (gt : s.heap.get? td = some { cls := .type "tuple", data := .seq #[v] }) : BindsTo s (fuD q (parD ar i kd kp) body sc cl mn cv ct (.ref td)) ⟨[], []⟩ [(ar.arg, v)] := fun M A E Q k => by
  have e : ∃ g, bindArgs (fuD q (parD ar i kd kp) body sc cl mn cv ct (.ref td)) ⟨[], []⟩ = seqItems? (.ref td) >>= g ∧ g (some #[v]) = pure [(ar.arg, v)] := by
    refine ⟨_, rfl, ?_⟩
    simp [fuD]
  obtain ⟨g, e1, e2⟩ := e
  rw [e1]
  refine wpAny_bind (wpAny_seqItems gt rfl ?_)
  rw [e2]
  exact wpAny_pure k
structure LamP (sc scope : Scope) (a : Str) : Prop where
  kind : scope.kind = .function
  co : scope.isCoroutine = false
  gen : scope.isGenerator = false
  par : scope.names.lookup a = some .local
  own : ∀ y ∈ scope.names, (y.2 = .local → y.1 = a) ∧ y.2 ≠ .cell
  free : ∀ y ∈ scope.names, y.2 = .free → sc.names.lookup y.1 = some .cell ∨ sc.names.lookup y.1 = some .free
theorem LamP.fre {scope : Scope} {a : Str} (L : LamP X.env.scope scope a) (ok : X.Ok) : ∀ y ∈ scope.names, y.2 = .free → ∃ c, X.env.cells.lookup y.1 = some c := fun y hy e =>
  (L.free y hy e).elim (fun z => ok.has _ (.inl z)) fun z => ok.has _ (.inr z)
theorem startD {A : Around} {outer : List Env} {E : XK} {scope : Scope} {f c' : Addr} {g : Heap} {tk : Nat} {a : Str} {HZ : Hp} {s1 : Shared} {m : Str → Option Value} (I : L2.Inv X pins σ H s) (L : LamP X.env.scope scope a) (nN : ∀ i : Nat, X.N[i]? ≠ some a)
    (z0 : Env0 X.prog X.w X.K X.mg X.base A outer s1 HZ) (calm : A.handled = none) (un : Un (frs X.stack) [] H HZ s.heap s1.heap) (ns : g.Ns s1.heap.objs.size m) (kp : ∀ b o, s1.heap.get? b = some o → g.get? b = some o) :
    L2.Inv (LamX.lamCx X A outer s1 HZ E scope f c') [] σ HZ { s1 with heap := g, toks := tk } := by
  have fre := L.fre I.ok
  have caught : ∀ {y : Str} {c : Addr}, (cloFrom X.env.cells scope.names []).lookup y = some c → X.env.cells.lookup y = some c := fun {y c} e => by
    rcases cloFrom_mem (PySem.mem_of_lookup e) with z | ⟨z1, z2⟩
    · cases z
    · obtain ⟨c1, e1⟩ := fre _ z1 rfl
      have e1 : X.env.cells.lookup y = some c1 := e1
      rw [e1] at z2
      have z2 : c = c1 := z2
      rw [e1, z2]
  have there : ∀ {y : Str}, scope.names.lookup y = some .free → ∃ c, (cloFrom X.env.cells scope.names []).lookup y = some c := fun {y} e =>
    L2.mem_lookup (cloFrom_has (cells := X.env.cells) (acc := []) (show (y, NameKind.free) ∈ scope.names from PySem.mem_of_lookup e))
  have cellK : ∀ {c : Addr} {v : Option Value}, H c = none → s.heap.IsCell c v → g.IsCell c v := fun {c v} e ⟨o, h1, h2⟩ => by
    obtain ⟨sl, h3⟩ := un.any h1 e (by simp)
    exact ⟨_, kp _ _ h3, h2⟩
  have none' : ∀ b : Addr, b ∉ (LamX.lamCx X A outer s1 HZ E scope f c').ex := fun b z => absurd (show b ∈ ([] : List Addr) from z) (by simp)
  exact {
    ok := { mod := z0.mod, kind := L.kind, glob := rfl, blt := rfl, above := Nat.le_refl _, inj := fun y z c e1 e2 => I.ok.inj y z c (caught e1) (caught e2),
            has := fun y hy => by
              have hy : scope.names.lookup y = some .cell ∨ scope.names.lookup y = some .free := hy
              exact hy.elim (fun z => absurd rfl (L.own _ (PySem.mem_of_lookup z)).2) there,
            cab := fun y c z _ => Bool.noConfusion (show false = true from z),
            hd := fun _ => calm, frames := Around.frames_deeper z0.frames, stk := .inr ⟨rfl, rfl⟩, exf := fun b z => absurd z (none' b), bs := z0.bs, bsz := z0.bsz, noex := fun b _ _ => none' b, exfs := fun b z => absurd z (none' b), funs := z0.funs, frf := z0.frf },
    os := rfl, bare := z0.bare, base := Un.kept kp,
    loc := ⟨_, ns, fun i y v e1 e2 e3 => by
      have e3 : Vis scope y := e3
      rcases e3 with z | z | z
      · have : y = a := (L.own _ (PySem.mem_of_lookup z)).1 rfl
        rw [this] at e1
        exact absurd e1 (nN i)
      · exact absurd rfl (L.own _ (PySem.mem_of_lookup z)).2
      · obtain ⟨m0, _, look⟩ := I.loc
        have up := L.free _ (PySem.mem_of_lookup z) rfl
        obtain ⟨u, r, q⟩ := look i y v e1 e2 (up.elim (fun k => .inr (.inl k)) fun k => .inr (.inr k))
        obtain ⟨c2, l2⟩ := there z
        refine ⟨u, r, .inr ⟨.inr z, c2, l2, ?_⟩⟩
        have l1 := caught l2
        rcases q with ⟨q1, _⟩ | ⟨_, c3, q2, q3⟩
        · have q1 : X.env.scope.names.lookup y = some .local := q1
          rcases up with k | k <;> (rw [show X.env.scope.names.lookup y = _ from k] at q1; cases q1)
        · rw [l1] at q2
          cases q2
          exact cellK (I.freeC y _ l1) q3⟩,
    cell := fun y c e => by
      obtain ⟨v, o, h1, h2⟩ := I.cell y c (caught e)
      exact ⟨v, cellK (I.freeC y c (caught e)) ⟨o, h1, h2⟩⟩,
    free := z0.hok.fresh (Nat.le_refl _),
    freeC := fun y c e => by
      obtain ⟨v, o, h1, _⟩ := I.cell y c (caught e)
      exact un.free c o h1 (I.freeC y c (caught e)) (by simp),
    pin := fun q hq => absurd (show q ∈ ([] : List (Addr × Obj)) ++ [] from hq) (by simp),
    hok := z0.hok.kept kp, len := I.len }
theorem actD {CXg : CXT} {Eg : XK} {Ng : List Str} {qg : Str} {sg : Scope} {g f c' td : Addr} {cdg mn ct v : Value} {ar : Arg} {i0 : Int} {kd : Nat} {kp : Pos} {body : Expr} {scope : Scope} {k i : Nat} {a : Str} {pn : List (Addr × Obj)} {xe : Value → Shared → Prop} {W : WX} {E : XK} {tb : TE} {p1 p2 : Pos}
    (I : L2.Inv X pins σ H s) (L : LamP X.env.scope scope ar.arg) (nN : ∀ i : Nat, X.N[i]? ≠ some ar.arg)
    (of : s.heap.get? f = some { cls := .type "function", data := .func (fuD (X.env.qual ++ "<lambda>") (parD ar i0 kd kp) body scope (cloFrom X.env.cells scope.names []) mn (.ref c') ct (.ref td)) }) (nf : H f = none) (rf : f ∉ frs X.stack)
    (ot : s.heap.get? td = some { cls := .type "tuple", data := .seq #[v] }) (nt : H td = none) (rt : td ∉ frs X.stack)
    (tk : Takes ((cxOf CXg X.prog X.w X.K X.mg X.base Ng qg sg g cdg X.A X.stack s H Eg).tr pn xe) W) (hW : ∀ cls d σ' H', E cls d H' → W cls d σ' H') (rm : Room (k + 1) (X.A.deeper (envOfC qg sg s.heap.objs.size g cdg)))
    (bd : ∀ (A : Around) (outer : List Env) (s : Shared) (H : Hp), Room k (A.deeper (LamX.lamEnv X scope s.heap.objs.size f c')) → PE (LamX.lamCx X A outer s H E scope f c') body tb)
    (hN : Ng[i]? = some a) (va : Vis sg a) (d1 : (a == ("__debug__" : Str)) = false) (d2 : (a == ("__classdict__" : Str)) = false) :
    PE ((cxOf CXg X.prog X.w X.K X.mg X.base Ng qg sg g cdg X.A X.stack s H Eg).tr pn xe) (.Call (.Name a p1) [] [] p2) (fun σZ HZ Q => σZ[i]? = some (some (.ref f)) ∧ HZ c' = some (LamX.CodeO c' (X.env.qual ++ "<lambda>")) ∧ tb σ HZ Q) := by
  refine ⟨fun pz sz σz Hz Q J ⟨e1, e2, e3⟩ => ?_⟩
  have rd := (pe_var (X := (cxOf CXg X.prog X.w X.K X.mg X.base Ng qg sg g cdg X.A X.stack s H Eg).tr pn xe) (pos := p1) (i := i) hN va d1 d2).run pz sz σz Hz (fun x H1 => x = .ref f ∧ H1 = Hz) J ⟨.ref f, e1, rfl, rfl⟩
  refine wpAny_Call_Name_kw (thn rd fun u s1 hu => ?_)
  obtain ⟨x, H1, J1, r1, q1, q2⟩ := hu
  rw [q1] at r1
  rw [q2] at J1
  have r1 : u = Value.ref f := r1
  subst r1
  have noEx : ∀ b : Addr, b ∉ ([] : List Addr) := fun b z => nomatch z
  have un : Un (frs X.stack) [] H Hz s.heap s1.heap := J1.base
  have f1 := un.keep f _ of nf rf (noEx f)
  have t1 := un.keep td _ ot nt rt (noEx td)
  refine PySem.W.callWith_F0 ⟨_, _, _, _, f1⟩ (wpAny_call ?_)
  obtain ⟨⟨oc, vs, tt, h1, h2, h3⟩, _, _⟩ := J1.hok c' _ e2
  have lets : Passes (L2.CX X.prog X.w) ((cxOf CXg X.prog X.w X.K X.mg X.base Ng qg sg g cdg X.A X.stack s H Eg).tr pn xe) E := passes_call tk hW
  have run : codeAny (model X.prog X.w) (X.A.deeper (envOfC qg sg s.heap.objs.size g cdg)) (.call (.ref f) ⟨[], []⟩) (CR (L2.CX X.prog X.w) (envOfC qg sg s.heap.objs.size g cdg :: X.stack) X.prog X.w Hz s1 Q E) s1 := by
    refine PySem.W.kla_callFunE rm.depth f1 rfl L.co L.gen rfl ⟨c', oc, vs, tt, rfl, h1, h2, h3⟩ (bindD t1 _ _ _ _ ?_)
    refine wpAny_newFunctionEnv (fun y hy => (L.own y hy).2) (fun y hy => ?_) (fun g1 ns sb => ?_) L.kind
    · rw [List.mem_singleton.mp hy]
      exact L.par
    · have kept : ∀ b o, s1.heap.get? b = some o → g1.get? b = some o := fun b o e => sb.extBut b o (Nat.ne_of_lt (Heap.lt_size e)) (Heap.get?_push_of_some _ e)
      refine ⟨J1.nolimit.fresh _ sb, ?_⟩
      have K := startD (f := f) (c' := c') (tk := s1.toks + 1) (E := E) I L nN J1.env0 rm.hd un ns kept
      refine PySem.W.kla_codeExpr (wpAny_mono ((bd _ _ s1 Hz (rm.deeper _)).run [] _ _ Hz Q K e3) (fun w s2 hq => ?_) fun _ _ hq => hq)
      obtain ⟨y, H2, K2, ry, qy⟩ := hq
      exact ⟨y, H2, K2.os, K2.bare, K2.base, K2.hok, ry, qy⟩
  refine codeAny_mono run fun res s2 hq => ?_
  cases res with
  | error e => exact lets pz σz Hz s1 e s2 J1 hq
  | ok fl => cases fl <;> first | exact J1.after hq | exact False.elim hq
end
section
variable {X : Cx}
theorem lamcallD {T : List (Addr × Str)} {TT : (XK → Hp → VK → Prop) → Hp → VK → Prop} {x a : Str} {g c P : Addr} {k : Nat} {pg : Arguments} {bg : List Stmt} {sg : Scope} {dV kV doc pm cdv ct oc : Value} {an od : Option Addr} {osl : Array (Option Value)} {Ng : List Str} {ar : Arg} {i0 : Int} {kd : Nat} {kp : Pos}
    {body : Expr} {scope : Scope} {t : XK → TE} {p lpos pos : Pos} (gx : Gl X x) (mx : X.mg x = some (.ref g)) (kx : PySem.W.keepIn X.K (.ref g) = true) (lk : X.K.lookup g = some ⟨oc, od, .func (PySem.W.fnOf x x pg bg sg dV kV doc pm an cdv ct), osl⟩) (cg : PySem.W.codeIn X.K cdv x = true)
    (bn : L2.Binds X.K (PySem.W.fnOf x x pg bg sg dV kV doc pm an cdv ct) [a] []) (Sg : FnScope Ng [a] sg) (a0 : Ng[0]? = some a) (va : Vis sg a) (give : LamX.GivesTo X Ng x sg g cdv bg a (X.env.qual ++ "<lambda>") TT)
    (B : LamX.TabB X.base X.mg c P) (ec : X.env.code = .ref c) (inT : (P, X.env.qual ++ "<lambda>") ∈ T) (one : ∀ p ∈ T, p.1 = P → p.2 = X.env.qual ++ "<lambda>") (rm : Room (k + 2) X.A) (L : LamP X.env.scope scope ar.arg) (nN : ∀ i : Nat, X.N[i]? ≠ some ar.arg)
    (bd : ∀ (A : Around) (outer : List Env) (s : Shared) (H : Hp) (E : XK) (f c' : Addr), Room k (A.deeper (LamX.lamEnv X scope s.heap.objs.size f c')) → PE (LamX.lamCx X A outer s H E scope f c') body (t E))
    (b1 : (x == ("__debug__" : Str)) = false) (d1 : (a == ("__debug__" : Str)) = false) (d2 : (a == ("__classdict__" : Str)) = false) : PE X (.Call (.Name x p) [.Lambda (parD ar i0 kd kp) body scope lpos] [] pos) (LamX.tLam T TT t) := by
  refine ⟨fun pins s σ H Q I ⟨tT, h⟩ => ?_⟩
  have far : ∀ b, s.heap.objs.size ≤ b → b ∉ frs X.stack := fun b hb z => by
    rcases List.mem_cons.mp (I.stkSub _ z) with e | e
    · have lt := I.lt
      rw [← e] at lt
      exact Nat.lt_irrefl _ (Nat.lt_of_lt_of_le lt hb)
    · exact I.nofs hb e
  refine wpAny_Call_Name_kw (ld_glob I gx mx (PySem.W.callWith_K (h₀ := X.base) I.ok.mod.kin kx ?_ (by rfl) (by rfl)) b1)
  show wpAny _ _ (spliced ((false, eval (.Lambda (parD ar i0 kd kp) body scope lpos) X.env) :: backTo pos (starEach [] X.env))) _ _ s
  refine Calls.spliced_cons (evalD I B ec inT one tT (L.fre I.ok) fun f c' td mn ct' v H1 s1 J eN T1 of nf sf ot nt st kn _ => Calls.spliced_nil ⟨J.kIn, wpAny_call ?_⟩)
  have go : codeAny (model X.prog X.w) X.A (.call (.ref g) ⟨[.ref f], []⟩) (CR C8.CX0 X.stack X.prog X.w H1 s1 Q C8.E0) s1 :=
    LamX.run_ofS (N := Ng) (ps := [a]) (us := [.ref f]) (vs := [.ref f]) lk cg Sg rm J.env0 (bn s1 [.ref f] J.kIn rfl) (.cons rfl .nil) rfl fun rm2 => by
      obtain ⟨tg, g1, g2⟩ := give f c' s1 H1 Q (fun E H' Q' => t E σ H' Q') (fun W pn xe E p1 p2 tk hW => actD (i := 0) J L nN of nf (far f sf) ot nt (far td st) tk hW rm2 (fun A outer s H rm3 => bd A outer s H E f c' rm3) a0 va d1 d2) kn (h H1 eN T1)
      exact ⟨tg, g1.nox, g2⟩
  refine codeAny_mono go fun res s2 hq => ?_
  cases res with
  | error e => exact (show False from hq).elim
  | ok fl => cases fl <;> first | exact J.after hq | exact False.elim hq
end
end Pyx

namespace Pyx
open PySem PySem.Spec PyProof.Rows L2
theorem rel_lam {c : Rc} {f : Nat → Addr} {H H1 : Hp} {h : PH} (r : Rel c f h H) (e : LamX.ExtN H H1) (t : LamX.Tabs [(c.tb, c.lq)] H1) : Rel c f h H1 ∧ Ext f h.n H f h.n H1 := by
  have x : Ext f h.n H f h.n H1 := ⟨Nat.le_refl _, fun _ _ => rfl, fun a vs q => e a _ q (fun ps z => by cases z), fun a q' q => e a _ q (fun ps => LamX.codeO_ne ps), fun a o q' _ q => e a _ q (fun ps z => by cases z)⟩
  refine ⟨⟨r.len, fun i o q => ?_, r.inj, fun a q => let ⟨xs, z⟩ := r.scr a q; ⟨xs, e _ _ z (fun ps w => by cases w)⟩⟩, x⟩
  cases r.obj i o q with
  | lst h1 h2 h3 => exact .lst (e _ _ h1 (fun ps z => by cases z)) (h2.mono x) h3
  | dK h1 h2 h3 => exact .dK (e _ _ h1 (fun ps z => by cases z)) (h2.mono x) h3
  | dT h1 h2 h3 => exact .dT (e _ _ h1 (fun ps z => by cases z)) (h2.mono x) h3
  | lT h1 h2 h3 => exact .lT (e _ _ h1 (fun ps z => by cases z)) (h2.mono x) h3
  | lK h1 h2 h3 => exact .lK (e _ _ h1 (fun ps z => by cases z)) (h2.mono x) h3
  | fz h1 h2 =>
    refine .fz ?_ (h2.mono x)
    rcases h1 with ⟨ob, h1⟩ | h1 | h1
    · exact .inl ⟨ob, e _ _ h1 (fun ps z => by cases z)⟩
    · exact .inr (.inl h1)
    · exact .inr (.inr ⟨h1.1, e _ _ h1.2 (fun ps z => by cases z)⟩)
  | set h1 a b d => exact .set (e _ _ h1 (fun ps z => by unfold SetO at z; cases z)) a b d
  | tb h1 h2 => exact .tb h1 (by rw [h1]; exact t _ (List.mem_cons_self ..))
section
variable {X : Cx}
theorem pe_alt {e : Expr} {t u : TE} (h1 : PE X e t) (h2 : PE X e u) : PE X e (fun σ H Q => t σ H Q ∨ u σ H Q) := ⟨fun pins s σ H Q I hw => by
  rcases hw with hw | hw
  · exact h1.run pins s σ H Q I hw
  · exact h2.run pins s σ H Q I hw⟩
theorem takes_len {W : WX} (t : Takes X W) : Takes X (fun cls d σ H => σ.length = X.N.length → W cls d σ H) := fun u s' ⟨a, B, sI, pins, σ, H, cls, d, e, I, nb, up, sky, na, os, ag, w⟩ =>
  t u s' ⟨a, B, sI, pins, σ, H, cls, d, e, I, nb, up, sky, na, os, ag, w I.len⟩
end
section
variable {c : Rc} {call : Nat → List PV → PH → R PV} {Γ : CEnv} {X : Cx} {C : Cmp}
def TTk (c : Rc) (Γ : CEnv) (d : DefR) (t : Told) : (XK → Hp → VK → Prop) → Hp → VK → Prop := fun tl H Q =>
  tl (fun cls dd H' => dd = none ∧ ∃ (xi : Str) (i : Nat) (v : PV), cls = .ref (c.C i) ∧ (xi, i) ∈ Γ.excs ∧ hval 9 (gEnv Γ d) t.n i t.e = some v ∧ Q (vOf v) H') H (match t.aft with | none => Q | some b => fun _ H' => Q (.bl b) H')
theorem good_g (G : Good c call Γ X) {d : DefR} (S : FnScope d.N d.ps (defScope d.st)) {g : Addr} {cdg : Value} {s : Shared} {H : Hp} (hu : (X.A.deeper (envOfC d.x (defScope d.st) s.heap.objs.size g cdg)).units + 65 < cLine) :
    Good c (fun _ _ _ => .stuck) (gEnv Γ d) (cxOf C8.CX0 X.prog X.w X.K X.mg X.base d.N d.x (defScope d.st) g cdg X.A X.stack s H C8.E0).nox where
  K := G.K
  W := G.W
  calm := rfl
  nd := S.nd
  N := rfl
  xe := rfl
  vis := fun x h => by
    have h : isVis ((defScope d.st).names.lookup x) = true := h
    show Vis (defScope d.st) x
    unfold Vis
    cases e : (defScope d.st).names.lookup x with
    | none => rw [e] at h; cases h
    | some k => rw [e] at h; cases k <;> first | (cases h; done) | exact .inl rfl | exact .inr (.inl rfl) | exact .inr (.inr rfl)
  loc := fun x h => by
    have h : isLoc ((defScope d.st).names.lookup x) = true := h
    refine ⟨?_, .inl rfl⟩
    show L2.Loc (defScope d.st) x
    unfold L2.Loc
    cases e : (defScope d.st).names.lookup x with
    | none => rw [e] at h; cases h
    | some k => rw [e] at h; cases k <;> first | (cases h; done) | exact .inl rfl | exact .inr rfl
  fr := fun x h => h
  gl := fun x h => by
    have h : isGl ((defScope d.st).names.lookup x) = true := h
    show (defScope d.st).names.lookup x = some .globalImplicit
    cases e : (defScope d.st).names.lookup x with
    | none => rw [e] at h; cases h
    | some k => rw [e] at h; cases k <;> first | (cases h; done) | rfl
  fns := fun x k ar h => by cases h
  fnv := fun k vs h ns _ => absurd rfl ns
  consts := fun x v h => by cases h
  nob := G.nob
  units := hu
  exs := G.exs
  lams := fun h => by cases h
theorem good_lam (G : Good c call Γ X) (L : LamG c call Γ X) {m : Nat} (hf : ∀ x k ar, Γ.fns.lookup x = some (k, ar) → ∃ fd ps, X.mg x = some (.ref (c.F k)) ∧ PySem.W.keepIn X.K (.ref (c.F k)) = true ∧ Binds X.K fd ps [] ∧ FnOk X.prog X.w X.K X.mg X.base (L2.CX X.prog X.w) m (c.F k) fd ps (spB c call k ar))
    (hv : ∀ k vs h, call k vs h ≠ .stuck → k < xbig → ∃ x fd ps, X.mg x = some (.ref (c.F k)) ∧ PySem.W.keepIn X.K (.ref (c.F k)) = true ∧ Binds X.K fd ps [] ∧ FnOk X.prog X.w X.K X.mg X.base (L2.CX X.prog X.w) m (c.F k) fd ps (spB c call k vs.length))
    {scope : Scope} (hs : ∀ y ∈ scope.names, y.2 ≠ .cell) {A : Around} {outer : List Env} {s : Shared} {H : Hp} {E : XK} {f c' : Addr} (hr : Room m (A.deeper (LamX.lamEnv X scope s.heap.objs.size f c'))) :
    Good c call (lEnv Γ scope) (LamX.lamCx X A outer s H E scope f c').nox where
  K := G.K
  W := G.W
  calm := rfl
  nd := G.nd
  N := G.N
  xe := rfl
  vis := fun x h => by
    have h : isVis (scope.names.lookup x) = true := h
    show Vis scope x
    unfold Vis
    cases e : scope.names.lookup x with
    | none => rw [e] at h; cases h
    | some k => rw [e] at h; cases k <;> first | (cases h; done) | exact .inl rfl | exact .inr (.inl rfl) | exact .inr (.inr rfl)
  loc := fun x h => by
    have h : isLoc (scope.names.lookup x) = true := h
    cases e : scope.names.lookup x with
    | none => rw [e] at h; cases h
    | some k =>
      rw [e] at h
      cases k <;> first
      | (cases h; done)
      | exact absurd rfl (hs _ (PySem.mem_of_lookup e))
      | exact ⟨by show L2.Loc scope x; unfold L2.Loc; rw [e]; exact .inl rfl, .inr e⟩
  fr := fun x h => h
  gl := fun x h => by
    have h : isGl (scope.names.lookup x) = true := h
    show scope.names.lookup x = some .globalImplicit
    cases e : scope.names.lookup x with
    | none => rw [e] at h; cases h
    | some k => rw [e] at h; cases k <;> first | (cases h; done) | rfl
  fns := fun x k ar h => let ⟨fd, ps, h1, h2, h3, h4⟩ := hf x k ar h; ⟨fd, ps, m, h1, h2, h3, hr, h4⟩
  fnv := fun k vs h ns lt => let ⟨x, fd, ps, h1, h2, h3, h4⟩ := hv k vs h ns lt; ⟨x, fd, ps, m, h1, h2, h3, hr, h4⟩
  consts := G.consts
  nob := G.nob
  units := by
    have z := hr.un
    show (A.deeper _).units + 65 < cLine
    omega
  exs := G.exs
  lams := fun h => by cases h
theorem lamS_of (G : Good c call Γ X) {scope : Scope} (hs : scB Γ scope = true) : LamX.LamS X.env.scope scope := by
  unfold scB at hs
  simp only [Bool.and_eq_true, List.all_eq_true, Bool.not_eq_true'] at hs
  obtain ⟨⟨⟨h1, h2⟩, h3⟩, h4⟩ := hs
  refine ⟨?_, h2, h3, fun y hy => ?_, fun y hy e => ?_⟩
  · cases e : scope.kind <;> rw [e] at h1 <;> first | rfl | (cases h1; done)
  · have q := (h4 y hy).1
    refine ⟨fun z => ?_, fun z => ?_⟩ <;> (rw [z] at q; cases q)
  · have q := (h4 y hy).2
    rw [e] at q
    have q : isCF (Γ.names.lookup y.1) = true := q
    refine G.fr _ ?_
    cases e2 : Γ.names.lookup y.1 with
    | none => rw [e2] at q; cases q
    | some k => rw [e2] at q; cases k <;> first | (cases q; done) | exact .inl rfl | exact .inr rfl
theorem lamP_of (G : Good c call Γ X) {scope : Scope} {a : Str} (hs : scP Γ scope a = true) : LamP X.env.scope scope a ∧ ∀ i : Nat, X.N[i]? ≠ some a := by
  unfold scP at hs
  simp only [Bool.and_eq_true, List.all_eq_true, Bool.not_eq_true', Bool.or_eq_true, decide_eq_true_eq] at hs
  obtain ⟨⟨⟨⟨⟨h1, h2⟩, h3⟩, h5⟩, h6⟩, h4⟩ := hs
  refine ⟨⟨?_, h2, h3, h5, fun y hy => ?_, fun y hy e => ?_⟩, fun i e => ?_⟩
  · cases e : scope.kind <;> rw [e] at h1 <;> first | rfl | (cases h1; done)
  · rcases (h4 y hy).1 with q | ⟨q1, q2⟩
    · refine ⟨fun z => ?_, fun z => ?_⟩ <;> (rw [z] at q; cases q)
    · exact ⟨fun _ => q1, fun z => by rw [z] at q2; cases q2⟩
  · have q := (h4 y hy).2
    rw [e] at q
    have q : isCF (Γ.names.lookup y.1) = true := q
    refine G.fr _ ?_
    cases e2 : Γ.names.lookup y.1 with
    | none => rw [e2] at q; cases q
    | some k => rw [e2] at q; cases k <;> first | (cases q; done) | exact .inl rfl | exact .inr rfl
  · rw [G.N] at e
    have := List.mem_of_getElem? e
    rw [List.contains_eq_mem, decide_eq_false_iff_not] at h6
    exact h6 this
theorem gives (G : Good c call Γ X) (hne : Γ.excs ≠ []) {d : DefR} {t : Told} {k : Nat} {cdg : Value} {q : Str} (S : FnScope d.N d.ps (defScope d.st)) (ht : toldOf d.st = some t) (hc : tChk Γ d t = true) {j : Nat} (hj : ixOf t.n d.N 0 = some j)
    (hu : ∀ s : Shared, (X.A.deeper (envOfC d.x (defScope d.st) s.heap.objs.size (c.F k) cdg)).units + 65 < cLine) : LamX.GivesTo X d.N d.x (defScope d.st) (c.F k) cdg (defBody d.st) t.a q (TTk c Γ d t) := by
  intro f c' s H Q tl act hco h
  have Gg := good_g (g := c.F k) (cdg := cdg) (s := s) (H := H) G S (hu s)
  unfold tChk at hc
  simp only [Bool.and_eq_true, decide_eq_true_eq] at hc
  obtain ⟨⟨⟨⟨⟨⟨⟨c1, c2⟩, c3⟩, c4⟩, c5⟩, c6⟩, c7⟩, c8⟩ := hc
  obtain ⟨g1, g2⟩ := isGlD_is Gg c2
  obtain ⟨o1, o2⟩ := okName_is c4
  obtain ⟨CB, b1, b2⟩ := G.exs.base hne
  have hjN : d.N[j]? = some t.n := by
    have q := (ixOf_is hj).2
    rw [Nat.sub_zero] at q
    exact q
  have h0 : (L2.start d.N [V.ref f])[0]? = some (some (V.ref f)) := by
    unfold L2.start
    rfl
  have wish : ∀ (D : Ends) (hD : D.rt = Q) (cls : Value) (dd : Option Addr) (σ' : L2.St) (H' : Hp), (dd = none ∧ ∃ (xi : Str) (i : Nat) (v : PV), cls = .ref (c.C i) ∧ (xi, i) ∈ Γ.excs ∧ hval 9 (gEnv Γ d) t.n i t.e = some v ∧ Q (vOf v) H') → σ'.length = d.N.length →
      wAs X.K (.ref CB) j (tsH c (gEnv Γ d) t.n j t.e none) (fun _ _ _ _ => False) D cls dd σ' H' := fun D hD cls dd σ' H' ⟨e1, xi, i, v, e2, e3, e4, e5⟩ hl => by
    subst e1
    subst e2
    refine ⟨true, b2 _ _ e3, fun _ a na => ⟨xi, i, v, rfl, rfl, e3, e4, List.getElem?_set_self ?_, ?_⟩, fun z => nomatch z⟩
    · rw [hl]
      exact (List.getElem?_eq_some_iff.mp hjN).1
    · show D.rt (vOf v) H'
      rw [hD]
      exact e5
  obtain ⟨ta, tx, tn, te, taf⟩ := t
  dsimp only at c1 c2 c3 c4 c5 c6 c7 c8 hj hjN wish o1 o2 g1 g2 act
  unfold TTk at h
  dsimp only at h
  subst c1
  generalize hb : defBody d.st = bg at ht ⊢
  unfold toldOf at ht
  rw [hb] at ht
  split at ht
  · rename_i a p1 p2 p3 x p4 n e p5 p6 p7
    cases ht
    refine ⟨_, pss_one (ps_try_as (X := (cxOf C8.CX0 X.prog X.w X.K X.mg X.base d.N d.x (defScope d.st) (c.F k) cdg X.A X.stack s H C8.E0).nox) (x := Γ.exb) (n := tn) (c := .ref CB) (i := j) (Wout := fun _ _ _ _ => False)
      (tb := fun W D σ H => ∃ Ech : XK, (∀ cls d' σ' H', Ech cls d' H' → σ'.length = d.N.length → W cls d' σ' H') ∧ σ[0]? = some (some (.ref f)) ∧ H c' = some (LamX.CodeO c' q) ∧ tl Ech H D.rt) (ts := tsH c (gEnv Γ d) tn j te none)
      rfl rfl S.nd hjN c3 ⟨g1, g2, .inl b1⟩ takes0 (fun W pn xe tk _ => ?_) (fun a oe cls dd pn hz hf => ts_ok Gg hz hf hjN (.inl c3) o1 o2 rfl)), ?_⟩
    · refine ⟨fun pins s' σ H' D I h' => ?_⟩
      obtain ⟨Ech, hW, h1, h2, h3⟩ := h'
      have hp := act _ pn xe Ech p1 p2 (takes_len tk) hW
      have hq := pss_one (ps_ret (pos := p3) hp)
      exact hq.run pins s' σ H' D I ⟨h1, h2, h3⟩
    · exact ⟨_, fun cls d' σ' H' w hl => wish _ rfl cls d' σ' H' w hl, h0, hco, h⟩
  · rename_i a p1 p2 p3 x p4 n e p5 p6 p7 b p8 p9 p10
    cases ht
    refine ⟨_, pss_cons (ps_try_as (X := (cxOf C8.CX0 X.prog X.w X.K X.mg X.base d.N d.x (defScope d.st) (c.F k) cdg X.A X.stack s H C8.E0).nox) (x := Γ.exb) (n := tn) (c := .ref CB) (i := j) (Wout := fun _ _ _ _ => False)
      (tb := fun W D σ H => ∃ Ech : XK, (∀ cls d' σ' H', Ech cls d' H' → σ'.length = d.N.length → W cls d' σ' H') ∧ σ[0]? = some (some (.ref f)) ∧ H c' = some (LamX.CodeO c' q) ∧ tl Ech H (fun _ H' => D.nx σ H')) (ts := tsH c (gEnv Γ d) tn j te none)
      rfl rfl S.nd hjN c3 ⟨g1, g2, .inl b1⟩ takes0 (fun W pn xe tk _ => ?_) (fun a oe cls dd pn hz hf => ts_ok Gg hz hf hjN (.inl c3) o1 o2 rfl)) (pss_one (ps_ret pe_bl)), ?_⟩
    · refine ⟨fun pins s' σ H' D I h' => ?_⟩
      obtain ⟨Ech, hW, h1, h2, h3⟩ := h'
      have hp := act _ pn xe Ech p1 p2 (takes_len tk) hW
      have hq := pss_one (ps_expr (pos := p3) hp)
      exact hq.run pins s' σ H' D I ⟨h1, h2, h3⟩
    · exact ⟨_, fun cls d' σ' H' w hl => wish _ rfl cls d' σ' H' w hl, h0, hco, h⟩
  · cases ht
theorem lam_ok (K : COk c call C) (G : Good c call Γ X) {x : Str} {q : Arguments × Expr × Scope} {ce : CE} {p lp pos : Pos} (h : cLam C Γ x q.1 q.2.1 q.2.2 = some ce) (n : Nat) : PE X (.Call (.Name x p) [.Lambda q.1 q.2.1 q.2.2 lp] [] pos) (tE c (evE call (n + 1) ce)) := by
  obtain ⟨params, body, scope⟩ := q
  dsimp only at h ⊢
  unfold cLam at h
  obtain ⟨h1, h⟩ := gd_is h
  simp only [Bool.and_eq_true] at h1
  obtain ⟨⟨⟨hl, hem⟩, hx⟩, hsc⟩ := h1
  have hne : Γ.excs ≠ [] := fun z => by rw [z] at hem; cases hem
  obtain ⟨⟨k, d⟩, h2, h⟩ := bd_is h
  obtain ⟨t, h3, h⟩ := bd_is h
  obtain ⟨h4, h⟩ := gd_is h
  obtain ⟨j, h5, h⟩ := bd_is h
  obtain ⟨cb, h6, h⟩ := bd_is h
  obtain ⟨⟨kx, ces⟩, h7, h⟩ := bd_is h
  obtain ⟨hs, h8, h⟩ := bd_is h
  cases h
  dsimp only at h3 h4 h5 h8 ⊢
  have L := G.lams hl
  obtain ⟨m, hr, hf, hv⟩ := L.lvl
  obtain ⟨ex, em, fd, F, B, S⟩ := L.told x k d h2
  subst ex
  obtain ⟨oc, od, kV, doc, pm, an, cdv, ct, osl, rfl, lk, hcd⟩ := F.ex
  obtain ⟨g1, g2⟩ := isGlD_is G hx
  have hc := h4
  unfold tChk at hc
  simp only [Bool.and_eq_true, decide_eq_true_eq] at hc
  obtain ⟨⟨⟨⟨⟨⟨⟨c1, c2⟩, c3⟩, c4⟩, c5⟩, c6⟩, c7⟩, c8⟩ := hc
  obtain ⟨o1, o2⟩ := okName_is c8
  have hva : Vis (defScope d.st) t.a := by
    have h : isVis ((defScope d.st).names.lookup t.a) = true := c7
    unfold Vis
    cases e : (defScope d.st).names.lookup t.a with
    | none => rw [e] at h; cases h
    | some k => rw [e] at h; cases k <;> first | (cases h; done) | exact .inl rfl | exact .inr (.inl rfl) | exact .inr (.inr rfl)
  have rmU : ∀ s : Shared, (X.A.deeper (envOfC d.x (defScope d.st) s.heap.objs.size (c.F k) cdv)).units + 65 < cLine := fun s => by have z := (Room.deeper (k := m + 1) hr (envOfC d.x (defScope d.st) s.heap.objs.size (c.F k) cdv)).un; omega
  have base : PE X (.Call (.Name d.x p) [.Lambda params body scope lp] [] pos) (LamX.tLam [(c.tb, c.lq)] (TTk c Γ d t) (fun E σ H Q => tE c (evE call n cb) σ H Q ∨ tXe c (fun cls dd _ H => E cls dd H) (evE call n (.call (xbig + kx) ces)) σ H Q)) := by
    unfold lamSc at hsc
    cases ep : parOf params with
    | none =>
      rw [ep] at hsc
      simp only [Bool.and_eq_true] at hsc
      obtain ⟨hpar, hsc⟩ := hsc
      have hpar := noPar_is hpar
      subst hpar
      have nc : ∀ y ∈ scope.names, y.2 ≠ .cell := fun y hy => ((lamS_of G hsc).own y hy).2
      exact LamX.pe_lamcall (T := [(c.tb, c.lq)]) (TT := TTk c Γ d t) (x := d.x) (a := t.a) (g := c.F k) (c := c.cd) (P := c.tb) (k := m) (Ng := d.N) g1 em F.kp lk hcd (by rw [← c5]; exact B) (by rw [← c5]; exact S) c6 hva (gives G hne S h3 h4 h5 rmU) L.tab L.code (by rw [L.qual]; exact List.mem_cons_self ..)
        (fun p' hp' _ => by rw [L.qual]; rcases List.mem_cons.mp hp' with z | z; (rw [z]); (cases z)) hr (lamS_of G hsc) rfl (fun _ _ _ _ _ => rfl)
        (fun A outer s H E f c' hr2 => by
          have Gl' := good_lam (E := E) (f := f) (c' := c') (outer := outer) (H := H) G L hf hv nc hr2
          exact pe_alt (K.E _ _ Gl' _ _ h6 n).nox (xe_call K Gl' (takes_of rfl rfl rfl rfl) h7 n)) g2 o1 o2
    | some pq =>
      obtain ⟨ar, i0, kd, kp⟩ := pq
      rw [ep] at hsc
      have hsc : scP Γ scope ar.arg = true := hsc
      have hpar := parOf_is ep
      subst hpar
      obtain ⟨LP, nN⟩ := lamP_of G hsc
      have nc : ∀ y ∈ scope.names, y.2 ≠ .cell := fun y hy => (LP.own y hy).2
      exact lamcallD (T := [(c.tb, c.lq)]) (TT := TTk c Γ d t) (x := d.x) (a := t.a) (g := c.F k) (c := c.cd) (P := c.tb) (k := m) (Ng := d.N) g1 em F.kp lk hcd (by rw [← c5]; exact B) (by rw [← c5]; exact S) c6 hva (gives G hne S h3 h4 h5 rmU) L.tab L.code (by rw [L.qual]; exact List.mem_cons_self ..)
        (fun p' hp' _ => by rw [L.qual]; rcases List.mem_cons.mp hp' with z | z; (rw [z]); (cases z)) hr LP nN
        (fun A outer s H E f c' hr2 => by
          have Gl' := good_lam (E := E) (f := f) (c' := c') (outer := outer) (H := H) G L hf hv nc hr2
          exact pe_alt (K.E _ _ Gl' _ _ h6 n).nox (xe_call K Gl' (takes_of rfl rfl rfl rfl) h7 n)) g2 o1 o2
  refine pe_w base fun σ H Q ⟨f, h', st, r, rs, pp⟩ => ?_
  have pp : Post c f h'.n H (eLam (evE call n) cb (.call (xbig + kx) ces) hs t.aft st h') (VQ c Q) := pp
  unfold eLam at pp
  split at pp
  · rename_i e0
    have tb : LamX.TabS H c.tb c.lq := by
      cases r.obj 1 _ e0 with
      | tb z1 z2 => rw [← z1]; exact z2
    refine ⟨fun p' hp' => by rcases List.mem_cons.mp hp' with z | z; (rw [z]; exact tb); (cases z), fun H1 eN T1 => ?_⟩
    obtain ⟨r1, x1⟩ := rel_lam r eN T1
    show _ ∨ _
    split at pp
    · rename_i kk h1 e1
      split at pp
      · rename_i v e2
        obtain ⟨xi, i, ei, hi, hvv⟩ := hAll_at h8 e2
        subst ei
        refine .inr ⟨f, h', st, r1, rs.mono x1, ?_⟩
        rw [e1]
        intro f1 H2 x2 r2
        exact ⟨i, rfl, rfl, xi, i, v, rfl, hi, hvv, pp f1 H2 (x1.trans x2) r2 _ (hval_rv 9 t.e v hvv)⟩
      · exact pp.elim
    · refine .inl ⟨f, h', st, r1, rs.mono x1, ?_⟩
      split at pp
      · exact pp.elim
      · rename_i v h1 e2
        rw [e2]
        cases haft : t.aft with
        | none =>
          rw [haft] at pp
          exact Post.mono x1 pp
        | some b =>
          rw [haft] at pp
          exact fun f1 H2 x2 r2 v' rv => pp f1 H2 (x1.trans x2) r2 _ (.bl b)
    · exact pp.elim
  · exact pp.elim
end
end Pyx

namespace Pyx
open PySem PySem.Spec PyProof.Rows L2
def tT3 (r r' r'' : R2) (ta tb tc td : TE) : TT := fun σ H Q => ta σ H fun x H1 => tb σ H1 fun y H2 => r x y H2 fun z H3 => ∃ k, z = .bl k ∧
  (if k = true then tc σ H3 fun w H4 => r' y w H4 fun z2 H5 => ∃ k2, z2 = .bl k2 ∧
    (if k2 = true then td σ H5 fun u H6 => r'' w u H6 fun z3 H7 => ∃ k3, z3 = .bl k3 ∧ Q k3 H7 else Q false H5) else Q false H3)
section
variable {X : Cx} {a b d e : Expr} {ta tb tc td : TE} {pos : Pos}
theorem pt_chain3 {o1 o2 o3 : CmpOp} {r r' r'' : R2} (ho : OpR X (compareOp o1) r) (ho' : OpR X (compareOp o2) r') (ho'' : OpR X (compareOp o3) r'') (ha : PE X a ta) (hb : PE X b tb) (hd : PE X d tc) (he : PE X e td)
    (hm : lastMarks [o1, o2, o3] [b, d, e] = false) : PT X (.Compare a [o1, o2, o3] [b, d, e] pos) (tT3 r r' r'' ta tb tc td) := by
  refine ⟨fun pins s σ H Q I h => ?_⟩
  refine isTrue_chain (thn (ha.run pins s σ H _ I h) fun v s1 ⟨x, H1, I1, r1, q1⟩ => test_link (thn (hb.run pins s1 σ H1 _ I1 q1) fun u s2 ⟨y, H2, I2, r2, q2⟩ =>
    thn (ho pins s2 σ H2 x y v u _ I2 r1 r2 q2) fun d s3 ⟨z, H3, I3, r3, k, e, q3⟩ => ?_)) hm
  subst e
  cases r3
  refine wpAny_truthy_bool ?_
  cases k with
  | false => exact ite_ff ⟨H3, I3, q3⟩
  | true =>
    refine ite_tt (test_link (thn (hd.run pins s3 σ H3 _ I3 q3) fun w' s4 ⟨z', H4, I4, r4, q4⟩ => thn (ho' pins s4 σ H4 y z' u w' _ I4 r2 r4 q4) fun d' s5 ⟨z2, H5, I5, r5, k2, e2, q5⟩ => ?_))
    subst e2
    cases r5
    refine wpAny_truthy_bool ?_
    cases k2 with
    | false => exact ite_ff ⟨H5, I5, q5⟩
    | true =>
      refine ite_tt (test_last (thn (he.run pins s5 σ H5 _ I5 q5) fun w2 s6 ⟨z3, H6, I6, r6, q6⟩ => thn (ho'' pins s6 σ H6 z' z3 w' w2 _ I6 r4 r6 q6) fun d2 s7 ⟨z4, H7, I7, r7, k4, e4, q7⟩ => ?_))
      subst e4
      cases r7
      exact wpAny_truthy_bool ⟨H7, I7, q7⟩
end
section
variable {c : Rc} {call : Nat → List PV → PH → R PV} {n : Nat} {ca cd : CE}
theorem evB_blcmp (o : Cop) (x y : CE) (st : PSt) (h : PH) : evB (evE call (n + 1)) (.bl (.cmp o x y)) st h = (match evE call n x st h with
    | .stuck => .stuck
    | .ok v h1 => match evE call n y st h1 with
      | .stuck => .stuck
      | .ok w h2 => match cmpP o v w h2 with
        | some k => .ok k h2
        | none => .stuck) := by
  show (match eCmp (evE call n) o x y st h with | .ok (.bl k) h1 => (R.ok k h1 : R Bool) | _ => .stuck) = _
  unfold eCmp
  cases evE call n x st h with
  | stuck => rfl
  | ok v h1 =>
    dsimp only
    cases evE call n y st h1 with
    | stuck => rfl
    | ok w h2 =>
      dsimp only
      cases cmpP o v w h2 <;> rfl
theorem evB_and (rec : CE → PSt → PH → R PV) (x y : CB) (st : PSt) (h : PH) : evB rec (.and x y) st h = (match evB rec x st h with
    | .stuck => .stuck
    | .ok true h1 => evB rec y st h1
    | .ok false h1 => .ok false h1) := by
  rw [evB]
  all_goals
    cases evB rec x st h with
    | stuck => rfl
    | ok k h1 => cases k <;> rfl
theorem var_same {i : Nat} {st : PSt} {h h1 h2 : PH} {w : PV} (e : evE call n (.var i) st h = .ok w h1) : evE call n (.var i) st h2 = .ok w h2 := by
  cases n with
  | zero => exact nomatch e
  | succ n =>
    have e : eVar (evE call n) i st h = .ok w h1 := e
    show eVar (evE call n) i st h2 = .ok w h2
    unfold eVar at e ⊢
    cases z : st[i]? with
    | none => rw [z] at e; exact nomatch e
    | some o =>
      rw [z] at e
      cases o with
      | none => exact nomatch e
      | some v =>
        dsimp only at e ⊢
        cases e
        rfl
theorem rd_threeC (o1 o2 o3 : Cop) (i j : Nat) : ∀ σ H Q, tB' c (evB (evE call (n + 1)) (.and (.bl (.cmp o1 ca (.var i))) (.and (.bl (.cmp o2 (.var i) (.var j))) (.bl (.cmp o3 (.var j) cd))))) σ H Q → tT3 (rCmp c o1) (rCmp c o2) (rCmp c o3) (tE c (evE call n ca)) (tE c (evE call n (.var i))) (tE c (evE call n (.var j))) (tE c (evE call n cd)) σ H Q := fun σ H Q ⟨f, h, st, r, rs, p⟩ => by
  rw [evB_and, evB_blcmp] at p
  cases e1 : evE call n ca st h with
  | stuck => rw [e1] at p; exact p.elim
  | ok v h1 =>
    rw [e1] at p
    dsimp only at p
    refine tE_of e1 r rs fun f1 H1 x x1 r1 rs1 rv1 => ?_
    cases e2 : evE call n (.var i) st h1 with
    | stuck => rw [e2] at p; exact p.elim
    | ok w h2 =>
      rw [e2] at p
      dsimp only at p
      refine tE_of e2 r1 rs1 fun f2 H2 y x2 r2 rs2 rv2 => ?_
      cases e3 : cmpP o1 v w h2 with
      | none => rw [e3] at p; exact p.elim
      | some k =>
        rw [e3] at p
        refine ⟨f2, h2, v, w, k, r2, rv1.mono x2, rv2, e3, k, rfl, ?_⟩
        cases k with
        | false =>
          rw [if_neg Bool.false_ne_true]
          exact p _ _ (x1.trans x2) r2
        | true =>
          rw [if_pos rfl]
          dsimp only at p
          rw [evB_and, evB_blcmp, var_same (h2 := h2) e2] at p
          dsimp only at p
          cases e4 : evE call n (.var j) st h2 with
          | stuck => rw [e4] at p; exact p.elim
          | ok u h3 =>
            rw [e4] at p
            dsimp only at p
            refine tE_of e4 r2 rs2 fun f3 H3 z x3 r3 rs3 rv3 => ?_
            cases e5 : cmpP o2 w u h3 with
            | none => rw [e5] at p; exact p.elim
            | some k2 =>
              rw [e5] at p
              refine ⟨f3, h3, w, u, k2, r3, rv2.mono x3, rv3, e5, k2, rfl, ?_⟩
              cases k2 with
              | false =>
                rw [if_neg Bool.false_ne_true]
                exact p _ _ ((x1.trans x2).trans x3) r3
              | true =>
                rw [if_pos rfl]
                dsimp only at p
                rw [evB_blcmp, var_same (h2 := h3) e4] at p
                dsimp only at p
                cases e6 : evE call n cd st h3 with
                | stuck => rw [e6] at p; exact p.elim
                | ok t h4 =>
                  rw [e6] at p
                  dsimp only at p
                  refine tE_of e6 r3 rs3 fun f4 H4 zz x4 r4 rs4 rv4 => ?_
                  cases e7 : cmpP o3 u t h4 with
                  | none => rw [e7] at p; exact p.elim
                  | some k3 =>
                    rw [e7] at p
                    exact ⟨f4, h4, u, t, k3, r4, rv3.mono x4, rv4, e7, k3, rfl, p _ _ (((x1.trans x2).trans x3).trans x4) r4⟩
end
end Pyx

namespace Pyx
open PySem PySem.Spec PyProof.Rows L2
section
variable {c : Rc} {call : Nat → List PV → PH → R PV} {Γ : CEnv} {X : Cx}
theorem isTup_is {e : Expr} (h : isTupT e = true) : ∃ a b p, e = .Tuple a b p := by
  cases e <;> first | (cases h; done) | exact ⟨_, _, _, rfl⟩
section
variable {C : Cmp}
theorem it_of (K : COk c call C) (G : Good c call Γ X) {tg it : Expr} {ci : CI} (h : cIt C Γ tg it = some ci) (n : Nat) : PI X tg it (tI c (evI (evE call n) ci)) := by
  have over : ∀ {ci}, (bd (C.E Γ it) fun c => some (CI.over c)) = some ci → PI X tg it (tI c (evI (evE call n) ci)) := fun h => by
    obtain ⟨ce, h1, h⟩ := bd_is h
    cases h
    exact i_over G.K (K.E Γ X G _ _ h1 n)
  unfold cIt at h
  split at h
  · split at h
    · rename_i e
      rw [Bool.and_eq_true] at e
      obtain ⟨hs, h⟩ := gd_is h
      obtain ⟨ca, h1, h⟩ := bd_is h
      cases h
      have ex := of_decide_eq_true e.1
      subst ex
      obtain ⟨g1, g2⟩ := bltin_is G e.2
      exact i_rng1 g1 g2 hs (K.E Γ X G _ _ h1 n)
    · split at h
      · rename_i e
        rw [Bool.and_eq_true, Bool.and_eq_true] at e
        obtain ⟨hs, h⟩ := gd_is h
        obtain ⟨ca, h1, h⟩ := bd_is h
        cases h
        have ex := of_decide_eq_true e.1.1
        subst ex
        obtain ⟨g1, g2⟩ := bltin_is G e.1.2
        obtain ⟨_, _, _, et⟩ := isTup_is e.2
        subst et
        exact i_enum G.K g1 g2 hs (K.E Γ X G _ _ h1 n)
      · exact over h
  · split at h
    · rename_i e
      rw [Bool.and_eq_true] at e
      obtain ⟨hs, h⟩ := gd_is h
      rw [Bool.and_eq_true] at hs
      obtain ⟨ca, h1, h⟩ := bd_is h
      obtain ⟨cb, h2, h⟩ := bd_is h
      cases h
      have ex := of_decide_eq_true e.1
      subst ex
      obtain ⟨g1, g2⟩ := bltin_is G e.2
      exact i_rng2 g1 g2 hs.1 hs.2 (K.E Γ X G _ _ h1 n) (K.E Γ X G _ _ h2 n)
    · split at h
      · rename_i e
        rw [Bool.and_eq_true, Bool.and_eq_true] at e
        obtain ⟨hs, h⟩ := gd_is h
        rw [Bool.and_eq_true] at hs
        obtain ⟨ca, h1, h⟩ := bd_is h
        obtain ⟨cb, h2, h⟩ := bd_is h
        cases h
        have ex := of_decide_eq_true e.1.1
        subst ex
        obtain ⟨g1, g2⟩ := bltin_is G e.1.2
        obtain ⟨_, _, _, et⟩ := isTup_is e.2
        subst et
        exact i_zip G.K g1 g2 hs.1 hs.2 (K.E Γ X G _ _ h1 n) (K.E Γ X G _ _ h2 n)
      · exact over h
  · obtain ⟨hs, h⟩ := gd_is h
    rw [Bool.and_eq_true, Bool.and_eq_true] at hs
    obtain ⟨ca, h1, h⟩ := bd_is h
    cases h
    have ex := of_decide_eq_true hs.1.1
    subst ex
    refine i_keys (fun td he => pi_keysMT he (base_of hs.2 _ _ _) hs.1.2) (fun td he => pi_keysM he (base_of hs.2 _ _ _) hs.1.2) ?_
    cases n with
    | zero => exact stuck0
    | succ n => exact s_lk (rec := evE call n) (K.E Γ X G _ _ h1 n)
  · exact over h
theorem ifs_of (K : COk c call C) (G : Good c call Γ X) {ifs : List Expr} {co : Option CB} (h : cIfs C Γ ifs = some co) (n : Nat) : PTs X ifs (tIf' c (evE call n) co) := by
  unfold cIfs at h
  split at h
  · cases h
    exact pts_of (.inl ⟨rfl, rfl⟩)
  · obtain ⟨cb, h1, h⟩ := bd_is h
    cases h
    exact pts_of (.inr ⟨_, cb, rfl, rfl, K.B Γ X G _ _ h1 n⟩)
  · cases h
theorem itK_of (G : Good c call Γ X) {tg it : Expr} {i : Nat} {ci : CI} (h : cItK Γ it = some (i, ci)) (n : Nat) : PI X tg it (tI c (evI (evE call n) ci)) := by
  unfold cItK at h
  obtain ⟨⟨x, b⟩, h1, h⟩ := bd_is h
  obtain ⟨j, h2, h⟩ := bd_is h
  cases h
  obtain ⟨q1, q2, q3, q4⟩ := cVar_is G h2
  have hv : ∀ p, PE X (.Name x p) (tE c (evE call n (.var i))) := fun p => by
    cases n with
    | zero => exact stuck0
    | succ n => exact s_var (rec := evE call n) q1 q2 q3 q4
  rcases kyOf_is h1 with ⟨p, e⟩ | ⟨p, apos, cpos, e, hl⟩
  · subst e
    exact i_keys (fun td he => pi_keysD he) (fun td he => pi_keysDK he) (hv p)
  · subst e
    exact i_keys (e := .Name x p) (fun td he => pi_keysMT he (base_of rfl _ _ _) hl) (fun td he => pi_keysM he (base_of rfl _ _ _) hl) (hv p)
theorem lc_parts {fi : Expr → Expr → Option CI} {elt : Expr} {gens : List Comprehension} {scope : Scope} {ce : CE} (h : cLcG C Γ fi elt gens scope = some ce) : ∃ tg iter ifs ci ct co celt, gens = [⟨tg, iter, ifs, 0⟩] ∧ ce = .lc ci ct ((ownOf Γ scope).map (·.2)) co celt ∧
    blkC Γ.N (fkS Γ.names) scope (ownOf Γ scope) = true ∧ noSet iter = true ∧ fi tg iter = some ci ∧ cTgt 9 { Γ with names := scope.names } tg = some ct ∧ cIfs C { Γ with names := scope.names } ifs = some co ∧ C.E { Γ with names := scope.names } elt = some celt := by
  unfold cLcG at h
  split at h
  · obtain ⟨h1, h⟩ := gd_is h
    rw [Bool.and_eq_true] at h1
    obtain ⟨ci, h2, h⟩ := bd_is h
    obtain ⟨ct, h3, h⟩ := bd_is h
    obtain ⟨co, h4, h⟩ := bd_is h
    obtain ⟨ce', h5, h⟩ := bd_is h
    cases h
    exact ⟨_, _, _, _, _, _, _, rfl, rfl, h1.1, h1.2, h2, h3, h4, h5⟩
  · cases h
theorem lc_ok (K : COk c call C) (G : Good c call Γ X) {elt : Expr} {gens : List Comprehension} {scope : Scope} {ce : CE} {pos : Pos} (h : cLc C Γ elt gens scope = some ce) (n : Nat) : PE X (.ListComp elt gens scope pos) (tE c (evE call (n + 1) ce)) := by
  obtain ⟨tg, iter, ifs, ci, ct, co, celt, rfl, rfl, h1, h2, h3, h4, h5, h6⟩ := lc_parts h
  exact s_lc (own := ownOf Γ scope) rfl G.calm G.nd (it_of K G h3 n) (blk_of G h1) (fun s H C cl fp => tgt_of 9 (good_blk G s H scope C cl fp) _ _ h4) (fun s H C cl fp => ifs_of K (good_blk G s H scope C cl fp) h5 n)
    (fun s H C cl fp => K.E _ _ (good_blk G s H scope C cl fp) _ _ h6 n) (fun x => set_of h2 _ x)
theorem lcK_ok (K : COk c call C) (G : Good c call Γ X) {elt : Expr} {gens : List Comprehension} {scope : Scope} {ce : CE} {pos : Pos} (h : cLcK C Γ elt gens scope = some ce) (n : Nat) : PE X (.ListComp elt gens scope pos) (tE c (evE call (n + 1) ce)) := by
  unfold cLcK at h
  split at h
  · obtain ⟨⟨i, ci0⟩, h0, h⟩ := bd_is h
    obtain ⟨ce1, h1, h⟩ := bd_is h
    cases h
    refine s_lockE (rec := evE call n) ?_
    cases n with
    | zero => exact stuck0
    | succ n =>
      obtain ⟨tg, iter, ifs, ci, ct, co, celt, e1, e2, g1, h2, h3, h4, h5, h6⟩ := lc_parts h1
      cases e1
      subst e2
      obtain ⟨⟨j, ci1⟩, g3, h7⟩ := bd_is h3
      have h7 : ci1 = ci := Option.some.inj h7
      clear h3 h1
      subst h7
      exact s_lc (own := ownOf Γ scope) rfl G.calm G.nd (itK_of G g3 n) (blk_of G g1) (fun s H C cl fp => tgt_of 9 (good_blk G s H scope C cl fp) _ _ h4) (fun s H C cl fp => ifs_of K (good_blk G s H scope C cl fp) h5 n)
        (fun s H C cl fp => K.E _ _ (good_blk G s H scope C cl fp) _ _ h6 n) (fun x => set_of h2 _ x)
  · cases h
theorem lc2_parts {elt : Expr} {gens : List Comprehension} {scope : Scope} {ce : CE} (h : cLc2 C Γ elt gens scope = some ce) : ∃ tg iter tg1 iter1 ci ct ci1 ct1 celt, gens = [⟨tg, iter, [], 0⟩, ⟨tg1, iter1, [], 0⟩] ∧ ce = .lc2 ci ct ci1 ct1 ((ownOf Γ scope).map (·.2)) (ctSl ct1) celt ∧ (∀ i ∈ ctSl ct1, i ∈ (ownOf Γ scope).map (·.2)) ∧
    blkC Γ.N (fkS Γ.names) scope (ownOf Γ scope) = true ∧ noSet iter = true ∧ noSet iter1 = true ∧ cIt C Γ tg iter = some ci ∧ cTgt 9 { Γ with names := scope.names } tg = some ct ∧ cIt C { Γ with names := scope.names } tg1 iter1 = some ci1 ∧ cTgt 9 { Γ with names := scope.names } tg1 = some ct1 ∧ C.E { Γ with names := scope.names } elt = some celt := by
  unfold cLc2 at h
  split at h
  · obtain ⟨h1, h⟩ := gd_is h
    rw [Bool.and_eq_true, Bool.and_eq_true] at h1
    obtain ⟨ci, h2, h⟩ := bd_is h
    obtain ⟨ct, h3, h⟩ := bd_is h
    obtain ⟨ci1, h4, h⟩ := bd_is h
    obtain ⟨ct1, h5, h⟩ := bd_is h
    obtain ⟨ce', h6, h⟩ := bd_is h
    obtain ⟨h7, h⟩ := gd_is h
    cases h
    rw [List.all_eq_true] at h7
    exact ⟨_, _, _, _, _, _, _, _, _, rfl, rfl, fun i hi => List.mem_of_elem_eq_true (h7 i hi), h1.1.1, h1.1.2, h1.2, h2, h3, h4, h5, h6⟩
  · cases h
theorem lc2_ok (K : COk c call C) (G : Good c call Γ X) {elt : Expr} {gens : List Comprehension} {scope : Scope} {ce : CE} {pos : Pos} (h : cLc2 C Γ elt gens scope = some ce) (n : Nat) : PE X (.ListComp elt gens scope pos) (tE c (evE call (n + 1) ce)) := by
  obtain ⟨tg, iter, tg1, iter1, ci, ct, ci1, ct1, celt, rfl, rfl, hv, h1, h2, h2', h3, h4, h5, h6, h7⟩ := lc2_parts h
  exact s_lc2 (own := ownOf Γ scope) rfl hv G.calm G.nd (it_of K G h3 n) (blk_of G h1) (fun s H C cl fp => tgt_of 9 (good_blk G s H scope C cl fp) _ _ h4) (fun s H C cl fp => it_of K (good_blk G s H scope C cl fp) h5 n)
    (fun s H C cl fp => tgt_of 9 (good_blk G s H scope C cl fp) _ _ h6) (fun s H C cl fp => K.E _ _ (good_blk G s H scope C cl fp) _ _ h7 n) (fun x => set_of h2 _ x) fun env x => set_of h2' env x
theorem ands_of (K : COk c call C) (G : Good c call Γ X) {pos : Pos} : ∀ {es : List Expr} {ce : CE}, cAnds (C.E Γ) es = some ce → ∀ n, PE X (.BoolOp .And es pos) (tE c (evE call n ce))
  | [], _, h, _ => by cases h
  | [a], _, h, n => pe_one (K.E Γ X G _ _ h n)
  | a :: b :: r, _, h, n => by
    obtain ⟨x, h1, h⟩ := bd_is h
    obtain ⟨y, h2, h⟩ := bd_is h
    cases h
    cases n with
    | zero => exact stuck0
    | succ n => exact s_and (K.E Γ X G _ _ h1 n) (ands_of K G h2 n)
theorem ors_of (K : COk c call C) (G : Good c call Γ X) {pos : Pos} : ∀ {es : List Expr} {ce : CE}, cOrs (C.E Γ) es = some ce → ∀ n, PE X (.BoolOp .Or es pos) (tE c (evE call n ce))
  | [], _, h, _ => by cases h
  | [a], _, h, n => pe_one (K.E Γ X G _ _ h n)
  | a :: b :: r, _, h, n => by
    obtain ⟨x, h1, h⟩ := bd_is h
    obtain ⟨y, h2, h⟩ := bd_is h
    cases h
    cases n with
    | zero => exact stuck0
    | succ n => exact s_or (K.E Γ X G _ _ h1 n) (ors_of K G h2 n)
theorem bands_of (K : COk c call C) (G : Good c call Γ X) {pos : Pos} (n : Nat) : ∀ {es : List Expr} {cb : CB}, bAnds (C.B Γ) es = some cb → PW X (.BoolOp .And es pos) (tB' c (evB (evE call n) cb))
  | [], _, h => by cases h
  | [a], _, h => pw_and1 (K.B Γ X G _ _ h n)
  | a :: b :: r, _, h => by
    obtain ⟨x, h1, h⟩ := bd_is h
    obtain ⟨y, h2, h⟩ := bd_is h
    cases h
    exact b_and (K.B Γ X G _ _ h1 n) (bands_of K G n h2)
theorem bors_of (K : COk c call C) (G : Good c call Γ X) {pos : Pos} (n : Nat) : ∀ {es : List Expr} {cb : CB}, bOrs (C.B Γ) es = some cb → PW X (.BoolOp .Or es pos) (tB' c (evB (evE call n) cb))
  | [], _, h => by cases h
  | [a], _, h => pw_or1 (K.B Γ X G _ _ h n)
  | a :: b :: r, _, h => by
    obtain ⟨x, h1, h⟩ := bd_is h
    obtain ⟨y, h2, h⟩ := bd_is h
    cases h
    exact b_or (K.B Γ X G _ _ h1 n) (bors_of K G n h2)
theorem callv_of (K : COk c call C) (G : Good c call Γ X) {x : Str} {es : List Expr} {ce : CE} {p pos : Pos} (h : cCallV C Γ x es = some ce) (n : Nat) : PE X (.Call (.Name x p) es [] pos) (tE c (evE call (n + 1) ce)) := by
  unfold cCallV at h
  obtain ⟨h1, h⟩ := gd_is h
  rw [Bool.and_eq_true, Bool.not_eq_true'] at h1
  obtain ⟨i, h2, h⟩ := bd_is h
  obtain ⟨cs, h3, h⟩ := bd_is h
  cases h
  obtain ⟨q1, q2, q3, q4⟩ := cVar_is G h2
  have hp := pes_of (fun e ce q => K.E Γ X G e ce q n) h1.1 h3
  refine ⟨fun pins s σ H Q I ⟨f, h', st, r, rs, p⟩ => ?_⟩
  have pp : Post c f h'.n H (eCallV call (evE call n) i cs st h') (VQ c Q) := p
  clear p
  unfold eCallV at pp
  split at pp
  · rename_i k e0
    obtain ⟨w, e2, rv⟩ := rs.2 _ _ e0
    cases rv
    split at pp
    · rename_i hlt
      split at pp
      · exact pp.elim
      · rename_i vs hh1 e1
        have hns : call k vs hh1 ≠ .stuck := fun z => by rw [z] at pp; exact pp
        obtain ⟨y, fd, ps, lvl, a1, a2, a3, a4, a5⟩ := G.fnv k vs hh1 hns (Nat.le_of_ble_eq_true hlt)
        cases hp with
        | nil => have z := h1.2; cases z
        | cons hs he ht =>
          refine (pe_callL (i := i) (a5.imp fun _ _ _ _ z => .inl z) a4 q1 q2 a2 a3 .nil passL (pa_of (.cons hs he ht)) q3 q4 (star_of hs _ X.env) (plain_args ht _ X.env)).run pins s σ H Q I ⟨e2, tA_of e1 r rs fun f1 H1 ws x1 r1 rs1 rv1 => ?_⟩
          refine ⟨?_, f1, hh1, vs, r1, ?_, pp.mono x1⟩
          · rw [List.append_nil]; exact rv1.length.symm
          · rw [List.append_nil]; exact rv1
    · exact pp.elim
  · exact pp.elim
theorem keysOf_is : ∀ {ks : List (Option Expr)} {es : List Expr}, keysOf ks = some es → ks = es.map some
  | [], es, h => by cases h; rfl
  | some k :: r, es, h => by
    obtain ⟨ks, h1, h⟩ := bd_is h
    cases h
    rw [keysOf_is h1]
    rfl
  | none :: r, es, h => by cases h
theorem pds_of {rec : CE → PSt → PH → R PV} {f : Expr → Option CE} (hf : ∀ e ce, f e = some ce → PE X e (tE c (rec ce))) : ∀ {ks vs : List Expr} {cks cvs : List CE}, ks.length = vs.length → cEs f ks = some cks → cEs f vs = some cvs → PDs X c rec (ks.map some) vs cks cvs
  | [], [], _, _, _, h1, h2 => by cases h1; cases h2; exact .nil
  | [], _ :: _, _, _, h, _, _ => by cases h
  | _ :: _, [], _, _, h, _, _ => by cases h
  | k :: ks, v :: vs, _, _, h, h1, h2 => by
    obtain ⟨a, a1, h1⟩ := bd_is h1
    obtain ⟨b, a2, h1⟩ := bd_is h1
    cases h1
    obtain ⟨d, a3, h2⟩ := bd_is h2
    obtain ⟨e, a4, h2⟩ := bd_is h2
    cases h2
    exact .cons (hf _ _ a1) (hf _ _ a3) (pds_of hf (Nat.succ.inj h) a2 a4)
theorem disp_of (K : COk c call C) (G : Good c call Γ X) {ks : List (Option Expr)} {vs : List Expr} {ce : CE} {pos : Pos} (h : cDisp C Γ ks vs = some ce) (n : Nat) : PE X (.Dict ks vs pos) (tE c (evE call (n + 1) ce)) := by
  unfold cDisp at h
  obtain ⟨h1, h⟩ := gd_is h

  rw [Bool.and_eq_true, Bool.not_eq_true'] at h1
  obtain ⟨es, h2, h⟩ := bd_is h
  obtain ⟨cks, h3, h⟩ := bd_is h
  obtain ⟨cvs, h4, h⟩ := bd_is h
  obtain ⟨h5, h⟩ := gd_is h
  cases h
  have e := keysOf_is h2
  subst e
  refine s_disp (pds_of (fun e ce q => K.E Γ X G e ce q n) (of_decide_eq_true h5) h3 h4) (fun z => ?_) (Nat.le_of_ble_eq_true h1.1)
  rw [z] at h1
  cases h1.2
theorem dict_of (K : COk c call C) (G : Good c call Γ X) {ks : List (Option Expr)} {vs : List Expr} {ce : CE} {pos : Pos} (h : cDict C Γ ks vs pos = some ce) (n : Nat) : PE X (.Dict ks vs pos) (tE c (evE call (n + 1) ce)) := by
  unfold cDict at h
  split at h
  · cases h
    exact s_dnew
  · split at h
    · obtain ⟨ck, h1, h⟩ := bd_is h
      obtain ⟨cv, h2, h⟩ := bd_is h
      cases h
      exact s_dispT G.units (K.E Γ X G _ _ h1 n) (K.E Γ X G _ _ h2 n)
    · exact disp_of K G h n
  · exact disp_of K G h n
theorem isOne_is {e : Expr} (h : isOne e = true) : ∃ k p1 p2, e = .UnaryOp .USub (.Constant (.int 1) k p1) p2 := by
  unfold isOne at h
  split at h
  · exact ⟨_, _, _, rfl⟩
  · cases h
theorem call_of (K : COk c call C) (G : Good c call Γ X) {x : Str} {es : List Expr} {ce : CE} {p pos : Pos} (h : cCall C Γ x es = some ce) (n : Nat) : PE X (.Call (.Name x p) es [] pos) (tE c (evE call (n + 1) ce)) := by
  unfold cCall at h
  split at h
  · exact callv_of K G h n
  split at h
  · rename_i k ar e
    obtain ⟨h1, h⟩ := gd_is h
    simp only [Bool.and_eq_true, Bool.not_eq_true', decide_eq_true_eq] at h1
    obtain ⟨cs, h2, h⟩ := bd_is h
    cases h
    obtain ⟨fd, ps, lvl, a1, a2, a3, a4, a5⟩ := G.fns _ _ _ e
    exact s_call (a5.imp fun _ _ _ _ z => .inl z) h1.2 a4 (G.gl _ h1.1.1.1) a1 a2 a3 h1.1.1.2 (pes_of (fun e ce q => K.E Γ X G e ce q n) h1.1.2 h2)
  · obtain ⟨hb, h'⟩ := gd_is h
    clear h
    have h := h'
    clear h'
    obtain ⟨g1, g2⟩ := bltin_is G hb
    split at h
    · rename_i e
      have e := of_decide_eq_true e
      subst e
      unfold cIsi at h
      split at h
      · obtain ⟨h1, h⟩ := gd_is h
        rw [Bool.and_eq_true] at h1
        obtain ⟨ty, h2, h⟩ := bd_is h
        obtain ⟨ca, h3, h⟩ := bd_is h
        cases h
        obtain ⟨g3, g4⟩ := bltin_is G h1.2
        exact s_isi G.K h1.1 (K.E Γ X G _ _ h3 n) (tyOf_is h2) g3 g4 g1 g2
      · obtain ⟨h1, h⟩ := gd_is h
        rw [Bool.and_eq_true, Bool.and_eq_true] at h1
        obtain ⟨ty, h2, h⟩ := bd_is h
        obtain ⟨uy, h4, h⟩ := bd_is h
        obtain ⟨ca, h3, h⟩ := bd_is h
        cases h
        obtain ⟨g3, g4⟩ := bltin_is G h1.1.2
        obtain ⟨g5, g6⟩ := bltin_is G h1.2
        exact s_isis G.K h1.1.1 (K.E Γ X G _ _ h3 n) (tyOf_is h2) g3 g4 (tyOf_is h4) g5 g6 g1 g2
      · cases h
    · split at h
      · rename_i aa bb e
        obtain ⟨ex, p2, q2, ees⟩ := lrgOf_is e
        subst ex
        subst ees
        obtain ⟨h1, h⟩ := gd_is h
        rw [Bool.and_eq_true, Bool.and_eq_true] at h1
        obtain ⟨ca, h2, h⟩ := bd_is h
        obtain ⟨cb, h3, h⟩ := bd_is h
        cases h
        obtain ⟨g3, g4⟩ := bltin_is G h1.1.1
        exact s_lrg G.calm g1 g2 g3 g4 h1.1.2 h1.2 (K.E Γ X G _ _ h2 n) (K.E Γ X G _ _ h3 n)
      split at h
      · rename_i bb e
        obtain ⟨ex, p2, q2, ees⟩ := lrg1Of_is e
        subst ex
        subst ees
        obtain ⟨h1, h⟩ := gd_is h
        rw [Bool.and_eq_true] at h1
        obtain ⟨cb, h3, h⟩ := bd_is h
        cases h
        obtain ⟨g3, g4⟩ := bltin_is G h1.1
        exact s_lrg1 G.calm g1 g2 g3 g4 h1.2 (K.E Γ X G _ _ h3 n)
      split at h
      · rename_i bb e
        obtain ⟨ex, p2, q2, ees⟩ := trgOf_is e
        subst ex
        subst ees
        obtain ⟨h1, h⟩ := gd_is h
        rw [Bool.and_eq_true] at h1
        obtain ⟨cb, h3, h⟩ := bd_is h
        cases h
        obtain ⟨g3, g4⟩ := bltin_is G h1.1
        exact s_trg G.calm g1 g2 g3 g4 h1.2 (K.E Γ X G _ _ h3 n)
      split at h
      · rename_i aa e
        obtain ⟨ex, p2, q2, ees, hl, hnb⟩ := skOf_is e
        subst ex
        subst ees
        obtain ⟨ca, h3, h⟩ := bd_is h
        cases h
        exact s_skeys G.K G.calm hnb hl g1 g2 (K.E Γ X G _ _ h3 n)
      split at h
      · rename_i aa e
        obtain ⟨ex, p2, q2, ees, hl, hnb⟩ := vlOf_is e
        subst ex
        subst ees
        obtain ⟨ca, h3, h⟩ := bd_is h
        cases h
        exact s_vals G.calm hnb hl g1 g2 (K.E Γ X G _ _ h3 n)
      obtain ⟨h1, h⟩ := gd_is h
      rw [Bool.and_eq_true] at h1
      obtain ⟨b, h2, h⟩ := bd_is h
      obtain ⟨cs, h3, h⟩ := bd_is h
      cases h
      refine s_bi G.K G.W G.calm (biOf_is h2) g1 g2 (pes_of (fun e ce q => K.E Γ X G e ce q n) h1.1 h3) fun z => ?_
      rw [z] at h1
      cases h1.2
theorem cop_is {op : CmpOp} {b : Expr} {o : Cop} (h : copOf op b = some o) : op = opC o := by
  cases op <;> cases h <;> rfl
theorem bop_is {op : Operator} {o : Bop} (h : bopOf op = some o) : op = opB o := by
  cases op <;> cases h <;> rfl
theorem last_of {o1 o2 : CmpOp} {b d : Expr} (h : noSet d = true) : lastMarks [o1, o2] [b, d] = false := mark_of h o2
theorem last_of3 {o1 o2 o3 : CmpOp} {b d e : Expr} (h : noSet e = true) : lastMarks [o1, o2, o3] [b, d, e] = false := mark_of h o3
theorem three_is {p q r : Cop} {x y z u : CE} {cb : CB} (h : three p q r x y z u = some cb) : ∃ i j, y = .var i ∧ z = .var j ∧ cb = .and (.bl (.cmp p x (.var i))) (.and (.bl (.cmp q (.var i) (.var j))) (.bl (.cmp r (.var j) u))) := by
  unfold three at h
  split at h
  · split at h
    · exact ⟨_, _, rfl, rfl, (Option.some.inj h).symm⟩
    · exact nomatch h
  · exact nomatch h
theorem step_ok (K : COk c call C) : COk c call (stepC C) where
  E := fun Γ X G e ce h n => by
    cases n with
    | zero => exact stuck0
    | succ n =>
      have ih : ∀ e ce, C.E Γ e = some ce → PE X e (tE c (evE call n ce)) := fun e ce q => K.E Γ X G e ce q n
      have ihb : ∀ e cb, C.B Γ e = some cb → PT X e (tB' c (evB (evE call n) cb)) := fun e cb q => K.B Γ X G e cb q n
      unfold stepC at h
      dsimp only at h
      split at h
      · -- names
        split at h
        · obtain ⟨i, h1, h⟩ := bd_is h
          cases h
          obtain ⟨q1, q2, q3, q4⟩ := cVar_is G h1
          exact s_var (rec := evE call n) q1 q2 q3 q4
        · obtain ⟨h1, h⟩ := gd_is h
          rw [Bool.and_eq_true] at h1
          unfold cGlob at h
          split at h
          · rename_i v h2
            cases h
            obtain ⟨u, w, a1, a2, a3⟩ := G.consts _ _ h2
            exact s_const (rec := evE call n) (pe_glob (G.gl _ h1.1) a1 a2 (okName_is h1.2).1) a3
          · obtain ⟨⟨k, ar⟩, h2, h⟩ := bd_is h
            cases h
            obtain ⟨fd, ps, lvl, a1, a2, a3, a4, a5⟩ := G.fns _ _ _ h2
            exact s_const (rec := evE call n) (pe_glob (v := .ref (c.F k)) (G.gl _ h1.1) a1 rfl (okName_is h1.2).1) fun _ _ _ => .fn k
      · cases h; exact s_const (rec := evE call n) pe_int fun _ _ _ => .int _
      · cases h; exact s_const (rec := evE call n) pe_bl fun _ _ _ => .bl _
      · cases h; exact s_const (rec := evE call n) pe_non fun _ _ _ => .non
      · cases h; exact s_const (rec := evE call n) pe_str fun _ _ _ => .str _
      · obtain ⟨o, h1, h⟩ := bd_is h
        obtain ⟨x, h2, h⟩ := bd_is h
        obtain ⟨y, h3, h⟩ := bd_is h
        cases h
        have e := bop_is h1
        subst e
        exact s_bin G.K o (ih _ _ h2) (ih _ _ h3)
      · obtain ⟨x, h1, h⟩ := bd_is h
        cases h
        exact s_neg (ih _ _ h1)
      · obtain ⟨x, h1, h⟩ := bd_is h
        cases h
        exact s_not (ih _ _ h1)
      · -- one comparison
        split at h
        · rename_i hem
          obtain ⟨e1, p2, e2⟩ := isEmD_is hem
          subst e1
          subst e2
          obtain ⟨x, h1, h⟩ := bd_is h
          cases h
          exact s_isE G.units (mark_of rfl _) (ih _ _ h1)
        split at h
        · obtain ⟨hs, h⟩ := gd_is h
          obtain ⟨x, h1, h⟩ := bd_is h
          obtain ⟨y, h2, h⟩ := bd_is h
          cases h
          exact s_in G.K G.units false (mark_of hs _) (ih _ _ h1) (ih _ _ h2)
        · obtain ⟨hs, h⟩ := gd_is h
          obtain ⟨x, h1, h⟩ := bd_is h
          obtain ⟨y, h2, h⟩ := bd_is h
          cases h
          exact s_in G.K G.units true (mark_of hs _) (ih _ _ h1) (ih _ _ h2)
        · obtain ⟨hs, h⟩ := gd_is h
          obtain ⟨o, h0, h⟩ := bd_is h
          obtain ⟨x, h1, h⟩ := bd_is h
          obtain ⟨y, h2, h⟩ := bd_is h
          cases h
          have e := cop_is h0
          subst e
          exact s_cmp G.K G.units o (mark_of hs _) (ih _ _ h1) (ih _ _ h2)
      · obtain ⟨hs, h⟩ := gd_is h
        obtain ⟨o1, h0, h⟩ := bd_is h
        obtain ⟨o2, h0', h⟩ := bd_is h
        obtain ⟨x, h1, h⟩ := bd_is h
        obtain ⟨y, h2, h⟩ := bd_is h
        obtain ⟨z, h3, h⟩ := bd_is h
        cases h
        have e1 := cop_is h0
        have e2 := cop_is h0'
        subst e1
        subst e2
        exact s_chain G.K G.units o1 o2 (last_of hs) (ih _ _ h1) (ih _ _ h2) (ih _ _ h3)
      · exact ands_of K G h (n + 1)
      · exact ors_of K G h (n + 1)
      · obtain ⟨x, h1, h⟩ := bd_is h
        obtain ⟨y, h2, h⟩ := bd_is h
        obtain ⟨z, h3, h⟩ := bd_is h
        cases h
        exact s_ite (ihb _ _ h1) (ih _ _ h2) (ih _ _ h3)
      · obtain ⟨hs, h⟩ := gd_is h
        obtain ⟨cs, h1, h⟩ := bd_is h
        cases h
        exact s_tup (pes_of ih hs h1)
      · obtain ⟨hs, h⟩ := gd_is h
        obtain ⟨cs, h1, h⟩ := bd_is h
        cases h
        exact s_lst (pes_of ih hs h1)
      · split at h
        · rename_i q hq
          obtain ⟨lp, e⟩ := lamOf_is hq
          subst e
          exact lam_ok K G h n
        · exact call_of K G h n
      · -- methods
        obtain ⟨hs, h⟩ := gd_is h
        rw [Bool.and_eq_true] at hs
        rename_i hold
        split at h
        · rename_i em
          have em := of_decide_eq_true em
          clear hold
          subst em
          split at h
          · obtain ⟨h1, h⟩ := gd_is h
            rw [Bool.and_eq_true] at h1
            obtain ⟨co, h2, h⟩ := bd_is h
            obtain ⟨ck, h3, h⟩ := bd_is h
            obtain ⟨cx, h4, h⟩ := bd_is h
            cases h
            exact s_get2 G.units hs.1 h1.1 h1.2 hs.2 (ih _ _ h2) (ih _ _ h3) (ih _ _ h4)
          · cases h
        obtain ⟨mt, h0, h⟩ := bd_is h
        have em := mtOf_is h0
        split at h
        · obtain ⟨h1, h⟩ := gd_is h
          obtain ⟨x, h2, h⟩ := bd_is h
          obtain ⟨y, h3, h⟩ := bd_is h
          cases h
          subst em
          exact s_append G.K hs.1 h1 hs.2 (ih _ _ h2) (ih _ _ h3)
        · obtain ⟨h1, h⟩ := gd_is h
          obtain ⟨x, h2, h⟩ := bd_is h
          obtain ⟨y, h3, h⟩ := bd_is h
          cases h
          subst em
          exact s_count G.K hs.1 h1 hs.2 (ih _ _ h2) (ih _ _ h3)
        · obtain ⟨h1, h⟩ := gd_is h
          obtain ⟨x, h2, h⟩ := bd_is h
          obtain ⟨y, h3, h⟩ := bd_is h
          cases h
          subst em
          exact s_index G.K G.units hs.1 h1 hs.2 (ih _ _ h2) (ih _ _ h3)
        · obtain ⟨x, h2, h⟩ := bd_is h
          cases h
          subst em
          exact s_pop G.K hs.1 hs.2 (ih _ _ h2)
        · cases h
      · -- slices
        obtain ⟨x, h1, h⟩ := bd_is h
        obtain ⟨l, h2, h⟩ := bd_is h
        obtain ⟨u, h3, h⟩ := bd_is h
        cases h
        have part : ∀ {o : Option Expr} {p : Option CE}, cOpt (C.E Γ) o = some p → L2.PO X o (tO' c (evO (evE call n) p)) := fun {o p} q => by
          cases o with
          | none => cases q; exact po_no
          | some e =>
            obtain ⟨ce, q1, q⟩ := bd_is q
            cases q
            exact po_so (ih _ _ q1)
        exact s_sl G.K (ih _ _ h1) (part h2) (part h3)
      · obtain ⟨hs, h⟩ := gd_is h
        obtain ⟨x, h1, h⟩ := bd_is h
        cases h
        obtain ⟨k, p1, p2, e⟩ := isOne_is hs
        subst e
        exact s_rev G.K (ih _ _ h1)
      · exact dict_of K G h n
      · obtain ⟨hs, h⟩ := gd_is h
        obtain ⟨x, h1, h⟩ := bd_is h
        obtain ⟨y, h2, h⟩ := bd_is h
        cases h
        exact s_ix G.K G.units hs (ih _ _ h1) (ih _ _ h2)
      · split at h
        · exact lcK_ok K G h n
        · split at h
          · exact lc2_ok K G h n
          · exact lc_ok K G h n
      · cases h
  B := fun Γ X G e cb h n => by
    have ih : ∀ e ce, C.E Γ e = some ce → PE X e (tE c (evE call n ce)) := fun e ce q => K.E Γ X G e ce q n
    have ihb : ∀ e cb, C.B Γ e = some cb → PT X e (tB' c (evB (evE call n) cb)) := fun e cb q => K.B Γ X G e cb q n
    unfold stepC at h
    dsimp only at h
    split at h
    · obtain ⟨x, h1, h⟩ := bd_is h
      cases h
      exact b_not (ihb _ _ h1)
    · exact (bands_of K G n h).pt
    · exact (bors_of K G n h).pt
    · cases n with
      | zero => exact stuckB0
      | succ n =>
        have ih : ∀ e ce, C.E Γ e = some ce → PE X e (tE c (evE call n ce)) := fun e ce q => K.E Γ X G e ce q n
        split at h
        · rename_i hem
          obtain ⟨e1, p2, e2⟩ := isEmD_is hem
          subst e1
          subst e2
          obtain ⟨x, h1, h⟩ := bd_is h
          cases h
          exact b_bl (b_isE G.units (mark_of rfl _) (ih _ _ h1)) rd_isE
        split at h
        · obtain ⟨hs, h⟩ := gd_is h
          obtain ⟨x, h1, h⟩ := bd_is h
          obtain ⟨y, h2, h⟩ := bd_is h
          cases h
          exact b_bl (pt_cmpR (op_inP G.K G.units false) (ih _ _ h1) (ih _ _ h2) (mark_of hs _)) (rd_in false)
        · obtain ⟨hs, h⟩ := gd_is h
          obtain ⟨x, h1, h⟩ := bd_is h
          obtain ⟨y, h2, h⟩ := bd_is h
          cases h
          exact b_bl (pt_cmpR (op_inP G.K G.units true) (ih _ _ h1) (ih _ _ h2) (mark_of hs _)) (rd_in true)
        · obtain ⟨hs, h⟩ := gd_is h
          obtain ⟨o, h0, h⟩ := bd_is h
          obtain ⟨x, h1, h⟩ := bd_is h
          obtain ⟨y, h2, h⟩ := bd_is h
          cases h
          have e := cop_is h0
          subst e
          exact b_bl (pt_cmpR (op_cmp G.K G.units o) (ih _ _ h1) (ih _ _ h2) (mark_of hs _)) (rd_cmp o)
    · cases n with
      | zero => exact stuckB0
      | succ n =>
        have ih : ∀ e ce, C.E Γ e = some ce → PE X e (tE c (evE call n ce)) := fun e ce q => K.E Γ X G e ce q n
        obtain ⟨hs, h⟩ := gd_is h
        obtain ⟨o1, h0, h⟩ := bd_is h
        obtain ⟨o2, h0', h⟩ := bd_is h
        obtain ⟨x, h1, h⟩ := bd_is h
        obtain ⟨y, h2, h⟩ := bd_is h
        obtain ⟨z, h3, h⟩ := bd_is h
        cases h
        have e1 := cop_is h0
        have e2 := cop_is h0'
        subst e1
        subst e2
        exact b_bl (pt_chain (op_cmp G.K G.units o1) (op_cmp G.K G.units o2) (ih _ _ h1) (ih _ _ h2) (ih _ _ h3) (last_of hs)) (rd_chain o1 o2)
    · cases n with
      | zero => exact stuckB0
      | succ n =>
        have ih : ∀ e ce, C.E Γ e = some ce → PE X e (tE c (evE call n ce)) := fun e ce q => K.E Γ X G e ce q n
        obtain ⟨hs, h⟩ := gd_is h
        obtain ⟨o1, h0, h⟩ := bd_is h
        obtain ⟨o2, h0', h⟩ := bd_is h
        obtain ⟨o3, h0'', h⟩ := bd_is h
        obtain ⟨x, h1, h⟩ := bd_is h
        obtain ⟨y, h2, h⟩ := bd_is h
        obtain ⟨z, h3, h⟩ := bd_is h
        obtain ⟨u, h4, h⟩ := bd_is h
        obtain ⟨i, j, ey, ez, ec⟩ := three_is h
        have e1 := cop_is h0
        have e2 := cop_is h0'
        have e3 := cop_is h0''
        subst e1
        subst e2
        subst e3
        subst ey
        subst ez
        subst ec
        exact pt_w (pt_chain3 (op_cmp G.K G.units o1) (op_cmp G.K G.units o2) (op_cmp G.K G.units o3) (ih _ _ h1) (ih _ _ h2) (ih _ _ h3) (ih _ _ h4) (last_of3 hs)) (rd_threeC o1 o2 o3 i j)
    · obtain ⟨hs, h⟩ := gd_is h
      obtain ⟨x, h1, h⟩ := bd_is h
      cases h
      exact b_val G.K hs (ih _ _ h1)
theorem cmp_ok : ∀ m : Nat, COk c call (cmpN m)
  | 0 => ⟨fun _ _ _ _ _ h => (by cases h), fun _ _ _ _ _ h => (by cases h)⟩
  | m + 1 => step_ok (cmp_ok m)
end
end
end Pyx

namespace Pyx
open PySem PySem.Spec PyProof.Rows L2
def isStarE : Expr → Bool
  | .Starred .. => true
  | _ => false
def swapL (names : List (Str × NameKind)) (line : Nat) (ts : List Expr) : List Str := ts.filterMap fun
  | .Name id pos => if names.lookup id == some .local && pos.line == line then some id else none
  | _ => none
def swapV (names : List (Str × NameKind)) (ts vs : List Expr) : Option (Option (List Str)) :=
  if (!(ts.length == 2 || ts.length == 3) || vs.length != ts.length) = true then some none
  else if (vs.any isStarE) = true then some none
  else if ((swapL names ((ts.head?.map (·.pos.line)).getD 0) ts).length != ts.length || (swapL names ((ts.head?.map (·.pos.line)).getD 0) ts).eraseDups.length != (swapL names ((ts.head?.map (·.pos.line)).getD 0) ts).length) = true then some none
  else if (vs.all (foldedForSure 8)) = true then some none
  else if (vs.all (constantsAlone 8)) = true then none
  else some (some (swapL names ((ts.head?.map (·.pos.line)).getD 0) ts))
theorem block_fn {env : Env} (h : env.scope.kind = .function) : env.blockKind = .function := by
  unfold Env.blockKind
  rw [h]
  rfl
theorem swapV_ok {env : Env} {names : List (Str × NameKind)} {ts vs : List Expr} {k k2 : Nat} {p p2 : Pos} {r : Option (List Str)} (hk : env.scope.kind = .function) (hn : env.scope.names = names) (h : swapV names ts vs = some r) :
    swappedStores [.Tuple ts k p] (.Tuple vs k2 p2) env = pure r := by
  subst hn
  have hb := block_fn hk
  unfold swappedStores
  dsimp only
  rw [hb]
  unfold swapV at h
  have hf : (ScopeKind.function != ScopeKind.function) = false := rfl
  rw [hf, Bool.or_false]
  split at h
  · rename_i c
    cases h
    exact if_pos c
  · rename_i c
    refine (if_neg c).trans ?_
    split at h
    · rename_i c2
      cases h
      exact if_pos c2
    · rename_i c2
      refine (if_neg c2).trans ?_
      split at h
      · rename_i c3
        cases h
        exact if_pos c3
      · rename_i c3
        refine (if_neg c3).trans ?_
        split at h
        · rename_i c4
          cases h
          exact if_pos c4
        · rename_i c4
          refine (if_neg c4).trans ?_
          split at h
          · cases h
          · rename_i c5
            cases h
            exact if_neg c5
def cSs (f : Stmt → Option CS) : List Stmt → Option (List CS)
  | [] => some []
  | s :: ss => bd (cSs f ss) fun ks => some ((f s).getD .stuck :: ks)
def cPar (C : Cmp) (Γ : CEnv) (ts vs : List Expr) : Option CS := match ts, vs with
  | [.Name x _, .Name y _], [a, b] => gd (noStar a && noStar b && decide (Γ.names.lookup x = some .local) && decide (Γ.names.lookup y = some .local)) (bd (ixOf x Γ.N 0) fun i => bd (ixOf y Γ.N 0) fun j => gd (!decide (i = j)) (bd (C.E Γ a) fun ca => bd (C.E Γ b) fun cb => some (.par i j ca cb)))
  | [.Name x _, .Name y _, .Name z _], [a, b, d] => gd (noStar a && noStar b && noStar d && decide (Γ.names.lookup x = some .local) && decide (Γ.names.lookup y = some .local) && decide (Γ.names.lookup z = some .local)) (bd (ixOf x Γ.N 0) fun i => bd (ixOf y Γ.N 0) fun j => bd (ixOf z Γ.N 0) fun l =>
      gd (!decide (i = j) && !decide (i = l) && !decide (j = l)) (bd (C.E Γ a) fun ca => bd (C.E Γ b) fun cb => bd (C.E Γ d) fun cd => some (.par3 i j l ca cb cd)))
  | _, _ => none
def strsOf (ts : List Expr) : List Str := ts.filterMap fun
  | .Name x _ => some x
  | _ => none
def cPlain (C : Cmp) (Γ : CEnv) (tg e : Expr) : Option CS := gd ((noComp e || isTupT tg) && noStar tg) (bd (C.E Γ e) fun ce => bd (cTgt 9 Γ tg) fun t => some (.asg t ce))
def cAssign (C : Cmp) (Γ : CEnv) (tg e : Expr) : Option CS := match tg, e with
  | .Tuple ts _ _, .Tuple vs _ _ => match swapV Γ.names ts vs with
    | none => none
    | some none => cPlain C Γ tg e
    | some (some ns) => gd (decide (ns = strsOf ts)) (cPar C Γ ts vs)
  | .Subscript o i _, e => gd (noComp e && noSlice i) (bd (C.E Γ o) fun co => bd (C.E Γ i) fun ci => bd (C.E Γ e) fun ce => some (.setix co ci ce))
  | .Name y _, .ListComp elt gens scope lp => match Γ.dts.contains (posN lp) with
    | true => match gens with
      | [⟨_, iter, _, _⟩] => bd (cItK Γ iter) fun p => bd (cLcG C Γ (fun _ it => bd (cItK Γ it) fun q => some q.2) elt gens scope) fun ce => bd (cLoc Γ y) fun i => some (.lock p.1 (.asg (.nm i) ce))
      | _ => none
    | false => match gens with
      | [_, _] => bd (cLc2 C Γ elt gens scope) fun ce => bd (cLoc Γ y) fun i => some (.asg (.nm i) ce)
      | _ => bd (cLc C Γ elt gens scope) fun ce => bd (cLoc Γ y) fun i => some (.asg (.nm i) ce)
  | _, _ => cPlain C Γ tg e
def cmpS : Nat → Cmp → CEnv → Stmt → Option CS
  | 0, _, _, _ => none
  | m + 1, C, Γ, s => match s with
    | .Pass _ => some .pass
    | .Break _ => some .brk
    | .Continue _ => some .cont
    | .Return none _ => some .retN
    | .Return (some e) _ => bd (C.E Γ e) fun ce => some (.ret ce)
    | .Expr e _ => gd (noComp e) (bd (C.E Γ e) fun ce => some (.expr ce))
    | .Assign [tg] e _ => cAssign C Γ tg e
    | .AugAssign (.Subscript o i _) op e _ => gd (noSlice i) (bd (bopOf op) fun b => bd (C.E Γ o) fun co => bd (C.E Γ i) fun ci => bd (C.E Γ e) fun ce => some (.augix co ci b ce))
    | .AugAssign (.Name x _) op e _ => bd (bopOf op) fun o => bd (cLoc Γ x) fun i => bd (C.E Γ e) fun ce => some (.augn i o ce)
    | .If t a b _ => bd (C.B Γ t) fun ct => bd (cSs (cmpS m C Γ) a) fun ka => bd (cSs (cmpS m C Γ) b) fun kb => some (.ite ct ka kb)
    | .While t b [] _ => bd (C.B Γ t) fun ct => bd (cSs (cmpS m C Γ) b) fun kb => some (.while ct kb)
    | .For tg it b [] p => match Γ.dts.contains (posN p) with
     | true => gd (noSet it) (bd (cItK Γ it) fun q => bd (cTgt 9 Γ tg) fun t => bd (cSs (cmpS m C Γ) b) fun kb => some (.lock q.1 (.for t q.2 kb)))
     | false => gd (noSet it) (bd (cIt C Γ tg it) fun ci => bd (cTgt 9 Γ tg) fun t => bd (cSs (cmpS m C Γ) b) fun kb => some (.for t ci kb))
    | .Raise _ _ _ => some .stuck
    | .Try [b] [.ExceptHandler (some (.Name x _)) (some n) [hd] _] [] [] _ => bd (cmpS m C Γ b) fun kb => cTry C Γ kb x n b hd
    | .Try [b] [.ExceptHandler (some (.Name _ _)) none _ _] [] [] _ => bd (cmpS m C Γ b) fun kb => some (.ite (.val (.val (.bl true))) [kb] [])
    | _ => none
section
variable {c : Rc} {call : Nat → List PV → PH → R PV} {Γ : CEnv} {X : Cx}
structure GoodS (c : Rc) (call : Nat → List PV → PH → R PV) (Γ : CEnv) (X : Cx) : Prop extends Good c call Γ X where
  kind : X.env.scope.kind = .function
  names : X.env.scope.names = Γ.names
  stk : X.stack = X.env :: X.outer
  frm : X.env.frame = some X.env.locals
theorem GoodS.tr (G : GoodS c call Γ X) (pn : List (Addr × Obj)) : GoodS c call Γ (X.tr pn fun _ _ => False) :=
  { K := G.K, W := G.W, calm := G.calm, nd := G.nd, N := G.N, xe := rfl, vis := G.vis, loc := G.loc, fr := G.fr, gl := G.gl, fns := G.fns, fnv := G.fnv, consts := G.consts, nob := G.nob, units := G.units, exs := G.exs, lams := fun h => (let L := G.lams h; ⟨L.code, L.tab, L.qual, L.lvl, L.told⟩), kind := G.kind, names := G.names, stk := G.stk, frm := G.frm }
theorem stuckS0 {s : Stmt} {k : CS} : PS X s (tS c (evS call 0 k)) := t_stuck fun _ _ => rfl
section
variable {C : Cmp}
theorem plain_ok (K : COk c call C) (G : GoodS c call Γ X) {tg e : Expr} {k : CS} {pos : Pos} (hw : swappedStores [tg] e X.env = pure none) (h : cPlain C Γ tg e = some k) (n : Nat) : PS X (.Assign [tg] e pos) (tS c (evS call (n + 1) k)) := by
  obtain ⟨h1, h⟩ := gd_is h
  rw [Bool.and_eq_true] at h1
  obtain ⟨ce, h2, h⟩ := bd_is h
  obtain ⟨t, h3, h⟩ := bd_is h
  cases h
  have q : swapsWithSole [tg] e pos.line X.env = pure false := by
    rcases (Bool.or_eq_true _ _).mp h1.1 with z | z
    · exact comp_of z (some tg) pos.line X.env
    · obtain ⟨_, _, _, et⟩ := isTup_is z
      subst et
      cases e <;> rfl
  exact t_asg (n := n) (recS := evS call n) (K.E Γ X G.toGood _ _ h2 n) (tgt_of 9 G.toGood _ _ h3) q hw (by rw [aeach_of h1.2]; rfl)
theorem ix_of (G : Good c call Γ X) {x : Str} {i : Nat} (h : ixOf x Γ.N 0 = some i) : X.N[i]? = some x := by
  have q := (ixOf_is h).2
  rw [Nat.sub_zero, ← G.N] at q
  exact q
theorem assign_ok (K : COk c call C) (G : GoodS c call Γ X) {tg e : Expr} {k : CS} {pos : Pos} (h : cAssign C Γ tg e = some k) (n : Nat) : PS X (.Assign [tg] e pos) (tS c (evS call (n + 1) k)) := by
  unfold cAssign at h
  split at h
  · split at h
    · cases h
    · rename_i sw
      exact plain_ok K G (swapV_ok G.kind G.names sw) h n
    · rename_i ns sw
      obtain ⟨h0, h⟩ := gd_is h
      have h0 := of_decide_eq_true h0
      have hw := fun k k2 p p2 => swapV_ok (k := k) (k2 := k2) (p := p) (p2 := p2) G.kind G.names sw
      unfold cPar at h
      split at h
      · obtain ⟨h1, h⟩ := gd_is h
        simp only [Bool.and_eq_true, decide_eq_true_eq] at h1
        obtain ⟨i, h2, h⟩ := bd_is h
        obtain ⟨j, h3, h⟩ := bd_is h
        obtain ⟨h4, h⟩ := gd_is h
        obtain ⟨ca, h5, h⟩ := bd_is h
        obtain ⟨cb, h6, h⟩ := bd_is h
        cases h
        subst h0
        have h4 : i ≠ j := by simpa using h4
        exact t_par (n := n) (recS := evS call n) G.calm G.nd (ix_of G.toGood h2) (ix_of G.toGood h3) h4 (by rw [G.names]; exact h1.1.2) (by rw [G.names]; exact h1.2) h1.1.1.1 h1.1.1.2 (K.E Γ X G.toGood _ _ h5 n) (K.E Γ X G.toGood _ _ h6 n) (hw _ _ _ _)
      · obtain ⟨h1, h⟩ := gd_is h
        simp only [Bool.and_eq_true, decide_eq_true_eq] at h1
        obtain ⟨i, h2, h⟩ := bd_is h
        obtain ⟨j, h3, h⟩ := bd_is h
        obtain ⟨l, h3', h⟩ := bd_is h
        obtain ⟨h4, h⟩ := gd_is h
        obtain ⟨ca, h5, h⟩ := bd_is h
        obtain ⟨cb, h6, h⟩ := bd_is h
        obtain ⟨cd, h7, h⟩ := bd_is h
        cases h
        subst h0
        simp only [Bool.and_eq_true, Bool.not_eq_true', decide_eq_false_iff_not] at h4
        exact t_par3 (n := n) (recS := evS call n) G.calm G.nd (ix_of G.toGood h2) (ix_of G.toGood h3) (ix_of G.toGood h3') h4.1.1 h4.1.2 h4.2 (by rw [G.names]; exact h1.1.1.2) (by rw [G.names]; exact h1.1.2) (by rw [G.names]; exact h1.2) h1.1.1.1.1.1 h1.1.1.1.1.2 h1.1.1.1.2
          (K.E Γ X G.toGood _ _ h5 n) (K.E Γ X G.toGood _ _ h6 n) (K.E Γ X G.toGood _ _ h7 n) (hw _ _ _ _)
      · cases h
  · obtain ⟨h1, h⟩ := gd_is h
    rw [Bool.and_eq_true] at h1
    obtain ⟨co, h2, h⟩ := bd_is h
    obtain ⟨ci, h3, h⟩ := bd_is h
    obtain ⟨ce, h4, h⟩ := bd_is h
    cases h
    exact t_setix (n := n) (recS := evS call n) G.units h1.1 h1.2 (K.E Γ X G.toGood _ _ h2 n) (K.E Γ X G.toGood _ _ h3 n) (K.E Γ X G.toGood _ _ h4 n)
  · rename_i y py elt gens scope lpos
    split at h
    · split at h
      · rename_i tg0 iter0 ifs0 z0
        obtain ⟨⟨k, ci0⟩, h0, h⟩ := bd_is h
        obtain ⟨ce, h1, h⟩ := bd_is h
        obtain ⟨i, h2, h⟩ := bd_is h
        cases h
        obtain ⟨q1, q2, q3⟩ := cLoc_is G.toGood h2
        refine t_lock (recS := evS call n) ?_
        cases n with
        | zero => exact t_stuck fun st h => rfl
        | succ n =>
          obtain ⟨tg, iter, ifs, ci, ct, co, celt, e1, e2, g1, g2, g3, g4, g5, g6⟩ := lc_parts h1
          cases e1
          subst e2
          obtain ⟨⟨j, ci1⟩, g3', h7⟩ := bd_is g3
          have h7 : ci1 = ci := Option.some.inj h7
          clear g3 h1
          subst h7
          have hsw : ∃ b, swapsWith (.ListComp elt [⟨tg0, iter0, ifs0, 0⟩] scope lpos) (some (.Name y py)) pos.line X.env = pure b ∧ (b = true → X.env.scope.names.lookup y = some .local) := by
            refine ⟨_, rfl, fun z => ?_⟩
            simp only [Bool.and_eq_true] at z
            have z2 := z.1.1.2
            exact eq_of_beq z2
          obtain ⟨b, e1, e2⟩ := hsw
          cases n with
          | zero => exact t_stuck fun st h => rfl
          | succ n =>
            cases b with
            | false =>
              exact t_asg (n := n + 1) (recS := evS call (n + 1)) (s_lc (own := ownOf Γ scope) (rec := evE call n) (n := n) rfl G.calm G.nd (itK_of G.toGood g3' n) (blk_of G.toGood g1) (fun s H C cl fp => tgt_of 9 (good_blk G.toGood s H scope C cl fp) _ _ g4) (fun s H C cl fp => ifs_of K (good_blk G.toGood s H scope C cl fp) g5 n)
                (fun s H C cl fp => K.E _ _ (good_blk G.toGood s H scope C cl fp) _ _ g6 n) (fun x => set_of g2 _ x)) (g_nm G.nd q1 q2 q3) e1 rfl rfl
            | true =>
              exact t_setLc (rec := evE call n) (n := n) (recS := evS call (n + 1)) (ev := evE call (n + 1)) (own := ownOf Γ scope) rfl G.calm G.nd q1 (e2 rfl) e1 (itK_of G.toGood g3' n) (blk_of G.toGood g1) (fun s H C cl fp => tgt_of 9 (good_blk G.toGood s H scope C cl fp) _ _ g4) (fun s H C cl fp => ifs_of K (good_blk G.toGood s H scope C cl fp) g5 n)
                (fun s H C cl fp => K.E _ _ (good_blk G.toGood s H scope C cl fp) _ _ g6 n) (fun x => set_of g2 _ x) fun _ _ => rfl
      · cases h
    · split at h
      · rename_i ga gb
        obtain ⟨ce, h1, h⟩ := bd_is h
        obtain ⟨i, h2, h⟩ := bd_is h
        cases h
        obtain ⟨q1, q2, q3⟩ := cLoc_is G.toGood h2
        cases n with
        | zero => exact t_stuck fun st h => rfl
        | succ n =>
          have hsw : ∃ b, swapsWith (.ListComp elt [ga, gb] scope lpos) (some (.Name y py)) pos.line X.env = pure b ∧ (b = true → X.env.scope.names.lookup y = some .local) := by
            refine ⟨_, rfl, fun z => ?_⟩
            simp only [Bool.and_eq_true] at z
            have z2 := z.1.1.2
            exact eq_of_beq z2
          obtain ⟨b, e1, e2⟩ := hsw
          cases b with
          | false => exact t_asg (n := n + 1) (recS := evS call (n + 1)) (lc2_ok K G.toGood h1 n) (g_nm G.nd q1 q2 q3) e1 rfl rfl
          | true =>
            obtain ⟨tg, iter, tg1, iter1, ci, ct, ci1, ct1, celt, eg, rfl, hv, g1, g2, g2', g3, g4, g5, g6, g7⟩ := lc2_parts h1
            cases eg
            exact t_setLc2 (rec := evE call n) (n := n) (recS := evS call (n + 1)) (ev := evE call (n + 1)) (own := ownOf Γ scope) rfl hv G.calm G.nd q1 (e2 rfl) e1 (it_of K G.toGood g3 n) (blk_of G.toGood g1) (fun s H C cl fp => tgt_of 9 (good_blk G.toGood s H scope C cl fp) _ _ g4) (fun s H C cl fp => it_of K (good_blk G.toGood s H scope C cl fp) g5 n)
              (fun s H C cl fp => tgt_of 9 (good_blk G.toGood s H scope C cl fp) _ _ g6) (fun s H C cl fp => K.E _ _ (good_blk G.toGood s H scope C cl fp) _ _ g7 n) (fun x => set_of g2 _ x) (fun env x => set_of g2' env x) fun _ _ => rfl
      · obtain ⟨ce, h1, h⟩ := bd_is h
        obtain ⟨i, h2, h⟩ := bd_is h
        cases h
        obtain ⟨q1, q2, q3⟩ := cLoc_is G.toGood h2
        cases n with
        | zero => exact t_stuck fun st h => rfl
        | succ n =>
          have hsw : ∃ b, swapsWith (.ListComp elt gens scope lpos) (some (.Name y py)) pos.line X.env = pure b ∧ (b = true → X.env.scope.names.lookup y = some .local) := by
            refine ⟨_, rfl, fun z => ?_⟩
            simp only [Bool.and_eq_true] at z
            have z2 := z.1.1.2
            exact eq_of_beq z2
          obtain ⟨b, e1, e2⟩ := hsw
          cases b with
          | false => exact t_asg (n := n + 1) (recS := evS call (n + 1)) (lc_ok K G.toGood h1 n) (g_nm G.nd q1 q2 q3) e1 rfl rfl
          | true =>
            obtain ⟨tg, iter, ifs, ci, ct, co, celt, rfl, rfl, g1, g2, g3, g4, g5, g6⟩ := lc_parts h1
            exact t_setLc (rec := evE call n) (n := n) (recS := evS call (n + 1)) (ev := evE call (n + 1)) (own := ownOf Γ scope) rfl G.calm G.nd q1 (e2 rfl) e1 (it_of K G.toGood g3 n) (blk_of G.toGood g1) (fun s H C cl fp => tgt_of 9 (good_blk G.toGood s H scope C cl fp) _ _ g4) (fun s H C cl fp => ifs_of K (good_blk G.toGood s H scope C cl fp) g5 n)
              (fun s H C cl fp => K.E _ _ (good_blk G.toGood s H scope C cl fp) _ _ g6 n) (fun x => set_of g2 _ x) fun _ _ => rfl
  · rename_i no1 no2 no3
    refine plain_ok K G ?_ h n
    cases tg <;> cases e <;> first | rfl | (exfalso; first | exact no1 _ _ _ _ _ _ rfl rfl | exact no2 _ _ _ _ _ _ rfl rfl | (obtain ⟨_, hh⟩ := gd_is h; obtain ⟨_, _, hh⟩ := bd_is hh; obtain ⟨_, h1, _⟩ := bd_is hh; cases h1; done) | solve_by_elim)
theorem pSs_of {f : Stmt → Option CS} {rec : CS → PSt → PH → R FR} (h0 : ∀ st h, rec .stuck st h = .stuck) (hf : ∀ s k, f s = some k → PS X s (tS c (rec k))) : ∀ {ss : List Stmt} {ks : List CS}, cSs f ss = some ks → PSS X c rec ss ks
  | [], ks, h => by cases h; exact .nil
  | s :: ss, ks, h => by
    obtain ⟨ks', h2, h⟩ := bd_is h
    cases h
    refine .cons ?_ (pSs_of h0 hf h2)
    cases e : f s with
    | some k => exact hf s k e
    | none => exact t_stuck h0
theorem cmpS_ok (K : COk c call C) : ∀ (m : Nat) {X : Cx} (_ : GoodS c call Γ X) (s : Stmt) (k : CS), cmpS m C Γ s = some k → ∀ n, PS X s (tS c (evS call n k))
  | 0, _, _, _, _, h, _ => by cases h
  | m + 1, X, G, s, k, h, 0 => stuckS0
  | m + 1, X, G, s, k, h, n + 1 => by
    have ih : ∀ s k, cmpS m C Γ s = some k → PS X s (tS c (evS call n k)) := fun s k q => cmpS_ok K m G s k q n
    have ie : ∀ e ce, C.E Γ e = some ce → PE X e (tE c (evE call n ce)) := fun e ce q => K.E Γ X G.toGood e ce q n
    have hst : ∀ st h, evS call n .stuck st h = .stuck := fun st h => by cases n <;> rfl
    have ib : ∀ e cb, C.B Γ e = some cb → PT X e (tB' c (evB (evE call n) cb)) := fun e cb q => K.B Γ X G.toGood e cb q n
    unfold cmpS at h
    split at h
    · cases h; exact t_pass (n := n) (ev := evE call n) (recS := evS call n)
    · cases h; exact t_brk (n := n) (ev := evE call n) (recS := evS call n)
    · cases h; exact t_cont (n := n) (ev := evE call n) (recS := evS call n)
    · cases h; exact t_retN (n := n) (ev := evE call n) (recS := evS call n)
    · obtain ⟨ce, h1, h⟩ := bd_is h
      cases h
      exact t_ret (n := n) (recS := evS call n) (ie _ _ h1)
    · obtain ⟨h0, h⟩ := gd_is h
      obtain ⟨ce, h1, h⟩ := bd_is h
      cases h
      exact t_expr (n := n) (recS := evS call n) h0 (ie _ _ h1)
    · exact assign_ok K G h n
    · obtain ⟨hs, h⟩ := gd_is h
      obtain ⟨b, h1, h⟩ := bd_is h
      obtain ⟨co, h2, h⟩ := bd_is h
      obtain ⟨ci, h3, h⟩ := bd_is h
      obtain ⟨ce, h4, h⟩ := bd_is h
      cases h
      have e := bop_is h1
      subst e
      exact t_augix (n := n) (recS := evS call n) G.K G.units hs (ie _ _ h2) (ie _ _ h3) (ie _ _ h4)
    · obtain ⟨o, h0, h⟩ := bd_is h
      obtain ⟨i, h1, h⟩ := bd_is h
      obtain ⟨ce, h2, h⟩ := bd_is h
      cases h
      have e := bop_is h0
      subst e
      obtain ⟨q1, q2, q3⟩ := cLoc_is G.toGood h1
      exact t_augn (n := n) (recS := evS call n) G.nd q1 q2 q3 (ie _ _ h2)
    · obtain ⟨ct, h0, h⟩ := bd_is h
      obtain ⟨ka, h1, h⟩ := bd_is h
      obtain ⟨kb, h2, h⟩ := bd_is h
      cases h
      exact t_ite (n := n) (recS := evS call n) (ib _ _ h0) (pSs_of hst ih h1) (pSs_of hst ih h2)
    · obtain ⟨ct, h0, h⟩ := bd_is h
      obtain ⟨kb, h2, h⟩ := bd_is h
      cases h
      exact t_while (n := n) (recS := evS call n) G.xe (ib _ _ h0) (pSs_of hst ih h2)
    · split at h
      · obtain ⟨hs, h⟩ := gd_is h
        obtain ⟨⟨i, ci⟩, h0, h⟩ := bd_is h
        obtain ⟨t, h1, h⟩ := bd_is h
        obtain ⟨kb, h2, h⟩ := bd_is h
        cases h
        refine t_lock (recS := evS call n) ?_
        cases n with
        | zero => exact stuckS0
        | succ n =>
          have ih' : ∀ s k, cmpS m C Γ s = some k → PS X s (tS c (evS call n k)) := fun s k q => cmpS_ok K m G s k q n
          have hst' : ∀ st h, evS call n .stuck st h = .stuck := fun st h => by cases n <;> rfl
          exact t_for (n := n) (recS := evS call n) G.xe G.calm (itK_of G.toGood h0 n) (tgt_of 9 G.toGood _ _ h1) (pSs_of hst' ih' h2) (fun x => set_of hs _ x)
      obtain ⟨hs, h⟩ := gd_is h
      obtain ⟨ci, h0, h⟩ := bd_is h
      obtain ⟨t, h1, h⟩ := bd_is h
      obtain ⟨kb, h2, h⟩ := bd_is h
      cases h
      exact t_for (n := n) (recS := evS call n) G.xe G.calm (it_of K G.toGood h0 n) (tgt_of 9 G.toGood _ _ h1) (pSs_of hst ih h2) (fun x => set_of hs _ x)
    · cases h
      exact t_stuck fun _ _ => rfl
    · obtain ⟨kb, h1, h⟩ := bd_is h
      exact try_ok K G.toGood G.stk G.frm G.names h n fun pn => cmpS_ok K m (G.tr pn) _ _ h1 n
    · obtain ⟨kb, h1, h⟩ := bd_is h
      cases h
      exact try_thru n fun pn => cmpS_ok K m (G.tr pn) _ _ h1 n
    · cases h
def cX : Nat → Cmp → CEnv → Stmt → XS
  | 0, _, _, _ => .no
  | m + 1, C, Γ, s => match s with
    | .Raise (some (.Call (.Name x _) [] [] _)) none _ => match isGlD Γ x with
      | true => match Γ.excs.lookup x with
        | some k => .rz k
        | none => .no
      | false => .no
    | .If t a b _ => match C.B Γ t with
      | some ct => .ite ct ((cSs (cmpS m C Γ) a).getD []) (a.map (cX m C Γ)) ((cSs (cmpS m C Γ) b).getD []) (b.map (cX m C Γ))
      | none => .no
    | s => xOf (xStmt C Γ s)
theorem cSs_some {f : Stmt → Option CS} : ∀ ss : List Stmt, ∃ ks, cSs f ss = some ks
  | [] => ⟨_, rfl⟩
  | s :: ss => by
    obtain ⟨ks, h⟩ := cSs_some (f := f) ss
    refine ⟨(f s).getD .stuck :: ks, ?_⟩
    unfold cSs
    rw [h]
    rfl
theorem tX_no {s : Stmt} {E : XK} {ev : PSt → PH → R PV} (hs : ∀ st h, ev st h = .stuck ∨ ev st h = .ok .non h) : PS X s (tX c E ev) := ⟨fun pins s σ H D I ⟨f, h, st, r, r', p⟩ => by
  rcases hs st h with e | e
  · rw [e] at p; exact p.elim
  · rw [e] at p
    obtain ⟨i, z, _⟩ := p _ _ .refl r
    cases z⟩
theorem xSs_ok {E : XK} {rec : CS → PSt → PH → R FR} {xr : XS → PSt → PH → R PV} {g : Stmt → XS} (hx : ∀ s, PS X s (tX c E (xr (g s)))) : ∀ {ss : List Stmt} {ks : List CS}, PSS X.nox c rec ss ks → PSs X ss (tX c E (xvSs rec xr ks (ss.map g)))
  | [], [], .nil => ⟨fun pins s σ H D I ⟨f, h, st, r, rs, p⟩ => by
      obtain ⟨i, z, _⟩ := p _ _ .refl r
      cases z⟩
  | s :: ss, k :: ks, .cons hs ht => by
    refine pss_w (pss_cons (ps_alt (ps_nox hs) (hx s)) (xSs_ok hx ht)) fun D σ H ⟨f, h, st, r, rs, p⟩ => ?_
    have p : Post c f h.n H (xvSs rec xr (k :: ks) (g s :: ss.map g) st h) _ := p
    unfold xvSs at p
    split at p
    · exact p.elim
    · rename_i e1
      refine .inr ⟨f, h, st, r, rs, ?_⟩
      rw [e1]
      exact p
    · have no : ∀ {v : PV}, v = .non → Post c f h.n H (R.ok v h) (fun _ _ H' x => ∃ i : Nat, x = .int (i : Nat) ∧ E (.ref (c.C i)) none H') → False := fun ev p => by
        subst ev
        obtain ⟨i, z, _⟩ := p _ _ .refl r
        cases z
      cases z : rec k st h with
      | stuck => rw [z] at p; exact p.elim
      | ok q h1 =>
        rw [z] at p
        cases q with
        | nx st1 =>
          refine .inl ⟨f, h, st, r, rs, ?_⟩
          rw [z]
          exact fun f1 H1 x1 r1 σ1 rs1 => ⟨f1, h1, st1, r1, rs1, p.mono x1⟩
        | rt v => exact (no rfl p).elim
        | bk st1 => exact (no rfl p).elim
        | ct st1 => exact (no rfl p).elim
theorem cX_ok (K : COk c call C) (hc : X.calm = true) (G : GoodS c call Γ X.nox) {E : XK} (tk : Takes X fun cls d _ H => E cls d H) : ∀ (m : Nat) (s : Stmt) (n j : Nat), PS X s (tX c E (xvS (evE call n) (evS call n) j (cX m C Γ s)))
  | _, _, _, 0 => tX_no fun _ _ => .inl rfl
  | 0, _, _, j + 1 => tX_no fun _ _ => .inr rfl
  | m + 1, s, n, j + 1 => by
    unfold cX
    split
    · rename_i x p2 p3 p4
      split
      · rename_i hx
        split
        · rename_i k hk
          obtain ⟨g1, g2⟩ := isGlD_is G.toGood hx
          have F := G.exs.one _ _ (PySem.mem_of_lookup hk)
          obtain ⟨B, newId, initId, bmB, e1, e2⟩ := F.exc
          refine ps_w (ps_raise hc tk (pmk_none e1 e2 F.mg F.keep (raises_own F.sub F.ty) g1 g2)) fun D σ H ⟨f, h, st, r, rs, p⟩ => ?_
          obtain ⟨i, e3, q⟩ := p _ _ .refl r
          have e4 : (k : Int) = (i : Int) := PV.int.inj e3
          have e5 : k = i := Int.ofNat.inj e4
          rw [e5]
          exact q
        · exact tX_no fun _ _ => .inr rfl
      · exact tX_no fun _ _ => .inr rfl
    · rename_i t a b pos
      split
      · rename_i ct ht
        have hst : ∀ st h, evS call n .stuck st h = .stuck := fun st h => by cases n <;> rfl
        obtain ⟨ka, ea⟩ := cSs_some (f := cmpS m C Γ) a
        obtain ⟨kb, eb⟩ := cSs_some (f := cmpS m C Γ) b
        have pa := pSs_of (X := X.nox) hst (fun s k q => cmpS_ok K m G s k q n) ea
        have pb := pSs_of (X := X.nox) hst (fun s k q => cmpS_ok K m G s k q n) eb
        rw [ea, eb]
        have pt : PT X t (tB' c (evB (evE call n) ct)) := (K.B Γ X.nox G.toGood _ _ ht n).nox
        refine ps_w (ps_if pt (xSs_ok (fun s => cX_ok K hc G tk m s n j) pa) (xSs_ok (fun s => cX_ok K hc G tk m s n j) pb)) fun D σ H ⟨f, h, st, r, rs, p⟩ => ?_
        have p : Post c f h.n H (match evB (evE call n) ct st h with | .stuck => .stuck | .ok true h1 => xvSs (evS call n) (xvS (evE call n) (evS call n) j) ka (a.map (cX m C Γ)) st h1 | .ok false h1 => xvSs (evS call n) (xvS (evE call n) (evS call n) j) kb (b.map (cX m C Γ)) st h1) _ := p
        split at p
        · exact p.elim
        · rename_i h1 e1
          refine tB_of e1 r rs fun f1 H1 x1 r1 rs1 => ?_
          rw [if_pos rfl]
          exact ⟨f1, h1, st, r1, rs1, p.mono x1⟩
        · rename_i h1 e1
          refine tB_of e1 r rs fun f1 H1 x1 r1 rs1 => ?_
          rw [if_neg Bool.false_ne_true]
          exact ⟨f1, h1, st, r1, rs1, p.mono x1⟩
      · exact tX_no fun _ _ => .inr rfl
    · cases hx : xStmt C Γ s with
      | none => exact tX_no fun _ _ => .inr rfl
      | some p =>
        obtain ⟨k, ces⟩ := p
        exact ps_w (xs_stmt K G.toGood tk hx n) fun D σ H q => q
end
end
end Pyx

namespace Pyx
open PySem PySem.Spec PyProof.Rows L2
structure Txt where
  defs : List DefR
  consts : List (Str × PV)
  nob : List Str
  dts : List Nat := []
  excs : List (Str × Nat) := []
  exb : Str := ""
  rsn : List Str := []
  lamd : Str := ""
  tolds : List Str := []
def fnsOf : List DefR → Nat → List (Str × (Nat × Nat))
  | [], _ => []
  | d :: r, i => (d.g, (i, d.ps.length)) :: fnsOf r (i + 1)
def toldsOf (ns : List Str) : List DefR → Nat → List (Str × (Nat × DefR))
  | [], _ => []
  | d :: r, i => match ns.contains d.x && decide (d.g = d.x) with
    | true => (d.x, (i, d)) :: toldsOf ns r (i + 1)
    | false => toldsOf ns r (i + 1)
theorem toldsOf_is {ns : List Str} : ∀ {l : List DefR} {i : Nat} {x : Str} {k : Nat} {d : DefR}, (toldsOf ns l i).lookup x = some (k, d) → i ≤ k ∧ l[k - i]? = some d ∧ d.x = x ∧ d.g = d.x
  | [], _, _, _, _, h => by cases h
  | e :: r, i, x, k, d, h => by
    have rest : (toldsOf ns r (i + 1)).lookup x = some (k, d) → i ≤ k ∧ (e :: r)[k - i]? = some d ∧ d.x = x ∧ d.g = d.x := fun h => by
      obtain ⟨h1, h2, h3⟩ := toldsOf_is h
      exact ⟨Nat.le_of_succ_le h1, by rw [show k - i = (k - (i + 1)) + 1 by omega, List.getElem?_cons_succ]; exact h2, h3⟩
    unfold toldsOf at h
    split at h
    · rename_i hg
      rw [Bool.and_eq_true, decide_eq_true_eq] at hg
      rw [List.lookup_cons] at h
      split at h
      · rename_i q
        cases h
        have q : x = e.x := by simpa using q
        exact ⟨Nat.le_refl _, by rw [Nat.sub_self]; rfl, q.symm, hg.2⟩
      · exact rest h
    · exact rest h
def envOf (T : Txt) (d : DefR) : CEnv := { N := d.N, names := (defScope d.st).names, fns := fnsOf T.defs 0, consts := T.consts, nob := T.nob, dts := T.dts, excs := T.excs, exb := T.exb, rsn := T.rsn, lam := !decide (T.lamd = "") && decide (d.x = T.lamd), tolds := toldsOf T.tolds T.defs 0 }
def cDef (T : Txt) (d : DefR) : Option Def := bd (cSs (cmpS 30 (cmpN 40) (envOf T d)) (defBody d.st)) fun b => some ⟨d.ps.length, d.N.length, b, match T.rsn.contains d.x with | true => (defBody d.st).map (cX 30 (cmpN 40) (envOf T d)) | false => []⟩
def isFree : NameKind → Bool
  | .free => true
  | _ => false
def nodupB : List Str → Bool
  | [] => true
  | x :: r => !r.contains x && nodupB r
def scopeB (d : DefR) : Bool :=
  isFnK (defScope d.st).kind && !(defScope d.st).isCoroutine && !(defScope d.st).isGenerator && nodupB d.N && decide (d.N.take d.ps.length = d.ps) && d.ps.all (fun x => isLoc ((defScope d.st).names.lookup x)) && (defScope d.st).names.all (fun y => !isFree y.2)
theorem nodupB_is : ∀ {l : List Str}, nodupB l = true → l.Nodup
  | [], _ => List.nodup_nil
  | x :: r, h => by
    unfold nodupB at h
    rw [Bool.and_eq_true, Bool.not_eq_true'] at h
    refine List.nodup_cons.mpr ⟨fun hx => ?_, nodupB_is h.2⟩
    have q := List.elem_eq_true_of_mem hx
    have h1 : r.elem x = false := h.1
    rw [q] at h1
    cases h1
theorem scopeB_is {d : DefR} (h : scopeB d = true) : FnScope d.N d.ps (defScope d.st) := by
  unfold scopeB at h
  simp only [Bool.and_eq_true, Bool.not_eq_true', decide_eq_true_eq, List.all_eq_true] at h
  obtain ⟨⟨⟨⟨⟨⟨h1, h2⟩, h3⟩, h4⟩, h5⟩, h6⟩, h7⟩ := h
  refine ⟨?_, h2, h3, nodupB_is h4, h5, fun x hx => ?_, fun y hy e => ?_⟩
  · cases e : (defScope d.st).kind <;> rw [e] at h1 <;> first | rfl | (cases h1; done)
  · have q := h6 x hx
    cases e : (defScope d.st).names.lookup x with
    | none => rw [e] at q; cases q
    | some k => rw [e] at q; cases k <;> first | (cases q; done) | exact .inl rfl | exact .inr rfl
  · have q := h7 y hy
    rw [e] at q
    cases q
theorem fnsOf_is : ∀ {l : List DefR} {i : Nat} {x : Str} {k ar : Nat}, (fnsOf l i).lookup x = some (k, ar) → ∃ d, i ≤ k ∧ l[k - i]? = some d ∧ d.g = x ∧ ar = d.ps.length
  | [], _, _, _, _, h => by cases h
  | d :: r, i, x, k, ar, h => by
    unfold fnsOf at h
    rw [List.lookup_cons] at h
    split at h
    · rename_i e
      cases h
      have e : x = d.g := by simpa using e
      exact ⟨d, Nat.le_refl _, by rw [Nat.sub_self]; rfl, e.symm, rfl⟩
    · obtain ⟨d', h1, h2, h3, h4⟩ := fnsOf_is h
      exact ⟨d', Nat.le_of_succ_le h1, by rw [show k - i = (k - (i + 1)) + 1 by omega, List.getElem?_cons_succ]; exact h2, h3, h4⟩
structure Facts (c : Rc) (mg : Str → Option Value) (T : Txt) : Prop where
  fn : ∀ (k : Nat) (d : DefR), T.defs[k]? = some d → ∃ fd, Fun c.K d.x d.x d.st (c.F k) fd ∧ mg d.g = some (.ref (c.F k)) ∧ Binds c.K fd d.ps []
  const : ∀ x v, T.consts.lookup x = some v → ∃ u w, mg x = some u ∧ RelV w u ∧ ∀ f n H, RV c f n H v w
  nob : ∀ x, T.nob.contains x = true → mg x = none
  exs : ExAll c c.K mg T.excs T.exb
  lam : T.lamd ≠ "" → ∀ (k : Nat) (d : DefR) (fd : FuncData), T.defs[k]? = some d → d.x = T.lamd → Fun c.K d.x d.x d.st (c.F k) fd → fd.code = .ref c.cd ∧ (envOfC d.x (defScope d.st) 0 (c.F k) fd.code).qual ++ "<lambda>" = c.lq
structure Is (T : Txt) (P : Prg) : Prop where
  code : ∀ (k : Nat) (d : DefR), T.defs[k]? = some d → ∃ q : Def, (show List Def from P)[k]? = some q ∧ cDef T d = some q
  scope : ∀ (k : Nat) (d : DefR), T.defs[k]? = some d → scopeB d = true
  len : (show List Def from P).length = T.defs.length
  small : (show List Def from P).length ≤ xbig
theorem start_st {c : Rc} {f : Nat → Addr} {n : Nat} {H : Hp} {xs : List PV} {vs : List V} (r : RVs c f n H xs vs) (N : List Str) : RSt c f n H (xs.map some ++ List.replicate (N.length - xs.length) none) (L2.start N vs) := by
  unfold L2.start
  have hl := r.length
  refine ⟨by rw [List.length_append, List.length_append, List.length_map, List.length_map, List.length_replicate, List.length_replicate, hl], fun i x h => ?_⟩
  by_cases hi : i < xs.length
  · rw [List.getElem?_append_left (by rw [List.length_map]; exact hi), List.getElem?_map] at h
    cases e : xs[i]? with
    | none => rw [e] at h; cases h
    | some y =>
      rw [e] at h
      cases h
      obtain ⟨v, e1, r1⟩ := r.get i x e
      exact ⟨v, by rw [List.getElem?_append_left (by rw [List.length_map, ← hl]; exact hi), List.getElem?_map, e1]; rfl, r1⟩
  · rw [List.getElem?_append_right (by rw [List.length_map]; omega), List.getElem?_replicate] at h
    split at h <;> cases h
section
variable {Pg : Program} {mg : Str → Option Value} {base : Heap} {c : Rc} {T : Txt} {P : Prg} {n : Nat}
theorem okX3 {x qual : Str} {st : Stmt} {f : Addr} {fd : FuncData} {N ps : List Str} {k : Nat} {sp : Sp} {w : World} {K : PySem.W.Frag} (F : Fun K x qual st f fd) (S : FnScope N ps (defScope st)) (len : ∀ vs H Q E, sp vs H Q E → vs.length = ps.length)
    (hbody : ∀ (cdv : Value) (A : Around) (outer : List Env) (s : Shared) (H : Hp) (vs : List V) (Q : VK) (E : XK), fd.code = cdv → Room k (A.deeper (envOfC qual (defScope st) s.heap.objs.size f cdv)) → sp vs H Q E →
      ∃ t, PSs (cxOf (L2.CX Pg w) Pg w K mg base N qual (defScope st) f cdv A outer s H E) (defBody st) t ∧ t { nx := fun _ H' => Q .non H', rt := Q } (start N vs) H) : FnOk Pg w K mg base (L2.CX Pg w) (k + 1) f fd ps sp := by
  obtain ⟨oc, od, kV, doc, pm, an, cdv, ct, osl, rfl, lk, hcd⟩ := F.ex
  exact fn_of lk hcd S len fun A outer s H vs Q E hr hsp => hbody cdv A outer s H vs Q E rfl hr hsp
theorem fn_ok (FA : Facts c mg T) (HP : Is T P) (TB : T.lamd ≠ "" → LamX.TabB base mg c.cd c.tb) : ∀ (dep k : Nat) (d : DefR), T.defs[k]? = some d → ∀ fd, Fun c.K d.x d.x d.st (c.F k) fd → FnOk Pg c.w c.K mg base (L2.CX Pg c.w) (3 * dep) (c.F k) fd d.ps (spB c (callP P n dep) k d.ps.length)
  | 0, k, d, hd, fd, F => ⟨fun vs H Q E h => h.elim (·.1) (·.1), fun A outer s H args us vs Q E _ _ _ _ h => by
      rcases h with ⟨_, f, h', ps, r, rs, p⟩ | ⟨_, f, h', ps, r, rs, p⟩
      · exact p.elim
      · exact p.elim⟩
  | dep + 1, k, d, hd, fd, F => by
    have S := scopeB_is (HP.scope k d hd)
    refine okX3 (k := 3 * dep + 2) F S (fun vs H Q E h => h.elim (·.1) (·.1)) fun cdv A outer s H vs Q E hcode hr hsp => ?_
    obtain ⟨q, hq, hc⟩ := HP.code k d hd
    obtain ⟨b, hb, hc⟩ := bd_is hc
    cases hc
    have hfn : ∀ (x : Str) (k' ar : Nat), (fnsOf T.defs 0).lookup x = some (k', ar) → ∃ fd ps, mg x = some (.ref (c.F k')) ∧ PySem.W.keepIn c.K (.ref (c.F k')) = true ∧ Binds c.K fd ps [] ∧ FnOk Pg c.w c.K mg base (L2.CX Pg c.w) (3 * dep) (c.F k') fd ps (spB c (callP P n dep) k' ar) := fun x k' ar h => by
      obtain ⟨d', _, h2, h3, h4⟩ := fnsOf_is h
      rw [Nat.sub_zero] at h2
      obtain ⟨fd', F', m', b'⟩ := FA.fn k' d' h2
      subst h3
      subst h4
      exact ⟨fd', d'.ps, m', F'.kp, b', fn_ok FA HP TB dep k' d' h2 fd' F'⟩
    have hfv : ∀ (k' : Nat) (vs : List PV) (h' : PH), callP P n dep k' vs h' ≠ .stuck → k' < xbig → ∃ (x : Str) (fd : FuncData) (ps : List Str), mg x = some (.ref (c.F k')) ∧ PySem.W.keepIn c.K (.ref (c.F k')) = true ∧ Binds c.K fd ps [] ∧ FnOk Pg c.w c.K mg base (L2.CX Pg c.w) (3 * dep) (c.F k') fd ps (spB c (callP P n dep) k' vs.length) := fun k' vs h' ns lt => by
      have hk : ∃ d', T.defs[k']? = some d' := by
        cases e : T.defs[k']? with
        | some d' => exact ⟨d', rfl⟩
        | none =>
          exfalso
          refine ns ?_
          cases dep with
          | zero => rfl
          | succ dep =>
            show (match P[k']? with | some f => runD (callP P n dep) n f vs h' | none => match Nat.ble xbig k' with | true => (match P[k' - xbig]? with | some f => runX (callP P n dep) n f vs h' | none => .stuck) | false => .stuck) = .stuck
            have hn : (show List Def from P)[k']? = none := by
              rw [List.getElem?_eq_none_iff] at e ⊢
              rw [HP.len]
              exact e
            rw [show P[k']? = none from hn]
            have hb : Nat.ble xbig k' = false := by
              cases z : Nat.ble xbig k' with
              | false => rfl
              | true => exact absurd (Nat.le_of_ble_eq_true z) (Nat.not_le_of_lt lt)
            rw [hb]
      obtain ⟨d', h2⟩ := hk
      obtain ⟨fd', F', m', b'⟩ := FA.fn k' d' h2
      have hl : vs.length = d'.ps.length := by
        cases dep with
        | zero => exact absurd rfl ns
        | succ dep =>
          obtain ⟨q', hq', hc'⟩ := HP.code k' d' h2
          obtain ⟨b2, hb2, hc'⟩ := bd_is hc'
          cases hc'
          have ns : (match P[k']? with | some f => runD (callP P n dep) n f vs h' | none => match Nat.ble xbig k' with | true => (match P[k' - xbig]? with | some f => runX (callP P n dep) n f vs h' | none => .stuck) | false => .stuck) ≠ .stuck := ns
          rw [show P[k']? = _ from hq'] at ns
          have ns : runD (callP P n dep) n _ vs h' ≠ .stuck := ns
          unfold runD at ns
          split at ns
          · exact absurd rfl ns
          · rename_i e
            exact Nat.eq_of_beq_eq_true e
      rw [hl]
      exact ⟨d'.g, fd', d'.ps, m', F'.kp, b', fn_ok FA HP TB dep k' d' h2 fd' F'⟩
    have G : GoodS c (callP P n dep) (envOf T d) (cxOf (L2.CX Pg c.w) Pg c.w c.K mg base d.N d.x (defScope d.st) (c.F k) cdv A outer s H E).nox := {
      K := rfl
      W := rfl
      calm := rfl
      nd := S.nd
      N := rfl
      xe := rfl
      vis := fun x h => by
        have h : isVis ((defScope d.st).names.lookup x) = true := h
        show Vis (defScope d.st) x
        unfold Vis
        cases e : (defScope d.st).names.lookup x with
        | none => rw [e] at h; cases h
        | some k => rw [e] at h; cases k <;> first | (cases h; done) | exact .inl rfl | exact .inr (.inl rfl) | exact .inr (.inr rfl)
      loc := fun x h => by
        have h : isLoc ((defScope d.st).names.lookup x) = true := h
        refine ⟨?_, .inl rfl⟩
        show L2.Loc (defScope d.st) x
        unfold L2.Loc
        cases e : (defScope d.st).names.lookup x with
        | none => rw [e] at h; cases h
        | some k => rw [e] at h; cases k <;> first | (cases h; done) | exact .inl rfl | exact .inr rfl
      fr := fun x h => h
      gl := fun x h => by
        have h : isGl ((defScope d.st).names.lookup x) = true := h
        show (defScope d.st).names.lookup x = some .globalImplicit
        cases e : (defScope d.st).names.lookup x with
        | none => rw [e] at h; cases h
        | some k => rw [e] at h; cases k <;> first | (cases h; done) | rfl
      fns := fun x k' ar h => let ⟨fd, ps, a1, a2, a3, a4⟩ := hfn x k' ar h; ⟨fd, ps, 3 * dep, a1, a2, a3, hr.mono (Nat.le_add_right _ _), a4⟩
      fnv := fun k' vs h' ns lt => let ⟨x, fd, ps, a1, a2, a3, a4⟩ := hfv k' vs h' ns lt; ⟨x, fd, ps, 3 * dep, a1, a2, a3, hr.mono (Nat.le_add_right _ _), a4⟩
      lams := fun hl => by
        have hl : (!decide (T.lamd = "") && decide (d.x = T.lamd)) = true := hl
        rw [Bool.and_eq_true, Bool.not_eq_true'] at hl
        have hne : T.lamd ≠ "" := of_decide_eq_false hl.1
        obtain ⟨q1, q2⟩ := FA.lam hne k d fd hd (of_decide_eq_true hl.2) F
        refine ⟨?_, TB hne, q2, ⟨3 * dep, hr, hfn, hfv⟩, fun x k' d' h => ?_⟩
        · show cdv = _
          rw [← hcode]
          exact q1
        · obtain ⟨_, h2, h3, h4⟩ := toldsOf_is h
          rw [Nat.sub_zero] at h2
          obtain ⟨fd', F', m', b'⟩ := FA.fn k' d' h2
          subst h3
          exact ⟨rfl, by rw [← h4]; exact m', fd', F', b', scopeB_is (HP.scope k' d' h2)⟩
      consts := FA.const
      nob := FA.nob
      exs := FA.exs
      units := by
        have z := hr.un
        show (A.deeper _).units + 65 < cLine
        omega
      kind := S.kind
      names := rfl
      stk := rfl
      frm := rfl }
    have hst : ∀ st h, evS (callP P n dep) n .stuck st h = .stuck := fun st h => by cases n <;> rfl
    have pB := pSs_of hst (fun s k q => cmpS_ok (cmp_ok 40) 30 G s k q n) hb
    have hP : ∀ vs h, callP P n (dep + 1) k vs h = runD (callP P n dep) n _ vs h := fun vs h => by
      show (match P[k]? with | some f => runD (callP P n dep) n f vs h | none => match Nat.ble xbig k with | true => (match P[k - xbig]? with | some f => runX (callP P n dep) n f vs h | none => .stuck) | false => .stuck) = _
      rw [hq]
    rcases hsp with ⟨hl, f, h, ps, r, rs, p⟩ | ⟨hl, f, h, ps, r, rs, p⟩
    · refine ⟨tS c (evSs (evS (callP P n dep) n) b), (pss_of pB).nox, ?_⟩
      rw [hP] at p
      unfold runD at p
      split at p
      · exact p.elim
      · refine ⟨f, h, ps.map some ++ List.replicate (d.N.length - ps.length) none, r, start_st rs d.N, ?_⟩
        dsimp only at p
        cases z : evSs (evS (callP P n dep) n) b (ps.map some ++ List.replicate (d.N.length - ps.length) none) h with
        | stuck => rw [z] at p; exact p.elim
        | ok q h1 =>
          rw [z] at p
          cases q with
          | nx st1 => exact fun f1 H1 x1 r1 σ1 rs1 => p _ _ x1 r1 _ .non
          | rt v => exact fun f1 H1 x1 r1 w rw1 => p _ _ x1 r1 _ rw1
          | bk st1 => exact p.elim
          | ct st1 => exact p.elim
    · have hX : callP P n (dep + 1) (xbig + k) ps h = runX (callP P n dep) n ⟨d.ps.length, d.N.length, b, match T.rsn.contains d.x with | true => (defBody d.st).map (cX 30 (cmpN 40) (envOf T d)) | false => []⟩ ps h ∨ callP P n (dep + 1) (xbig + k) ps h = .stuck := by
        have hk : k < (show List Def from P).length := by
          rw [HP.len]
          exact (List.getElem?_eq_some_iff.mp hd).1
        by_cases hbig : (show List Def from P).length ≤ xbig
        · refine .inl ?_
          have hn : (show List Def from P)[xbig + k]? = none := by
            rw [List.getElem?_eq_none_iff]
            exact Nat.le_trans hbig (Nat.le_add_right _ _)
          show (match P[xbig + k]? with | some f => runD (callP P n dep) n f ps h | none => match Nat.ble xbig (xbig + k) with | true => (match P[xbig + k - xbig]? with | some f => runX (callP P n dep) n f ps h | none => .stuck) | false => .stuck) = _
          rw [show P[xbig + k]? = none from hn, show Nat.ble xbig (xbig + k) = true from Nat.ble_eq_true_of_le (Nat.le_add_right _ _), Nat.add_sub_cancel_left, hq]
        · exact absurd rfl (fun _ : (0 : Nat) = 0 => hbig HP.small)
      rcases hX with hX | hX
      · rw [hX] at p
        unfold runX at p
        split at p
        · exact p.elim
        · dsimp only at p
          cases hrs : T.rsn.contains d.x with
          | false =>
            rw [hrs] at p
            exfalso
            cases b with
            | nil =>
              obtain ⟨i, z, _⟩ := p _ _ .refl r
              cases z
            | cons k0 ks =>
              obtain ⟨i, z, _⟩ := p _ _ .refl r
              cases z
          | true =>
            rw [hrs] at p
            refine ⟨tX c E (xvSs (evS (callP P n dep) n) (xvS (evE (callP P n dep) n) (evS (callP P n dep) n) 20) b ((defBody d.st).map (cX 30 (cmpN 40) (envOf T d)))), ?_, ?_⟩
            · exact xSs_ok (fun s => cX_ok (cmp_ok 40) rfl G (takes_of rfl rfl rfl rfl) 30 s n 20) pB
            · exact ⟨f, h, _, r, start_st rs d.N, p⟩
      · rw [hX] at p
        exact p.elim
end
def start2 (ns : List Int) : PH := ⟨2, [.tb, .fz (ns.map PV.int)]⟩
def spLawT (K : PySem.W.Frag) (P : Addr) : Sp := fun vs H Q _ => ∃ (a : Addr) (ns : List Int), vs = [.ref a] ∧ SqL K H a (ns.map V.int) ∧ ns.length ≤ 63 ∧ H P = some (.tbl #[]) ∧ ∀ H', Q (.bl true) H'
theorem law_spT {c : Rc} {call : Nat → List PV → PH → R PV} {k : Nat} {H : Hp} {a : Addr} {ns : List Int} {Q : VK} {E : XK} (main : ∃ h', call k [.ref 0] (start2 ns) = .ok (.bl true) h') (hs : Frz c H a (ns.map V.int)) (hc : ∀ b, c.sc = some b → ∃ xs, H b = some (.lst xs)) (ht : H c.tb = some (.tbl #[])) (q : ∀ H', Q (.bl true) H') : spB c call k 1 [.ref a] H Q E := by
  refine .inl ?_
  obtain ⟨h', hm⟩ := main
  refine ⟨rfl, fun i => if i = 0 then a else c.tb, start2 ns, [.ref 0], ⟨rfl, fun i o e => ?_, fun i j xs ys e1 e2 m1 m2 _ => ?_, hc⟩, ?_, ?_⟩
  · have hi := get_lt e
    have hi : i < 2 := hi
    rcases (by omega : i = 0 ∨ i = 1) with hi | hi
    · subst hi
      have e' : some (PO.fz (ns.map PV.int)) = some o := e
      cases e'
      exact .fz hs (rvs_ints ns)
    · subst hi
      have e' : some PO.tb = some o := e
      cases e'
      exact .tb rfl (LamX.TabS.nil ht)
  · have h1 : i < 2 := get_lt e1
    rcases (by omega : i = 0 ∨ i = 1) with hi | hi
    · subst hi
      have e' : some (PO.fz (ns.map PV.int)) = some xs := e1
      cases e'
      cases m1
    · subst hi
      have e' : some PO.tb = some xs := e1
      cases e'
      cases m1
  · have h0 : 0 < (start2 ns).n := Nat.succ_pos 1
    have q := RV.ref (c := c) (f := fun i => if i = 0 then a else c.tb) (n := (start2 ns).n) (H := H) (i := 0) h0
    exact .cons q .nil
  · rw [hm]
    intro f' H' _ _ v rv
    cases rv
    exact q H'
theorem fnT {Pg : Program} {w : World} {K : PySem.W.Frag} {mg : Str → Option Value} {base : Heap} {fa P : Addr} {fd : FuncData} {ps : List Str} {m : Nat} {call : Nat → List PV → PH → R PV} {k : Nat} {c : Option Addr → Rc} (hK : ∀ o, (c o).K = K) (hs : ∀ o, (c o).sc = o) (hP : ∀ o, (c o).tb = P) (hl : ps.length = 1)
    (main : ∀ ns : List Int, ns.length ≤ 63 → ∃ h', call k [.ref 0] (start2 ns) = .ok (.bl true) h') (F : ∀ o, FnOk Pg w K mg base (L2.CX Pg w) m fa fd ps (spB (c o) call k 1)) : FnOk Pg w K mg base (L2.CX Pg w) m fa fd ps (spLawT K P) :=
  ⟨fun vs H Q E ⟨a, ns, e, _⟩ => by rw [e, hl]; rfl, fun A outer s H args us vs Q E hr e0 hb rv ⟨a, ns, e, hq, hl, ht, q⟩ => by
    subst e
    rcases hq with (hq | hq) | hq
    · refine (F (some a)).run A outer s H args us _ Q E hr e0 hb rv (law_spT (main ns hl) (.inr (.inr ⟨hs _, hq⟩)) (fun b z => ?_) (by rw [hP]; exact ht) q)
      rw [hs] at z
      cases z
      exact ⟨_, hq⟩
    · refine (F none).run A outer s H args us _ Q E hr e0 hb rv (law_spT (main ns hl) (.inl hq) (fun b z => ?_) (by rw [hP]; exact ht) q)
      rw [hs] at z
      cases z
    · refine (F none).run A outer s H args us _ Q E hr e0 hb rv (law_spT (main ns hl) (.inr (.inl (by rw [hK]; exact hq))) (fun b z => ?_) (by rw [hP]; exact ht) q)
      rw [hs] at z
      cases z⟩
end Pyx

namespace Pyx
open PySem PySem.Spec PyProof.Rows L2
section
variable {c : Rc} {mg : Str → Option Value}
def FnFact (c : Rc) (mg : Str → Option Value) (k : Nat) (d : DefR) : Prop := ∃ fd, Fun c.K d.x d.x d.st (c.F k) fd ∧ mg d.g = some (.ref (c.F k)) ∧ Binds c.K fd d.ps []
def FnAll (c : Rc) (mg : Str → Option Value) : Nat → List DefR → Prop
  | _, [] => True
  | i, d :: r => FnFact c mg i d ∧ FnAll c mg (i + 1) r
theorem FnAll.at : ∀ {ds : List DefR} {i : Nat}, FnAll c mg i ds → ∀ (k : Nat) (d : DefR), ds[k]? = some d → FnFact c mg (i + k) d
  | [], _, _, k, d, h => by simp at h
  | e :: r, i, h, 0, d, q => by
    rw [List.getElem?_cons_zero] at q
    cases q
    exact h.1
  | e :: r, i, h, k + 1, d, q => by
    rw [List.getElem?_cons_succ] at q
    have z := FnAll.at h.2 k d q
    rw [show i + (k + 1) = i + 1 + k by omega]
    exact z
def KoFact (c : Rc) (mg : Str → Option Value) (x : Str) (v : PV) : Prop := ∃ u w, mg x = some u ∧ RelV w u ∧ ∀ f n H, RV c f n H v w
def KoAll (c : Rc) (mg : Str → Option Value) : List (Str × PV) → Prop
  | [] => True
  | p :: r => KoFact c mg p.1 p.2 ∧ KoAll c mg r
theorem KoAll.at : ∀ {l : List (Str × PV)}, KoAll c mg l → ∀ x v, l.lookup x = some v → KoFact c mg x v
  | [], _, x, v, h => by cases h
  | p :: r, h, x, v, q => by
    obtain ⟨y, u⟩ := p
    rw [List.lookup_cons] at q
    split at q
    · rename_i e
      cases q
      have e : x = y := by simpa using e
      subst e
      exact h.1
    · exact KoAll.at h.2 x v q
theorem ko_int {x : Str} {i : Int} {t : Tok} (h : mg x = some (.int i t)) : KoFact c mg x (.int i) := ⟨.int i t, .int i, h, ⟨t, rfl⟩, fun f n H => .int i⟩
def NoAll (mg : Str → Option Value) : List Str → Prop
  | [] => True
  | x :: r => mg x = none ∧ NoAll mg r
theorem NoAll.at : ∀ {l : List Str}, NoAll mg l → ∀ x, l.contains x = true → mg x = none
  | [], _, x, h => by cases h
  | y :: r, h, x, q => by
    have q : x ∈ y :: r := List.mem_of_elem_eq_true q
    rcases List.mem_cons.mp q with e | q
    · rw [e]; exact h.1
    · exact NoAll.at h.2 x (List.elem_eq_true_of_mem q)
theorem facts_of {T : Txt} (h1 : FnAll c mg 0 T.defs) (h2 : KoAll c mg T.consts) (h3 : NoAll mg T.nob) (h4 : ExAll c c.K mg T.excs T.exb) (h5 : T.lamd ≠ "" → ∀ (k : Nat) (d : DefR) (fd : FuncData), T.defs[k]? = some d → d.x = T.lamd → Fun c.K d.x d.x d.st (c.F k) fd → fd.code = .ref c.cd ∧ (envOfC d.x (defScope d.st) 0 (c.F k) fd.code).qual ++ "<lambda>" = c.lq := by exact fun z => absurd rfl z) : Facts c mg T := ⟨fun k d hd => by
    have z := h1.at k d hd
    rw [Nat.zero_add] at z
    exact z, h2.at, h3.at, h4, h5⟩
def IsAll (T : Txt) : List DefR → List Def → Prop
  | [], _ => True
  | d :: r, q :: qs => (cDef T d = some q ∧ scopeB d = true) ∧ IsAll T r qs
  | _ :: _, [] => False
theorem IsAll.at {T : Txt} : ∀ {ds : List DefR} {qs : List Def}, IsAll T ds qs → ∀ (k : Nat) (d : DefR), ds[k]? = some d → ∃ q : Def, qs[k]? = some q ∧ cDef T d = some q ∧ scopeB d = true
  | [], _, _, k, d, h => by simp at h
  | e :: r, [], h, _, _, _ => h.elim
  | e :: r, q :: qs, h, 0, d, z => by
    rw [List.getElem?_cons_zero] at z
    cases z
    exact ⟨q, rfl, h.1.1, h.1.2⟩
  | e :: r, q :: qs, h, k + 1, d, z => by
    rw [List.getElem?_cons_succ] at z
    obtain ⟨q', h1, h2⟩ := IsAll.at h.2 k d z
    exact ⟨q', by rw [List.getElem?_cons_succ]; exact h1, h2⟩
theorem is_of {T : Txt} {P : Prg} (h : IsAll T T.defs P) (hl : (show List Def from P).length = T.defs.length) (hb : Nat.ble (show List Def from P).length xbig = true := by rfl) : Is T P := ⟨fun k d hd => let ⟨q, h1, h2, _⟩ := h.at k d hd; ⟨q, h1, h2⟩, fun k d hd => let ⟨_, _, _, h3⟩ := h.at k d hd; h3, hl, Nat.le_of_ble_eq_true hb⟩
theorem codeHd_by {K : PySem.W.Frag} {c P : Addr} {o : Obj} (h : K.lookup c = some o) (h2 : PySem.W.codeHdIn [(c, o)] c P = true) : PySem.W.codeHdIn K c P = true := by
  have e : PySem.W.codeHdIn K c P = PySem.W.codeHdIn [(c, o)] c P := by
    unfold PySem.W.codeHdIn
    rw [h]
    have e1 : List.lookup c [(c, o)] = some o := by
      rw [List.lookup_cons]
      simp
    first
    | rw [e1]
    | (show _ = (match List.lookup c [(c, o)] with | some ⟨.type "code", _, .fields vs, _⟩ => _ | _ => _); rw [e1])
  rw [e]
  exact h2
def onlyAt (x : Str) (li : Nat) : List DefR → Nat → Bool
  | [], _ => true
  | d :: r, i => (match decide (d.x = x) with | true => decide (i = li) | false => true) && onlyAt x li r (i + 1)
theorem onlyAt_is {x : Str} {li : Nat} : ∀ {l : List DefR} {i k : Nat} {d : DefR}, onlyAt x li l i = true → l[k]? = some d → d.x = x → i + k = li
  | [], _, _, _, _, h, _ => by simp at h
  | e :: r, i, 0, d, h, q, hx => by
    rw [List.getElem?_cons_zero] at q
    cases q
    unfold onlyAt at h
    rw [Bool.and_eq_true] at h
    have h1 := h.1
    rw [decide_eq_true hx] at h1
    exact of_decide_eq_true h1
  | e :: r, i, k + 1, d, h, q, hx => by
    rw [List.getElem?_cons_succ] at q
    unfold onlyAt at h
    rw [Bool.and_eq_true] at h
    have z := onlyAt_is h.2 q hx
    omega
theorem lam_fact {T : Txt} {li : Nat} {c : Rc} {fa : Addr} {fd0 : FuncData} {oc : Value} {od : Option Addr} {sl : Array (Option Value)} (ho : onlyAt T.lamd li T.defs 0 = true) (hF : c.F li = fa) (hl : c.K.lookup fa = some ⟨oc, od, .func fd0, sl⟩) (h0 : fd0.code = .ref c.cd) (hq : T.lamd ++ ".<locals>." ++ "<lambda>" = c.lq) :
    T.lamd ≠ "" → ∀ (k : Nat) (d : DefR) (fd : FuncData), T.defs[k]? = some d → d.x = T.lamd → Fun c.K d.x d.x d.st (c.F k) fd → fd.code = .ref c.cd ∧ (envOfC d.x (defScope d.st) 0 (c.F k) fd.code).qual ++ "<lambda>" = c.lq := fun _ k d fd hd hx F => by
  have e := onlyAt_is ho hd hx
  rw [Nat.zero_add] at e
  subst e
  obtain ⟨oc', od', kV, doc, pm, an, cdv, ct, osl, e1, lk, _⟩ := F.ex
  rw [hF, hl] at lk
  have e2 : fd0 = fd := by
    have z := congrArg Obj.data (Option.some.inj lk)
    cases z
    rfl
  refine ⟨by rw [← e2]; exact h0, ?_⟩
  rw [← hq, hx]
  rfl
end
end Pyx

namespace Pyx
open PySem L2
def Ok {α : Type} (r : R α) (Q : α → PH → Prop) : Prop := match r with
  | .ok a h => Q a h
  | .stuck => False
theorem Ok.mono {α : Type} {r : R α} {Q Q' : α → PH → Prop} (p : Ok r Q) (k : ∀ a h, Q a h → Q' a h) : Ok r Q' := by
  cases r with
  | ok a h => exact k a h p
  | stuck => exact p
def OkS (r : R FR) (N : PSt → PH → Prop) (T : PV → PH → Prop) (B C : PSt → PH → Prop) : Prop := match r with
  | .ok (.nx st) h => N st h
  | .ok (.rt v) h => T v h
  | .ok (.bk st) h => B st h
  | .ok (.ct st) h => C st h
  | .stuck => False
theorem OkS.mono {r : R FR} {N N' B B' C C' : PSt → PH → Prop} {T T' : PV → PH → Prop} (p : OkS r N T B C) (k1 : ∀ a h, N a h → N' a h) (k2 : ∀ a h, T a h → T' a h) (k3 : ∀ a h, B a h → B' a h) (k4 : ∀ a h, C a h → C' a h) : OkS r N' T' B' C' := by
  cases r with
  | ok a h =>
    cases a with
    | nx st => exact k1 _ _ p
    | rt v => exact k2 _ _ p
    | bk st => exact k3 _ _ p
    | ct st => exact k4 _ _ p
  | stuck => exact p
section
variable {call : Nat → List PV → PH → R PV} {n : Nat} {rec : CE → PSt → PH → R PV} {st : PSt} {h : PH} {Q : PV → PH → Prop} {a b d : CE}
theorem ok_ret {α : Type} {v : α} {Q : α → PH → Prop} (q : Q v h) : Ok (.ok v h) Q := q
theorem ok_var {i : Nat} {v : PV} (e : st[i]? = some (some v)) (q : Q v h) : Ok (evE call (n + 1) (.var i) st h) Q := by
  show Ok (eVar (evE call n) i st h) Q
  unfold eVar
  rw [e]
  exact q
theorem ok_val {v : PV} (q : Q v h) : Ok (evE call (n + 1) (.val v) st h) Q := q
theorem ok_bin {op : Bop} (q : Ok (evE call n a st h) fun v h1 => Ok (evE call n b st h1) fun w h2 => Ok (binP op v w h2) Q) : Ok (evE call (n + 1) (.bin op a b) st h) Q := by
  show Ok (eBin (evE call n) op a b st h) Q
  unfold eBin
  cases e1 : evE call n a st h with
  | stuck => rw [e1] at q; exact q
  | ok v h1 =>
    rw [e1] at q
    have q : Ok (evE call n b st h1) fun w h2 => Ok (binP op v w h2) Q := q
    dsimp only
    cases e2 : evE call n b st h1 with
    | stuck => rw [e2] at q; exact q
    | ok w h2 => rw [e2] at q; exact q
theorem ok_neg (q : Ok (evE call n a st h) fun v h1 => ∃ i, v = .int i ∧ Q (.int (-i)) h1) : Ok (evE call (n + 1) (.neg a) st h) Q := by
  show Ok (eNeg (evE call n) a st h) Q
  unfold eNeg
  cases e1 : evE call n a st h with
  | stuck => rw [e1] at q; exact q
  | ok v h1 =>
    rw [e1] at q
    obtain ⟨i, e, q⟩ := q
    subst e
    exact q
theorem ok_cmp {op : Cop} (q : Ok (evE call n a st h) fun v h1 => Ok (evE call n b st h1) fun w h2 => ∃ k, cmpP op v w h2 = some k ∧ Q (.bl k) h2) : Ok (evE call (n + 1) (.cmp op a b) st h) Q := by
  show Ok (eCmp (evE call n) op a b st h) Q
  unfold eCmp
  cases e1 : evE call n a st h with
  | stuck => rw [e1] at q; exact q
  | ok v h1 =>
    rw [e1] at q
    have q : Ok (evE call n b st h1) fun w h2 => ∃ k, cmpP op v w h2 = some k ∧ Q (.bl k) h2 := q
    dsimp only
    cases e2 : evE call n b st h1 with
    | stuck => rw [e2] at q; exact q
    | ok w h2 =>
      rw [e2] at q
      obtain ⟨k, e3, q⟩ := q
      dsimp only
      rw [e3]
      exact q
theorem ok_chain {o1 o2 : Cop} (q : Ok (evE call n a st h) fun v h1 => Ok (evE call n b st h1) fun w h2 => ∃ k, cmpP o1 v w h2 = some k ∧ (k = true → Ok (evE call n d st h2) fun u h3 => ∃ j, cmpP o2 w u h3 = some j ∧ Q (.bl j) h3) ∧ (k = false → Q (.bl false) h2)) :
    Ok (evE call (n + 1) (.chain o1 o2 a b d) st h) Q := by
  show Ok (eChain (evE call n) o1 o2 a b d st h) Q
  unfold eChain
  cases e1 : evE call n a st h with
  | stuck => rw [e1] at q; exact q
  | ok v h1 =>
    rw [e1] at q
    have q : Ok (evE call n b st h1) fun w h2 => ∃ k, cmpP o1 v w h2 = some k ∧ (k = true → Ok (evE call n d st h2) fun u h3 => ∃ j, cmpP o2 w u h3 = some j ∧ Q (.bl j) h3) ∧ (k = false → Q (.bl false) h2) := q
    dsimp only
    cases e2 : evE call n b st h1 with
    | stuck => rw [e2] at q; exact q
    | ok w h2 =>
      rw [e2] at q
      obtain ⟨k, e3, q1, q2⟩ := q
      dsimp only
      rw [e3]
      cases k with
      | false => exact q2 rfl
      | true =>
        have q1 := q1 rfl
        dsimp only
        cases e4 : evE call n d st h2 with
        | stuck => rw [e4] at q1; exact q1
        | ok u h3 =>
          rw [e4] at q1
          obtain ⟨j, e5, q⟩ := q1
          dsimp only
          rw [e5]
          exact q
theorem ok_isin {ng : Bool} (q : Ok (evE call n a st h) fun v h1 => Ok (evE call n b st h1) fun w h2 => ∃ k, inP v w h2 = some k ∧ Q (.bl (if ng then !k else k)) h2) : Ok (evE call (n + 1) (.isin ng a b) st h) Q := by
  show Ok (eIsin (evE call n) ng a b st h) Q
  unfold eIsin
  cases e1 : evE call n a st h with
  | stuck => rw [e1] at q; exact q
  | ok v h1 =>
    rw [e1] at q
    have q : Ok (evE call n b st h1) fun w h2 => ∃ k, inP v w h2 = some k ∧ Q (.bl (if ng then !k else k)) h2 := q
    dsimp only
    cases e2 : evE call n b st h1 with
    | stuck => rw [e2] at q; exact q
    | ok w h2 =>
      rw [e2] at q
      obtain ⟨k, e3, q⟩ := q
      dsimp only
      rw [e3]
      exact q
theorem ok_and (q : Ok (evE call n a st h) fun v h1 => ∃ k, v = .bl k ∧ (k = true → Ok (evE call n b st h1) Q) ∧ (k = false → Q (.bl false) h1)) : Ok (evE call (n + 1) (.and a b) st h) Q := by
  show Ok (eAnd (evE call n) a b st h) Q
  unfold eAnd
  cases e1 : evE call n a st h with
  | stuck => rw [e1] at q; exact q
  | ok v h1 =>
    rw [e1] at q
    obtain ⟨k, e, q1, q2⟩ := q
    subst e
    cases k with
    | true => exact q1 rfl
    | false => exact q2 rfl
theorem ok_or (q : Ok (evE call n a st h) fun v h1 => ∃ k, v = .bl k ∧ (k = false → Ok (evE call n b st h1) Q) ∧ (k = true → Q (.bl true) h1)) : Ok (evE call (n + 1) (.or a b) st h) Q := by
  show Ok (eOr (evE call n) a b st h) Q
  unfold eOr
  cases e1 : evE call n a st h with
  | stuck => rw [e1] at q; exact q
  | ok v h1 =>
    rw [e1] at q
    obtain ⟨k, e, q1, q2⟩ := q
    subst e
    cases k with
    | true => exact q2 rfl
    | false => exact q1 rfl
theorem ok_not (q : Ok (evE call n a st h) fun v h1 => ∃ k, v = .bl k ∧ Q (.bl (!k)) h1) : Ok (evE call (n + 1) (.not a) st h) Q := by
  show Ok (eNot (evE call n) a st h) Q
  unfold eNot
  cases e1 : evE call n a st h with
  | stuck => rw [e1] at q; exact q
  | ok v h1 =>
    rw [e1] at q
    obtain ⟨k, e, q⟩ := q
    subst e
    exact q
theorem ok_ite {t : CB} (q : Ok (evB (evE call n) t st h) fun k h1 => (k = true → Ok (evE call n a st h1) Q) ∧ (k = false → Ok (evE call n b st h1) Q)) : Ok (evE call (n + 1) (.ite t a b) st h) Q := by
  show Ok (eIte (evE call n) t a b st h) Q
  unfold eIte
  cases e1 : evB (evE call n) t st h with
  | stuck => rw [e1] at q; exact q
  | ok k h1 =>
    rw [e1] at q
    cases k with
    | true => exact q.1 rfl
    | false => exact q.2 rfl
theorem ok_tup {es : List CE} (q : Ok (evL (evE call n) es st h) fun vs h1 => vs.length ≤ 100000 ∧ Q (.tup vs) h1) : Ok (evE call (n + 1) (.tup es) st h) Q := by
  show Ok (eTup (evE call n) es st h) Q
  unfold eTup
  cases e1 : evL (evE call n) es st h with
  | stuck => rw [e1] at q; exact q
  | ok vs h1 =>
    rw [e1] at q
    obtain ⟨z, q⟩ := q
    dsimp only
    unfold okT small
    rw [Nat.ble_eq_true_of_le z]
    exact q
theorem ok_lst {es : List CE} (q : Ok (evL (evE call n) es st h) fun vs h1 => vs.length ≤ 100000 ∧ Q (.ref h1.n) (h1.push (.lst vs))) : Ok (evE call (n + 1) (.lst es) st h) Q := by
  show Ok (eLst (evE call n) es st h) Q
  unfold eLst
  cases e1 : evL (evE call n) es st h with
  | stuck => rw [e1] at q; exact q
  | ok vs h1 =>
    rw [e1] at q
    obtain ⟨z, q⟩ := q
    dsimp only
    unfold okL small
    rw [Nat.ble_eq_true_of_le z]
    exact q
theorem ok_call {k : Nat} {es : List CE} (q : Ok (evL (evE call n) es st h) fun vs h1 => Ok (call k vs h1) Q) : Ok (evE call (n + 1) (.call k es) st h) Q := by
  show Ok (eCall call (evE call n) k es st h) Q
  unfold eCall
  cases e1 : evL (evE call n) es st h with
  | stuck => rw [e1] at q; exact q
  | ok vs h1 => rw [e1] at q; exact q
theorem ok_bi {k : Bi} {es : List CE} (q : Ok (evL (evE call n) es st h) fun vs h1 => Ok (biP k vs h1) Q) : Ok (evE call (n + 1) (.bi k es) st h) Q := by
  show Ok (eBi (evE call n) k es st h) Q
  unfold eBi
  cases e1 : evL (evE call n) es st h with
  | stuck => rw [e1] at q; exact q
  | ok vs h1 => rw [e1] at q; exact q
theorem ok_isi {t : Ty} (q : Ok (evE call n a st h) fun v h1 => ∃ k, isTy v h1 t = some k ∧ Q (.bl k) h1) : Ok (evE call (n + 1) (.isi a t) st h) Q := by
  show Ok (eIsi (evE call n) a t st h) Q
  unfold eIsi
  cases e1 : evE call n a st h with
  | stuck => rw [e1] at q; exact q
  | ok v h1 =>
    rw [e1] at q
    obtain ⟨k, e, q⟩ := q
    dsimp only
    rw [e]
    exact q
theorem ok_isis {t u : Ty} (q : Ok (evE call n a st h) fun v h1 => ∃ k j, isTy v h1 t = some k ∧ isTy v h1 u = some j ∧ Q (.bl (k || j)) h1) : Ok (evE call (n + 1) (.isis a t u) st h) Q := by
  show Ok (eIsis (evE call n) a t u st h) Q
  unfold eIsis
  cases e1 : evE call n a st h with
  | stuck => rw [e1] at q; exact q
  | ok v h1 =>
    rw [e1] at q
    obtain ⟨k, j, e, e2, q⟩ := q
    dsimp only
    rw [e]
    cases k with
    | true => exact q
    | false =>
      dsimp only
      rw [e2]
      exact q
theorem ok_mt {m : Mt} {es : List CE} (q : Ok (evE call n a st h) fun v h1 => (∃ xs, seqL v h1 = some xs) ∧ Ok (evL (evE call n) es st h1) fun vs h2 => Ok (mtP m v vs h2) Q) : Ok (evE call (n + 1) (.mt m a es) st h) Q := by
  show Ok (eMt (evE call n) m a es st h) Q
  unfold eMt
  cases e1 : evE call n a st h with
  | stuck => rw [e1] at q; exact q
  | ok v h1 =>
    rw [e1] at q
    obtain ⟨⟨xs, e⟩, q⟩ := q
    dsimp only
    rw [e]
    dsimp only
    cases e2 : evL (evE call n) es st h1 with
    | stuck => rw [e2] at q; exact q
    | ok vs h2 => rw [e2] at q; exact q
theorem ok_ix (q : Ok (evE call n a st h) fun v h1 => Ok (evE call n b st h1) fun w h2 => ∃ u, ixP v w h2 = some u ∧ Q u h2) : Ok (evE call (n + 1) (.ix a b) st h) Q := by
  show Ok (eIx (evE call n) a b st h) Q
  unfold eIx
  cases e1 : evE call n a st h with
  | stuck => rw [e1] at q; exact q
  | ok v h1 =>
    rw [e1] at q
    have q : Ok (evE call n b st h1) fun w h2 => ∃ u, ixP v w h2 = some u ∧ Q u h2 := q
    dsimp only
    cases e2 : evE call n b st h1 with
    | stuck => rw [e2] at q; exact q
    | ok w h2 =>
      rw [e2] at q
      obtain ⟨u, e3, q⟩ := q
      dsimp only
      rw [e3]
      exact q
theorem ok_sl {lo hi : Option CE} (q : Ok (evE call n a st h) fun v h1 => Ok (evO (evE call n) lo st h1) fun l h2 => Ok (evO (evE call n) hi st h2) fun u h3 => Ok (slP v l u h3) Q) : Ok (evE call (n + 1) (.sl a lo hi) st h) Q := by
  show Ok (eSl (evE call n) a lo hi st h) Q
  unfold eSl
  cases e1 : evE call n a st h with
  | stuck => rw [e1] at q; exact q
  | ok v h1 =>
    rw [e1] at q
    have q : Ok (evO (evE call n) lo st h1) fun l h2 => Ok (evO (evE call n) hi st h2) fun u h3 => Ok (slP v l u h3) Q := q
    dsimp only
    cases e2 : evO (evE call n) lo st h1 with
    | stuck => rw [e2] at q; exact q
    | ok l h2 =>
      rw [e2] at q
      have q : Ok (evO (evE call n) hi st h2) fun u h3 => Ok (slP v l u h3) Q := q
      dsimp only
      cases e3 : evO (evE call n) hi st h2 with
      | stuck => rw [e3] at q; exact q
      | ok u h3 => rw [e3] at q; exact q
theorem ok_oN {Q : Option Int → PH → Prop} (q : Q none h) : Ok (evO rec none st h) Q := q
theorem ok_oS {Q : Option Int → PH → Prop} (q : Ok (rec a st h) fun v h1 => ∃ i, v = .int i ∧ Q (some i) h1) : Ok (evO rec (some a) st h) Q := by
  unfold evO
  dsimp only
  cases e1 : rec a st h with
  | stuck => rw [e1] at q; exact q
  | ok v h1 =>
    rw [e1] at q
    obtain ⟨i, e, q⟩ := q
    subst e
    exact q
theorem ok_nil {Q : List PV → PH → Prop} (q : Q [] h) : Ok (evL rec [] st h) Q := q
theorem ok_cons {es : List CE} {Q : List PV → PH → Prop} (q : Ok (rec a st h) fun v h1 => Ok (evL rec es st h1) fun vs h2 => Q (v :: vs) h2) : Ok (evL rec (a :: es) st h) Q := by
  unfold evL
  cases e1 : rec a st h with
  | stuck => rw [e1] at q; exact q
  | ok v h1 =>
    rw [e1] at q
    have q : Ok (evL rec es st h1) fun vs h2 => Q (v :: vs) h2 := q
    dsimp only
    cases e2 : evL rec es st h1 with
    | stuck => rw [e2] at q; exact q
    | ok vs h2 => rw [e2] at q; exact q
theorem ok_lc {it : CI} {tg : CT} {vs : List Nat} {ifs : Option CB} {elt : CE} (ht : tgIn tg vs = true) (q : Ok (evI (evE call n) it st h) fun iv h1 => Ok (lcL (evE call n) iv tg ifs elt (wipeP st vs) h1.n n 0 (h1.push (.lst []))) fun _ h2 => Q (.ref h1.n) h2) :
    Ok (evE call (n + 1) (.lc it tg vs ifs elt) st h) Q := by
  show Ok (eLc n (evE call n) it tg vs ifs elt st h) Q
  unfold eLc
  rw [ht]
  dsimp only
  cases e1 : evI (evE call n) it st h with
  | stuck => rw [e1] at q; exact q
  | ok iv h1 =>
    rw [e1] at q
    have q : Ok (lcL (evE call n) iv tg ifs elt (wipeP st vs) h1.n n 0 (h1.push (.lst []))) fun _ h2 => Q (.ref h1.n) h2 := q
    dsimp only
    cases e2 : lcL (evE call n) iv tg ifs elt (wipeP st vs) h1.n n 0 (h1.push (.lst [])) with
    | stuck => rw [e2] at q; exact q
    | ok u h2 => rw [e2] at q; exact q
variable {QB : Bool → PH → Prop} {s t : CB}
theorem ok_bval (q : Ok (rec a st h) fun v h1 => ∃ k, truth v h1 = some k ∧ QB k h1) : Ok (evB rec (.val a) st h) QB := by
  unfold evB
  cases e1 : rec a st h with
  | stuck => rw [e1] at q; exact q
  | ok v h1 =>
    rw [e1] at q
    obtain ⟨k, e, q⟩ := q
    dsimp only
    rw [e]
    exact q
theorem ok_bbl (q : Ok (rec a st h) fun v h1 => ∃ k, v = .bl k ∧ QB k h1) : Ok (evB rec (.bl a) st h) QB := by
  unfold evB
  cases e1 : rec a st h with
  | stuck => rw [e1] at q; exact q
  | ok v h1 =>
    rw [e1] at q
    obtain ⟨k, e, q⟩ := q
    subst e
    exact q
theorem ok_bnot (q : Ok (evB rec s st h) fun k h1 => QB (!k) h1) : Ok (evB rec (.not s) st h) QB := by
  unfold evB
  cases e1 : evB rec s st h with
  | stuck => rw [e1] at q; exact q
  | ok k h1 => rw [e1] at q; exact q
theorem ok_band (q : Ok (evB rec s st h) fun k h1 => (k = true → Ok (evB rec t st h1) QB) ∧ (k = false → QB false h1)) : Ok (evB rec (.and s t) st h) QB := by
  unfold evB
  cases e1 : evB rec s st h with
  | stuck => rw [e1] at q; exact q
  | ok k h1 =>
    rw [e1] at q
    cases k with
    | true => exact q.1 rfl
    | false => exact q.2 rfl
theorem ok_bor (q : Ok (evB rec s st h) fun k h1 => (k = false → Ok (evB rec t st h1) QB) ∧ (k = true → QB true h1)) : Ok (evB rec (.or s t) st h) QB := by
  unfold evB
  cases e1 : evB rec s st h with
  | stuck => rw [e1] at q; exact q
  | ok k h1 =>
    rw [e1] at q
    cases k with
    | true => exact q.2 rfl
    | false => exact q.1 rfl
theorem ok_ifN (q : QB true h) : Ok (evIf rec none st h) QB := q
theorem ok_ifS (q : Ok (evB rec s st h) QB) : Ok (evIf rec (some s) st h) QB := q
variable {QI : IV → PH → Prop}
theorem ok_over (q : Ok (rec a st h) fun v h1 => (∃ i xs, v = .ref i ∧ seqL (.ref i) h1 = some xs ∧ QI (.lst i) h1) ∨ ∃ xs, v = .tup xs ∧ QI (.tup xs) h1) : Ok (evI rec (.over a) st h) QI := by
  unfold evI
  dsimp only
  cases e1 : rec a st h with
  | stuck => rw [e1] at q; exact q
  | ok v h1 =>
    rw [e1] at q
    rcases q with ⟨i, xs, e, e2, q⟩ | ⟨xs, e, q⟩
    · subst e
      dsimp only
      rw [e2]
      exact q
    · subst e
      exact q
theorem ok_enum (q : Ok (rec a st h) fun v h1 => (∃ i xs, v = .ref i ∧ seqL (.ref i) h1 = some xs ∧ QI (.enumL i) h1) ∨ ∃ xs, v = .tup xs ∧ QI (.enumT xs) h1) : Ok (evI rec (.enum a) st h) QI := by
  unfold evI
  dsimp only
  cases e1 : rec a st h with
  | stuck => rw [e1] at q; exact q
  | ok v h1 =>
    rw [e1] at q
    rcases q with ⟨i, xs, e, e2, q⟩ | ⟨xs, e, q⟩
    · subst e
      dsimp only
      rw [e2]
      exact q
    · subst e
      exact q
theorem ok_rng1 (q : Ok (rec a st h) fun v h1 => ∃ j, v = .int j ∧ (-1000000 ≤ j ∧ j ≤ 1000000) ∧ QI (.rng 0 j.toNat) h1) : Ok (evI rec (.rng1 a) st h) QI := by
  unfold evI
  dsimp only
  cases e1 : rec a st h with
  | stuck => rw [e1] at q; exact q
  | ok v h1 =>
    rw [e1] at q
    obtain ⟨j, e, z, q⟩ := q
    subst e
    dsimp only
    rw [decide_eq_true z.1, decide_eq_true z.2]
    exact q
theorem ok_rng2 (q : Ok (rec a st h) fun v h1 => ∃ i, v = .int i ∧ Ok (rec b st h1) fun w h2 => ∃ j, w = .int j ∧ (-1000000 ≤ i ∧ i ≤ 1000000 ∧ -1000000 ≤ j ∧ j ≤ 1000000) ∧ QI (.rng i (j - i).toNat) h2) : Ok (evI rec (.rng2 a b) st h) QI := by
  unfold evI
  dsimp only
  cases e1 : rec a st h with
  | stuck => rw [e1] at q; exact q
  | ok v h1 =>
    rw [e1] at q
    obtain ⟨i, e, q⟩ := q
    subst e
    dsimp only
    cases e2 : rec b st h1 with
    | stuck => rw [e2] at q; exact q
    | ok w h2 =>
      rw [e2] at q
      obtain ⟨j, e, z, q⟩ := q
      subst e
      dsimp only
      rw [decide_eq_true z.1, decide_eq_true z.2.1, decide_eq_true z.2.2.1, decide_eq_true z.2.2.2]
      exact q
variable {N B C : PSt → PH → Prop} {T : PV → PH → Prop} {recS : CS → PSt → PH → R FR}
theorem os_nil (q : N st h) : OkS (evSs recS [] st h) N T B C := q
theorem os_cons {k : CS} {ks : List CS} (q : OkS (recS k st h) (fun st1 h1 => OkS (evSs recS ks st1 h1) N T B C) T B C) : OkS (evSs recS (k :: ks) st h) N T B C := by
  unfold evSs
  cases e1 : recS k st h with
  | stuck => rw [e1] at q; exact q
  | ok r h1 =>
    rw [e1] at q
    cases r <;> exact q
theorem os_pass (q : N st h) : OkS (evS call (n + 1) .pass st h) N T B C := q
theorem os_brk (q : B st h) : OkS (evS call (n + 1) .brk st h) N T B C := q
theorem os_cont (q : C st h) : OkS (evS call (n + 1) .cont st h) N T B C := q
theorem os_retN (q : T .non h) : OkS (evS call (n + 1) .retN st h) N T B C := q
theorem os_ret (q : Ok (evE call n a st h) T) : OkS (evS call (n + 1) (.ret a) st h) N T B C := by
  show OkS (xRet n (evE call n) (evS call n) a st h) N T B C
  unfold xRet
  cases e1 : evE call n a st h with
  | stuck => rw [e1] at q; exact q
  | ok v h1 => rw [e1] at q; exact q
theorem os_expr (q : Ok (evE call n a st h) fun _ h1 => N st h1) : OkS (evS call (n + 1) (.expr a) st h) N T B C := by
  show OkS (xExpr n (evE call n) (evS call n) a st h) N T B C
  unfold xExpr
  cases e1 : evE call n a st h with
  | stuck => rw [e1] at q; exact q
  | ok v h1 => rw [e1] at q; exact q
theorem os_asg {tg : CT} (q : Ok (evE call n a st h) fun v h1 => ∃ st1, asgT tg v st = some st1 ∧ N st1 h1) : OkS (evS call (n + 1) (.asg tg a) st h) N T B C := by
  show OkS (xAsg n (evE call n) (evS call n) tg a st h) N T B C
  unfold xAsg
  cases e1 : evE call n a st h with
  | stuck => rw [e1] at q; exact q
  | ok v h1 =>
    rw [e1] at q
    obtain ⟨st1, e, q⟩ := q
    dsimp only
    rw [asgA_of e]
    exact q
theorem os_set {i : Nat} (q : Ok (evE call n a st h) fun v h1 => N (st.set i (some v)) h1) : OkS (evS call (n + 1) (.asg (.nm i) a) st h) N T B C := os_asg (q.mono fun v h1 z => ⟨_, rfl, z⟩)
theorem os_par {i j : Nat} (q : Ok (evE call n a st h) fun v h1 => Ok (evE call n b st h1) fun w h2 => N ((st.set i (some v)).set j (some w)) h2) : OkS (evS call (n + 1) (.par i j a b) st h) N T B C := by
  show OkS (xPar n (evE call n) (evS call n) i j a b st h) N T B C
  unfold xPar
  cases e1 : evE call n a st h with
  | stuck => rw [e1] at q; exact q
  | ok v h1 =>
    rw [e1] at q
    have q : Ok (evE call n b st h1) fun w h2 => N ((st.set i (some v)).set j (some w)) h2 := q
    dsimp only
    cases e2 : evE call n b st h1 with
    | stuck => rw [e2] at q; exact q
    | ok w h2 => rw [e2] at q; exact q
theorem os_par3 {i j l : Nat} (q : Ok (evE call n a st h) fun v h1 => Ok (evE call n b st h1) fun w h2 => Ok (evE call n d st h2) fun u h3 => N (((st.set i (some v)).set j (some w)).set l (some u)) h3) : OkS (evS call (n + 1) (.par3 i j l a b d) st h) N T B C := by
  show OkS (xPar3 n (evE call n) (evS call n) i j l a b d st h) N T B C
  unfold xPar3
  cases e1 : evE call n a st h with
  | stuck => rw [e1] at q; exact q
  | ok v h1 =>
    rw [e1] at q
    have q : Ok (evE call n b st h1) fun w h2 => Ok (evE call n d st h2) fun u h3 => N (((st.set i (some v)).set j (some w)).set l (some u)) h3 := q
    dsimp only
    cases e2 : evE call n b st h1 with
    | stuck => rw [e2] at q; exact q
    | ok w h2 =>
      rw [e2] at q
      have q : Ok (evE call n d st h2) fun u h3 => N (((st.set i (some v)).set j (some w)).set l (some u)) h3 := q
      dsimp only
      cases e3 : evE call n d st h2 with
      | stuck => rw [e3] at q; exact q
      | ok u h3 => rw [e3] at q; exact q
theorem os_setix (q : Ok (evE call n d st h) fun v h1 => Ok (evE call n a st h1) fun o h2 => Ok (evE call n b st h2) fun k h3 => ∃ h4, setP o k v h3 = some h4 ∧ N st h4) : OkS (evS call (n + 1) (.setix a b d) st h) N T B C := by
  show OkS (xSetix n (evE call n) (evS call n) a b d st h) N T B C
  unfold xSetix
  cases e1 : evE call n d st h with
  | stuck => rw [e1] at q; exact q
  | ok v h1 =>
    rw [e1] at q
    have q : Ok (evE call n a st h1) fun o h2 => Ok (evE call n b st h2) fun k h3 => ∃ h4, setP o k v h3 = some h4 ∧ N st h4 := q
    dsimp only
    cases e2 : evE call n a st h1 with
    | stuck => rw [e2] at q; exact q
    | ok o h2 =>
      rw [e2] at q
      have q : Ok (evE call n b st h2) fun k h3 => ∃ h4, setP o k v h3 = some h4 ∧ N st h4 := q
      dsimp only
      cases e3 : evE call n b st h2 with
      | stuck => rw [e3] at q; exact q
      | ok k h3 =>
        rw [e3] at q
        obtain ⟨h4, e, q⟩ := q
        dsimp only
        rw [e]
        exact q
theorem os_ite {t u : List CS} (q : Ok (evB (evE call n) s st h) fun k h1 => (k = true → OkS (evSs (evS call n) t st h1) N T B C) ∧ (k = false → OkS (evSs (evS call n) u st h1) N T B C)) : OkS (evS call (n + 1) (.ite s t u) st h) N T B C := by
  show OkS (xIte n (evE call n) (evS call n) s t u st h) N T B C
  unfold xIte
  cases e1 : evB (evE call n) s st h with
  | stuck => rw [e1] at q; exact q
  | ok k h1 =>
    rw [e1] at q
    cases k with
    | true => exact q.1 rfl
    | false => exact q.2 rfl
theorem os_for {tg : CT} {it : CI} {t : List CS} (q : Ok (evI (evE call n) it st h) fun iv h1 => OkS (forL (evSs (evS call n) t) iv tg n 0 st h1) N T B C) : OkS (evS call (n + 1) (.for tg it t) st h) N T B C := by
  show OkS (xFor n (evE call n) (evS call n) tg it t st h) N T B C
  unfold xFor
  cases e1 : evI (evE call n) it st h with
  | stuck => rw [e1] at q; exact q
  | ok iv h1 => rw [e1] at q; exact q
theorem os_while {t : List CS} (q : OkS (whL (evB (evE call n) s) (evSs (evS call n) t) n st h) N T B C) : OkS (evS call (n + 1) (.while s t) st h) N T B C := q
theorem os_forL {body : PSt → PH → R FR} {iv : IV} {tg : CT} (I : Nat → PSt → PH → Prop) (top : Nat)
    (turn : ∀ k st h, I k st h → k ≤ top ∧ ((ivN iv k h = .stop ∧ N st h) ∨ ∃ v st1, ivN iv k h = .item v ∧ asgT tg v st = some st1 ∧ OkS (body st1 h) (I (k + 1)) T N (I (k + 1)))) :
    ∀ (m k : Nat) (st : PSt) (h : PH), top < m + k → I k st h → OkS (forL body iv tg m k st h) N T B C
  | 0, k, st, h, hm, i => by
    have z := (turn k st h i).1
    omega
  | m + 1, k, st, h, hm, i => by
    unfold forL
    obtain ⟨_, ⟨e, q⟩ | ⟨v, st1, e, e2, q⟩⟩ := turn k st h i
    · rw [e]
      exact q
    · rw [e]
      dsimp only
      rw [e2]
      dsimp only
      cases e3 : body st1 h with
      | stuck => rw [e3] at q; exact q
      | ok r h2 =>
        rw [e3] at q
        cases r with
        | nx st2 => exact os_forL I top turn m (k + 1) st2 h2 (by omega) q
        | ct st2 => exact os_forL I top turn m (k + 1) st2 h2 (by omega) q
        | bk st2 => exact q
        | rt v => exact q
theorem os_whL {test : PSt → PH → R Bool} {body : PSt → PH → R FR} (I : Nat → PSt → PH → Prop)
    (turn : ∀ k st h, I k st h → Ok (test st h) fun b h1 => (b = false → N st h1) ∧ (b = true → 0 < k ∧ OkS (body st h1) (I (k - 1)) T N (I (k - 1)))) :
    ∀ (m k : Nat) (st : PSt) (h : PH), k < m → I k st h → OkS (whL test body m st h) N T B C
  | 0, k, st, h, hm, i => absurd hm (Nat.not_lt_zero _)
  | m + 1, k, st, h, hm, i => by
    unfold whL
    have q := turn k st h i
    cases e : test st h with
    | stuck => rw [e] at q; exact q.elim
    | ok b h1 =>
      rw [e] at q
      cases b with
      | false => exact q.1 rfl
      | true =>
        obtain ⟨q1, q2⟩ := q.2 rfl
        dsimp only
        cases e3 : body st h1 with
        | stuck => rw [e3] at q2; exact q2
        | ok r h2 =>
          rw [e3] at q2
          cases r with
          | nx st2 => exact os_whL I turn m (k - 1) st2 h2 (by omega) q2
          | ct st2 => exact os_whL I turn m (k - 1) st2 h2 (by omega) q2
          | bk st2 => exact q2
          | rt v => exact q2
theorem ok_lcL {iv : IV} {tg : CT} {ifs : Option CB} {elt : CE} {st : PSt} {d : Nat} {Q : Unit → PH → Prop} (I : Nat → PH → Prop) (top : Nat)
    (turn : ∀ k h, I k h → k ≤ top ∧ ((ivN iv k h = .stop ∧ Q () h) ∨ ∃ v st1, ivN iv k h = .item v ∧ asgT tg v st = some st1 ∧ Ok (evIf rec ifs st1 h) fun b h1 => (b = false → I (k + 1) h1) ∧ (b = true → Ok (rec elt st1 h1) fun v h2 => ∃ acc, h2.get d = some (.lst acc) ∧ acc.length ≤ 100000 ∧ I (k + 1) (h2.set d (.lst (acc ++ [v])))))) :
    ∀ (m k : Nat) (h : PH), top < m + k → I k h → Ok (lcL rec iv tg ifs elt st d m k h) Q
  | 0, k, h, hm, i => by
    have z := (turn k h i).1
    omega
  | m + 1, k, h, hm, i => by
    unfold lcL
    obtain ⟨_, ⟨e, q⟩ | ⟨v, st1, e, e2, q⟩⟩ := turn k h i
    · rw [e]
      exact q
    · rw [e]
      dsimp only
      rw [e2]
      dsimp only
      cases e3 : evIf rec ifs st1 h with
      | stuck => rw [e3] at q; exact q
      | ok b h1 =>
        rw [e3] at q
        cases b with
        | false => exact ok_lcL I top turn m (k + 1) h1 (by omega) (q.1 rfl)
        | true =>
          have q := q.2 rfl
          dsimp only
          cases e4 : rec elt st1 h1 with
          | stuck => rw [e4] at q; exact q
          | ok u h2 =>
            rw [e4] at q
            obtain ⟨acc, g1, g2, g3⟩ := q
            dsimp only
            have e5 : lstAt (.ref d) h2 = some (d, acc) := by
              unfold lstAt
              dsimp only
              rw [g1]
            rw [e5]
            dsimp only
            unfold small
            rw [Nat.ble_eq_true_of_le g2]
            exact ok_lcL I top turn m (k + 1) _ (by omega) g3
end
section
variable {call : Nat → List PV → PH → R PV} {n : Nat} {rec : CE → PSt → PH → R PV} {st : PSt} {h : PH} {Q : PV → PH → Prop} {b : CE}
end
def core (q : Def) : Nat × Nat × List CS := (q.ar, q.sz, q.body)
def At (P : Prg) (k : Nat) (c : Def) : Prop := Nat.blt k xbig = true ∧ ((show List Def from P)[k]?).map core = some (core c)
theorem ok_def {P : Prg} {n d k ar sz : Nat} {b : List CS} {xb : List XS} {c : Def} {vs : List PV} {h : PH} {Q : PV → PH → Prop} (e : At P k c) (ha : vs.length = ar)
    (q : OkS (evSs (evS (callP P n d) n) b (vs.map some ++ List.replicate (sz - vs.length) none) h) (fun _ h1 => Q .non h1) Q (fun _ _ => False) (fun _ _ => False)) (hc : c = ⟨ar, sz, b, xb⟩ := by exact rfl) : Ok (callP P n (d + 1) k vs h) Q := by
  subst hc
  obtain ⟨_, e⟩ := e
  show Ok (match P[k]? with | some f => runD (callP P n d) n f vs h | none => match Nat.ble xbig k with | true => (match P[k - xbig]? with | some f => runX (callP P n d) n f vs h | none => .stuck) | false => .stuck) Q
  cases e0 : (show List Def from P)[k]? with
  | none => rw [e0] at e; cases e
  | some f =>
    rw [e0] at e
    obtain ⟨ar', sz', b', xb'⟩ := f
    have e := Option.some.inj e
    have e1 : ar' = ar := congrArg Prod.fst e
    have e2 : sz' = sz := congrArg (fun z => z.2.1) e
    have e3 : b' = b := congrArg (fun z => z.2.2) e
    subst e1 e2 e3
    show Ok (runD (callP P n d) n ⟨ar', sz', b', xb'⟩ vs h) Q
    unfold runD
    dsimp only at ha q ⊢
    rw [show Nat.beq vs.length ar' = true by rw [ha]; exact Nat.beq_refl _]
    dsimp only
    cases e1 : evSs (evS (callP P n d) n) b' (vs.map some ++ List.replicate (sz' - vs.length) none) h with
    | stuck => rw [e1] at q; exact q
    | ok r h1 =>
      rw [e1] at q
      cases r with
      | nx st => exact q
      | rt v => exact q
      | bk st => exact q.elim
      | ct st => exact q.elim
def AtX (P : Prg) (k : Nat) (c : Def) : Prop := Nat.ble (show List Def from P).length xbig = true ∧ (show List Def from P)[k]? = some c
theorem AtX.at {P : Prg} {k : Nat} {c : Def} (e : AtX P k c) : At P k c := by
  obtain ⟨e1, e2⟩ := e
  have h1 := (List.getElem?_eq_some_iff.mp e2).1
  have h2 := Nat.le_of_ble_eq_true e1
  exact ⟨Nat.ble_eq_true_of_le (Nat.lt_of_lt_of_le h1 h2), by rw [e2]; rfl⟩
theorem x_def {P : Prg} {n d k ar sz : Nat} {b : List CS} {xb : List XS} {c : Def} {vs : List PV} {h : PH} {Q : PV → PH → Prop} (e : AtX P k c) (ha : vs.length = ar)
    (q : Ok (xvSs (evS (callP P n d) n) (xvS (evE (callP P n d) n) (evS (callP P n d) n) 20) b xb (vs.map some ++ List.replicate (sz - vs.length) none) h) Q) (hc : c = ⟨ar, sz, b, xb⟩ := by exact rfl) : Ok (callP P n (d + 1) (xbig + k) vs h) Q := by
  subst hc
  obtain ⟨e1, e2⟩ := e
  have h2 := Nat.le_of_ble_eq_true e1
  show Ok (match P[xbig + k]? with | some f => runD (callP P n d) n f vs h | none => match Nat.ble xbig (xbig + k) with | true => (match P[xbig + k - xbig]? with | some f => runX (callP P n d) n f vs h | none => .stuck) | false => .stuck) Q
  have hn : (show List Def from P)[xbig + k]? = none := by
    rw [List.getElem?_eq_none_iff]
    exact Nat.le_trans h2 (Nat.le_add_right _ _)
  rw [show P[xbig + k]? = none from hn, show Nat.ble xbig (xbig + k) = true from Nat.ble_eq_true_of_le (Nat.le_add_right _ _), Nat.add_sub_cancel_left, show P[k]? = some (⟨ar, sz, b, xb⟩ : Def) from e2]
  dsimp only
  unfold runX
  rw [show Nat.beq vs.length ar = true by rw [ha]; exact Nat.beq_refl _]
  exact q
section
variable {rec : CS → PSt → PH → R FR} {xr : XS → PSt → PH → R PV} {ev : CE → PSt → PH → R PV} {s : CS} {ss : List CS} {x : XS} {xs : List XS} {st : PSt} {h : PH} {Q : PV → PH → Prop} {m n : Nat} {call : Nat → List PV → PH → R PV}
theorem x_cons (q : Ok (xr x st h) fun v h1 => (∃ k, v = .int k ∧ Q (.int k) h1) ∨ (v = .non ∧ OkS (rec s st h) (fun st1 h2 => Ok (xvSs rec xr ss xs st1 h2) Q) (fun _ _ => Q .non h) (fun _ _ => False) (fun _ _ => False))) : Ok (xvSs rec xr (s :: ss) (x :: xs) st h) Q := by
  show Ok (match xr x st h with | .stuck => .stuck | .ok (.int k) h1 => .ok (.int k) h1 | .ok _ _ => match rec s st h with | .stuck => .stuck | .ok (.nx st1) h1 => xvSs rec xr ss xs st1 h1 | .ok _ _ => .ok .non h) Q
  cases e : xr x st h with
  | stuck => rw [e] at q; exact q.elim
  | ok v h1 =>
    rw [e] at q
    rcases q with ⟨k, ek, q⟩ | ⟨ev, q⟩
    · subst ek
      exact q
    · subst ev
      dsimp only
      cases e1 : rec s st h with
      | stuck => rw [e1] at q; exact q.elim
      | ok r h2 =>
        rw [e1] at q
        cases r with
        | nx st1 => exact q
        | rt v => exact q
        | bk st1 => exact q.elim
        | ct st1 => exact q.elim
theorem x_no (q : OkS (rec s st h) (fun st1 h2 => Ok (xvSs rec (xvS ev rec (m + 1)) ss xs st1 h2) Q) (fun _ _ => Q .non h) (fun _ _ => False) (fun _ _ => False)) : Ok (xvSs rec (xvS ev rec (m + 1)) (s :: ss) (.no :: xs) st h) Q := x_cons (ok_ret (.inr ⟨rfl, q⟩))
theorem x_rz {k : Nat} (q : Q (.int (k : Nat)) h) : Ok (xvS ev rec (m + 1) (.rz k) st h) Q := q
theorem x_ite {b : CB} {t u : List CS} {tx ux : List XS} (q : Ok (evB ev b st h) fun k h1 => (k = true → Ok (xvSs rec (xvS ev rec m) t tx st h1) Q) ∧ (k = false → Ok (xvSs rec (xvS ev rec m) u ux st h1) Q)) : Ok (xvS ev rec (m + 1) (.ite b t tx u ux) st h) Q := by
  show Ok (match evB ev b st h with | .stuck => .stuck | .ok true h1 => xvSs rec (xvS ev rec m) t tx st h1 | .ok false h1 => xvSs rec (xvS ev rec m) u ux st h1) Q
  cases e : evB ev b st h with
  | stuck => rw [e] at q; exact q.elim
  | ok k h1 =>
    rw [e] at q
    cases k with
    | true => exact q.1 rfl
    | false => exact q.2 rfl
theorem x_call {k : Nat} {es : List CE} (q : Ok (ev (.call (xbig + k) es) st h) Q) : Ok (xvS ev rec (m + 1) (.call k es) st h) Q := q
end
theorem ok_lam {call : Nat → List PV → PH → R PV} {n : Nat} {st : PSt} {h : PH} {Q : PV → PH → Prop} {b xe : CE} {hs : List (Nat × PV)} {aft : Option Bool} (ht : h.get 1 = some .tb)
    (q : Ok (evE call n xe st h) fun v h1 => (∃ k w, v = .int k ∧ hvAt k hs = some w ∧ Q w h1) ∨ (v = .non ∧ Ok (evE call n b st h) fun v2 h2 => match aft with | none => Q v2 h2 | some w => Q (.bl w) h2)) : Ok (evE call (n + 1) (.lam b xe hs aft) st h) Q := by
  show Ok (eLam (evE call n) b xe hs aft st h) Q
  unfold eLam
  rw [ht]
  dsimp only
  cases e : evE call n xe st h with
  | stuck => rw [e] at q; exact q.elim
  | ok v h1 =>
    rw [e] at q
    rcases q with ⟨k, w, ek, e2, q⟩ | ⟨ev, q⟩
    · subst ek
      dsimp only
      rw [e2]
      exact q
    · subst ev
      dsimp only
      cases e2 : evE call n b st h with
      | stuck => rw [e2] at q; exact q.elim
      | ok v2 h2 =>
        rw [e2] at q
        cases aft with
        | none => exact q
        | some w => exact q
theorem ok_is {r : R PV} {Q : PV → PH → Prop} (p : Ok r Q) (k : ∀ v h, Q v h → v = .bl true) : ∃ h', r = .ok (.bl true) h' := by
  cases r with
  | stuck => exact p.elim
  | ok v h =>
    have e := k v h p
    subst e
    exact ⟨h, rfl⟩
end Pyx

namespace Pyx
open PySem L2
def Wf (h : PH) : Prop := h.os.length = h.n
def RowAt (h : PH) (i : Nat) : Prop := ∃ (ns : List Int) (q s r : Int), h.get 0 = some (.fz (ns.map PV.int)) ∧ h.get i = some (.lst [.ref 0, .int q, .int s, .int r]) ∧ 0 ≤ q
structure Le (p : Option Nat) (h h' : PH) : Prop where
  wf : Wf h'
  n : h.n ≤ h'.n
  get : ∀ i o, p ≠ some i → h.get i = some o → h'.get i = some o
  row : ∀ i, p = some i → RowAt h i → RowAt h' i
section
variable {p : Option Nat} {h h0 h1 h2 : PH}
theorem Le.refl (w : Wf h) : Le p h h := ⟨w, Nat.le_refl _, fun _ _ _ e => e, fun _ _ e => e⟩
theorem Le.trans (a : Le p h h1) (b : Le p h1 h2) : Le p h h2 := ⟨b.wf, Nat.le_trans a.n b.n, fun i o k e => b.get i o k (a.get i o k e), fun i k r => b.row i k (a.row i k r)⟩
theorem Le.weak (a : Le none h h1) : Le p h h1 := ⟨a.wf, a.n, fun i o _ e => a.get i o (by intro z; cases z) e, fun i _ ⟨ns, q, s, r, e1, e2, e3⟩ => ⟨ns, q, s, r, a.get _ _ (by intro z; cases z) e1, a.get _ _ (by intro z; cases z) e2, e3⟩⟩
theorem wf_push {o : PO} (w : Wf h) : Wf (h.push o) := by
  unfold Wf PH.push at *
  rw [List.length_cons, w]
theorem wf_set {o : PO} {i : Nat} (w : Wf h) : Wf (h.set i o) := by
  unfold Wf PH.set at *
  dsimp only
  rw [List.length_set, w]
theorem get_old {o : PO} {i : Nat} {u : PO} (e : h.get i = some u) : (h.push o).get i = some u := by
  rw [get_push, if_neg (Nat.ne_of_lt (get_lt e))]
  exact e
theorem get_new {o : PO} : (h.push o).get h.n = some o := by
  rw [get_push, if_pos rfl]
theorem Le.push (w : Wf h) {o : PO} : Le p h (h.push o) := Le.weak ⟨wf_push w, Nat.le_succ _, fun i u _ e => get_old e, fun i k _ => by cases k⟩
theorem get_at_set {i : Nat} {o u : PO} (w : Wf h) (e : h.get i = some u) : (h.set i o).get i = some o := by
  rw [get_set w (get_lt e), if_pos rfl]
theorem get_of_set {i j : Nat} {o u v : PO} (w : Wf h) (e : h.get i = some u) (e2 : h.get j = some v) (ne : j ≠ i) : (h.set i o).get j = some v := by
  rw [get_set w (get_lt e), if_neg ne]
  exact e2
theorem Le.set (a : Le p h0 h) {i : Nat} {o u : PO} (hi : h0.n ≤ i) (e : h.get i = some u) : Le p h0 (h.set i o) := by
  refine ⟨wf_set a.wf, a.n, fun j v k ej => get_of_set a.wf e (a.get j v k ej) (fun z => ?_), fun j k ⟨ns, q, s, r, e1, e2, e3⟩ => ?_⟩
  · subst z
    exact absurd (get_lt ej) (Nat.not_lt.mpr hi)
  · obtain ⟨ns', q', s', r', f1, f2, f3⟩ := a.row j k ⟨ns, q, s, r, e1, e2, e3⟩
    refine ⟨ns', q', s', r', get_of_set a.wf e f1 (fun z => ?_), get_of_set a.wf e f2 (fun z => ?_), f3⟩
    · subst z
      exact absurd (get_lt e1) (Nat.not_lt.mpr hi)
    · subst z
      exact absurd (get_lt e2) (Nat.not_lt.mpr hi)
end
abbrev iL (ns : List Int) : List PV := ns.map PV.int
section
variable {h : PH} {Q : PV → PH → Prop} {i j : Int}
theorem ok_add (q : Q (.int (i + j)) h) : Ok (binP .add (.int i) (.int j) h) Q := q
theorem ok_sub (q : Q (.int (i - j)) h) : Ok (binP .sub (.int i) (.int j) h) Q := q
theorem ok_mod (hj : 0 < j) (q : Q (.int (i % j)) h) : Ok (binP .mod (.int i) (.int j) h) Q := by
  unfold binP
  dsimp only
  rw [decide_eq_true hj]
  exact q
theorem ok_fdiv (hj : 0 < j ∧ j < 1073741824) (q : Q (.int (i / j)) h) : Ok (binP .fdiv (.int i) (.int j) h) Q := by
  unfold binP
  dsimp only
  rw [decide_eq_true hj.1, decide_eq_true hj.2]
  exact q
theorem ok_mulR (hj : wide j = true) (q : Q (.int (i * j)) h) : Ok (binP .mul (.int i) (.int j) h) Q := by
  unfold binP
  dsimp only
  rw [hj, Bool.or_true]
  exact q
theorem ok_catL {a b : Nat} {xs ys : List PV} (ha : h.get a = some (.lst xs)) (hb : h.get b = some (.lst ys)) (z : (xs ++ ys).length ≤ 100000) (q : Q (.ref h.n) (h.push (.lst (xs ++ ys)))) : Ok (binP .add (.ref a) (.ref b) h) Q := by
  unfold binP lstAt
  dsimp only
  rw [ha, hb]
  dsimp only
  unfold okL small
  rw [Nat.ble_eq_true_of_le z]
  exact q
theorem eq_int : cmpP .eq (.int i) (.int j) h = some (decide (i = j)) := by
  show eqP h (.int i) (.int j) = _
  have e : ∀ k : Int, toDat h (.int k) = some (.int k) := fun k => rfl
  unfold eqP
  rw [e, e]
  show some (PyData.eqv (.int i) (.int j)) = _
  rw [PyData.eqv]
  rfl
theorem ne_int : cmpP .ne (.int i) (.int j) h = some (!decide (i = j)) := by
  show negO (cmpP .eq (.int i) (.int j) h) = _
  rw [eq_int]
  rfl
theorem eq_bl {a b : Bool} : cmpP .eq (.bl a) (.bl b) h = some (a == b) := by
  show eqP h (.bl a) (.bl b) = _
  have e : ∀ k : Bool, toDat h (.bl k) = some (.bool k) := fun k => rfl
  unfold eqP
  rw [e, e]
  show some (PyData.eqv (.bool a) (.bool b)) = _
  rw [PyData.eqv]
theorem ne_bl {a b : Bool} : cmpP .ne (.bl a) (.bl b) h = some (!(a == b)) := by
  show negO (cmpP .eq (.bl a) (.bl b) h) = _
  rw [eq_bl]
  rfl
theorem lt_int' : cmpP .lt (.int i) (.int j) h = some (decide (i < j)) := rfl
theorem le_int' : cmpP .le (.int i) (.int j) h = some (decide (i ≤ j)) := rfl
theorem gt_int' : cmpP .gt (.int i) (.int j) h = some (decide (j < i)) := rfl
theorem ge_int' : cmpP .ge (.int i) (.int j) h = some (decide (j ≤ i)) := rfl
theorem seqOf_lst {a : Nat} {xs : List PV} (e : h.get a = some (.lst xs)) : seqOf (.ref a) h = some xs := by
  unfold seqOf
  dsimp only
  rw [e]
theorem seqOf_fz {a : Nat} {xs : List PV} (e : h.get a = some (.fz xs)) : seqOf (.ref a) h = some xs := by
  unfold seqOf
  dsimp only
  rw [e]
theorem seqL_lst {a : Nat} {xs : List PV} (e : h.get a = some (.lst xs)) : seqL (.ref a) h = some xs := by
  unfold seqL
  dsimp only
  rw [e]
theorem any_eqF (i : Int) : ∀ ns : List Int, ((iL ns).any fun y => eqF y (.int i)) = decide (i ∈ ns)
  | [] => rfl
  | k :: ns => by
    show (k == i || (iL ns).any fun y => eqF y (.int i)) = decide (i ∈ k :: ns)
    rw [any_eqF i ns]
    by_cases hk : k = i
    · subst hk
      simp
    · have hk' : ¬ i = k := fun z => hk z.symm
      simp [hk, hk']
theorem in_ints {w : PV} {ns : List Int} (e : seqOf w h = some (iL ns)) : inP (.int i) w h = some (decide (i ∈ ns)) := by
  unfold inP
  rw [e]
  dsimp only
  have e1 : (flatP (.int i) && (iL ns).all flatP) = true := by
    rw [Bool.and_eq_true]
    refine ⟨rfl, List.all_eq_true.mpr fun x hx => ?_⟩
    obtain ⟨k, _, rfl⟩ := List.mem_map.mp hx
    rfl
  rw [e1]
  exact congrArg some (any_eqF i ns)
theorem ix_of_nat {v : PV} {xs : List PV} {k : Nat} {u : PV} (e : seqOf v h = some xs) (g : xs[k]? = some u) : ixP v (.int (k : Int)) h = some u := by
  unfold ixP
  dsimp only
  rw [e]
  exact atI_nat g
theorem ok_len {v : PV} {xs : List PV} (e : seqOf v h = some xs) (q : Q (.int xs.length) h) : Ok (biP .len [v] h) Q := by
  unfold biP
  dsimp only
  rw [e]
  exact q
theorem ok_tupleOf {v : PV} {xs : List PV} (e : seqOf v h = some xs) (z : xs.length ≤ 100000) (q : Q (.tup xs) h) : Ok (biP .tuple [v] h) Q := by
  unfold biP
  dsimp only
  rw [e]
  dsimp only
  unfold okT small
  rw [Nat.ble_eq_true_of_le z]
  exact q
theorem ok_listOf {v : PV} {xs : List PV} (e : seqOf v h = some xs) (z : xs.length ≤ 100000) (q : Q (.ref h.n) (h.push (.lst xs))) : Ok (biP .list [v] h) Q := by
  unfold biP
  dsimp only
  rw [e]
  dsimp only
  unfold okL small
  rw [Nat.ble_eq_true_of_le z]
  exact q
theorem intsP_ints : ∀ ns : List Int, intsP (iL ns) = some ns
  | [] => rfl
  | n :: ns => by
    show (match intsP (iL ns) with | some is => some (n :: is) | none => none) = _
    rw [intsP_ints ns]
theorem ok_setOf {v : PV} {ns : List Int} (e : seqOf v h = some (iL ns)) (z : ns.length ≤ 60) (q : Q (.ref h.n) (h.push (.set (dedI ns)))) : Ok (biP .set [v] h) Q := by
  unfold biP intsOf
  dsimp only
  rw [e]
  dsimp only
  rw [intsP_ints]
  dsimp only
  rw [Nat.ble_eq_true_of_le z]
  exact q
theorem ok_sortedSet {a : Nat} {ns : List Int} (e : h.get a = some (.set ns)) (z : ns.length ≤ 60) (q : Q (.ref h.n) (h.push (.lst (iL (sortI ns))))) : Ok (biP .sorted [.ref a] h) Q := by
  unfold biP setOf
  dsimp only
  rw [e]
  dsimp only
  rw [show Nat.blt ns.length 64 = true from Nat.ble_eq_true_of_le (by omega)]
  dsimp only
  unfold okL small
  have hl : (iL (sortI ns)).length ≤ 100000 := by
    rw [List.length_map, (sortI_perm ns).length_eq]
    omega
  rw [Nat.ble_eq_true_of_le hl]
  exact q
theorem ok_append {a : Nat} {xs : List PV} {v : PV} (e : h.get a = some (.lst xs)) (z : xs.length ≤ 100000) (q : Q .non (h.set a (.lst (xs ++ [v])))) : Ok (mtP .append (.ref a) [v] h) Q := by
  show Ok (appP (.ref a) [v] h) Q
  unfold appP lstAt
  dsimp only
  rw [e]
  dsimp only
  unfold small
  rw [Nat.ble_eq_true_of_le z]
  exact q
theorem set_lst {a k : Nat} {xs : List PV} {v : PV} (e : h.get a = some (.lst xs)) (hk : k < xs.length) : setP (.ref a) (.int (k : Int)) v h = some (h.set a (.lst (xs.set k v))) := by
  unfold setP lstAt
  dsimp only
  rw [e]
  dsimp only
  have e2 : ixN xs.length (k : Int) = some k := by
    unfold ixN
    rw [if_pos (by omega), if_pos (by omega), Int.toNat_natCast]
  rw [e2]
end
theorem ok_lcI {rec : CE → PSt → PH → R PV} {iv : IV} {tg : CT} {ifs : Option CB} {elt : CE} {st : PSt} {Q : Unit → PH → Prop} (p : Option Nat) (items : List PV) (h0 : PH) (w0 : Wf h0) (hp : ∀ i, p = some i → i < h0.n)
    (hiv : ∀ k h', Le p h0 h' → ivN iv k h' = pick items[k]?) (top : items.length ≤ 90000) (I : Nat → List PV → Prop) (I0 : I 0 [])
    (body : ∀ k v acc h1, items[k]? = some v → I k acc → Le p h0 h1 → ∃ st1, asgT tg v st = some st1 ∧ Ok (evIf rec ifs st1 h1) fun b h2 => Le p h1 h2 ∧ (b = false → I (k + 1) acc) ∧ (b = true → Ok (rec elt st1 h2) fun w h3 => Le p h2 h3 ∧ I (k + 1) (acc ++ [w])))
    (q : ∀ acc h', I items.length acc → acc.length ≤ items.length → Le p h0 h' → h'.get h0.n = some (.lst acc) → Q () h') {m : Nat} (hm : items.length < m) :
    Ok (lcL rec iv tg ifs elt st h0.n m 0 (h0.push (.lst []))) Q := by
  have ne : p ≠ some h0.n := fun z => absurd (hp _ z) (Nat.lt_irrefl _)
  refine ok_lcL (fun k h' => ∃ acc, I k acc ∧ k ≤ items.length ∧ acc.length ≤ k ∧ Le p h0 h' ∧ h'.get h0.n = some (.lst acc)) items.length (fun k h' ⟨acc, i1, i2, i3, i4, i5⟩ => ⟨i2, ?_⟩) m 0 _ hm ⟨[], I0, Nat.zero_le _, Nat.le_refl _, Le.push w0, get_new⟩
  have e := hiv k h' i4
  cases g : items[k]? with
  | none =>
    rw [g] at e
    have hk : items.length ≤ k := List.getElem?_eq_none_iff.mp g
    have hk : k = items.length := by omega
    subst hk
    exact .inl ⟨e, q acc h' i1 i3 i4 i5⟩
  | some v =>
    rw [g] at e
    have hk : k < items.length := (List.getElem?_eq_some_iff.mp g).1
    obtain ⟨st1, e1, b⟩ := body k v acc h' g i1 i4
    refine .inr ⟨v, st1, e, e1, b.mono fun b h2 ⟨l2, b1, b2⟩ => ⟨fun z => ⟨acc, b1 z, hk, by omega, i4.trans l2, l2.get _ _ ne i5⟩, fun z => (b2 z).mono fun w h3 ⟨l3, i6⟩ => ?_⟩⟩
    have g3 := l3.get _ _ ne (l2.get _ _ ne i5)
    have l4 := (i4.trans l2).trans l3
    refine ⟨acc, g3, by omega, acc ++ [w], i6, hk, by rw [List.length_append, List.length_singleton]; omega, Le.set l4 (Nat.le_refl _) g3, get_at_set l4.wf g3⟩
theorem iv_tup {xs : List PV} (k : Nat) (h : PH) : ivN (.tup xs) k h = pick xs[k]? := rfl
theorem iv_lst {p : Option Nat} {h0 : PH} {a : Nat} {xs : List PV} (e : h0.get a = some (.lst xs)) (ne : p ≠ some a) (k : Nat) (h : PH) (l : Le p h0 h) : ivN (.lst a) k h = pick xs[k]? := by
  unfold ivN
  dsimp only
  rw [seqL_lst (l.get _ _ ne e)]
def rng (lo : Int) (n : Nat) : List PV := (List.range n).map fun k => .int (lo + (k : Nat))
theorem rng_len {lo : Int} {n : Nat} : (rng lo n).length = n := by
  unfold rng
  rw [List.length_map, List.length_range]
theorem rng_at {lo : Int} {n k : Nat} {v : PV} (e : (rng lo n)[k]? = some v) : k < n ∧ v = .int (lo + (k : Nat)) := by
  unfold rng at e
  rw [List.getElem?_map] at e
  by_cases hk : k < n
  · rw [List.getElem?_range hk] at e
    cases e
    exact ⟨hk, rfl⟩
  · rw [List.getElem?_eq_none (by rw [List.length_range]; omega)] at e
    cases e
theorem iv_rng {lo : Int} {n : Nat} (k : Nat) (h : PH) : ivN (.rng lo n) k h = pick (rng lo n)[k]? := by
  unfold ivN rng
  dsimp only
  rw [List.getElem?_map]
  by_cases hk : k < n
  · rw [show Nat.blt k n = true from Nat.ble_eq_true_of_le hk, List.getElem?_range hk]
    rfl
  · rw [List.getElem?_eq_none (by rw [List.length_range]; omega)]
    have e : Nat.blt k n = false := by
      cases z : Nat.blt k n with
      | false => rfl
      | true => exact absurd (Nat.le_of_ble_eq_true z) hk
    rw [e]
    rfl
theorem truth_bl {b : Bool} {h : PH} : truth (.bl b) h = some b := rfl
theorem filter_step (c : Nat → Bool) (f : Nat → PV) (k : Nat) : ((List.range (k + 1)).filter c).map f = ((List.range k).filter c).map f ++ (if c k then [f k] else []) := by
  rw [List.range_succ, List.filter_append, List.map_append]
  cases e : c k <;> simp [e]
end Pyx

namespace Pyx
open PySem L2
def cf_is_in (ix : Nat → Nat) : Def := { ar := 3, sz := 3, body := [(.ret (.and (.isi (.var 0) .int) (.and (.not (.isi (.var 0) .bool)) (.chain .le .le (.var 1) (.var 0) (.var 2)))))] }
def cf_need_line (ix : Nat → Nat) : Def := { ar := 1, sz := 7, body := [(.ite (.or (.not (.val (.isi (.var 0) .tuple))) (.or (.bl (.cmp .ne (.bi .len [(.var 0)]) (.val (.int 3)))) (.not (.val (.isi (.ix (.var 0) (.val (.int 2))) .bool))))) [.stuck] []), (.asg (.tup [(.nm 1), (.nm 2), (.nm 3)]) (.var 0)), (.asg (.nm 4) (.ite (.val (.var 3)) (.val (.int 3)) (.val (.int 1)))), (.ite (.or (.not (.val (.isi (.var 1) .tuple))) (.not (.bl (.chain .le .le (.var 4) (.bi .len [(.var 1)]) (.val (.int 40)))))) [.stuck] []), (.for (.tup [(.nm 5), (.nm 6)]) (.enum (.var 1)) [(.ite (.not (.val (.call (ix 0) [(.var 6), (.val (.int 0)), (.val (.int 9))]))) [.stuck] [])]), (.ite (.not (.val (.call (ix 2) [(.bi .len [(.var 1)]), (.var 2)]))) [.stuck] [])] }
def cf_is_cells (ix : Nat → Nat) : Def := { ar := 2, sz := 3, body := [(.ite (.or (.not (.val (.isi (.var 1) .tuple))) (.bl (.cmp .ne (.lc (.over (.var 1)) (.nm 2) [2] (some (.not (.val (.call (ix 0) [(.var 2), (.val (.int 0)), (.bin .sub (.var 0) (.val (.int 1)))])))) (.var 2)) (.lst [])))) [(.ret (.val (.bl false)))] []), (.ret (.cmp .eq (.bi .list [(.var 1)]) (.bi .sorted [(.bi .set [(.var 1)])])))] }
def cf_held_in (ix : Nat → Nat) : Def := { ar := 1, sz := 5, body := [(.asg (.tup [(.nm 1), (.nm 2), (.nm 3)]) (.var 0)), (.asg (.nm 4) (.ite (.val (.var 3)) (.lst []) (.lst [(.val (.int 0)), (.bin .sub (.bi .len [(.var 1)]) (.val (.int 1)))]))), (.ret (.bi .sorted [(.bi .set [(.bin .add (.bi .list [(.var 2)]) (.var 4))])]))] }
def cf_flanks (ix : Nat → Nat) : Def := { ar := 2, sz := 2, body := [(.ret (.tup [(.bin .mod (.bin .sub (.var 1) (.val (.int 1))) (.var 0)), (.bin .mod (.bin .add (.var 1) (.val (.int 1))) (.var 0))]))] }
def cf_is_flanked (ix : Nat → Nat) : Def := { ar := 2, sz := 4, body := [(.asg (.tup [(.nm 2), (.nm 3)]) (.call (ix 5) [(.bi .len [(.var 0)]), (.var 1)])), (.ret (.chain .eq .ne (.ix (.var 0) (.var 2)) (.ix (.var 0) (.var 3)) (.ix (.var 0) (.var 1))))] }
def cf_ready_in (ix : Nat → Nat) : Def := { ar := 1, sz := 3, body := [(.asg (.nm 1) (.call (ix 4) [(.var 0)])), (.ret (.lc (.rng1 (.bi .len [(.ix (.var 0) (.val (.int 0)))])) (.nm 2) [2] (some (.and (.bl (.isin true (.var 2) (.var 1))) (.val (.call (ix 6) [(.ix (.var 0) (.val (.int 0))), (.var 2)])))) (.var 2)))] }
def cf_with_turned (ix : Nat → Nat) : Def := { ar := 2, sz := 4, body := [(.asg (.nm 2) (.bi .list [(.var 0)])), (.for (.nm 3) (.over (.var 1)) [(.setix (.var 2) (.var 3) (.ix (.var 0) (.bin .sub (.var 3) (.val (.int 1)))))]), (.ret (.bi .tuple [(.var 2)]))] }
def cf_swings_in (ix : Nat → Nat) : Def := { ar := 1, sz := 1, body := [(.ret (.and (.ix (.var 0) (.val (.int 2))) (.cmp .eq (.bi .len [(.call (ix 7) [(.var 0)])]) (.bi .len [(.ix (.var 0) (.val (.int 0)))]))))] }
def cf_stretches_in (ix : Nat → Nat) : Def := { ar := 1, sz := 6, body := [(.par 1 2 (.call (ix 7) [(.var 0)]) (.bi .len [(.ix (.var 0) (.val (.int 0)))])), (.asg (.nm 3) (.lst [])), (.for (.nm 4) (.over (.var 1)) [(.ite (.bl (.isin true (.bin .mod (.bin .sub (.var 4) (.val (.int 1))) (.var 2)) (.var 1))) [(.asg (.nm 5) (.lst [(.bin .mod (.bin .sub (.var 4) (.val (.int 1))) (.var 2)), (.var 4)])), (.while (.bl (.isin false (.ix (.var 5) (.neg (.val (.int 1)))) (.var 1))) [(.expr (.mt .append (.var 5) [(.bin .mod (.bin .add (.ix (.var 5) (.neg (.val (.int 1)))) (.val (.int 1))) (.var 2))]))]), (.expr (.mt .append (.var 3) [(.bi .tuple [(.var 5)])]))] [])]), (.ret (.bi .sorted [(.var 3)]))] }
def cf_need_resting (ix : Nat → Nat) : Def := { ar := 1, sz := 1, body := [(.expr (.call (ix 1) [(.var 0)])), (.ite (.val (.call (ix 11) [(.var 0)])) [.stuck] [])] }
def cf_depths_in (ix : Nat → Nat) : Def := { ar := 1, sz := 4, body := [(.asg (.nm 1) (.bin .mul (.lst [(.val (.int 0))]) (.bi .len [(.ix (.var 0) (.val (.int 0)))]))), (.for (.nm 2) (.over (.call (ix 13) [(.var 0)])) [(.for (.nm 3) (.rng2 (.val (.int 1)) (.bin .sub (.bi .len [(.var 2)]) (.val (.int 1)))) [(.setix (.var 1) (.ix (.var 2) (.var 3)) (.bi .min [(.var 3), (.bin .sub (.bin .sub (.bi .len [(.var 2)]) (.val (.int 1))) (.var 3))]))])]), (.ret (.var 1))] }
def cf_need_time (ix : Nat → Nat) : Def := { ar := 1, sz := 1, body := [(.ite (.not (.val (.call (ix 0) [(.var 0), (.val (.int 0)), (.val (.int 1000000))]))) [.stuck] [])] }
def cf_with_cells (ix : Nat → Nat) : Def := { ar := 2, sz := 2, body := [(.ret (.tup [(.bi .tuple [(.var 1)]), (.ix (.var 0) (.val (.int 1))), (.ix (.var 0) (.val (.int 2)))]))] }
def cf_step (ix : Nat → Nat) : Def := { ar := 1, sz := 1, body := [(.expr (.call (ix 1) [(.var 0)])), (.ret (.call (ix 19) [(.var 0), (.call (ix 9) [(.ix (.var 0) (.val (.int 0))), (.call (ix 7) [(.var 0)])])]))] }
def cf_turns_in (ix : Nat → Nat) : Def := { ar := 2, sz := 3, body := [(.ite (.val (.call (ix 11) [(.var 0)])) [(.ret (.bin .mul (.lst [(.var 1)]) (.bi .len [(.ix (.var 0) (.val (.int 0)))])))] []), (.ret (.lc (.over (.call (ix 16) [(.var 0)])) (.nm 2) [2] none (.bi .min [(.var 1), (.var 2)])))] }
def cf_cells_after (ix : Nat → Nat) : Def := { ar := 2, sz := 5, body := [(.asg (.nm 2) (.ix (.var 0) (.val (.int 0)))), (.ret (.lc (.enum (.call (ix 21) [(.var 0), (.var 1)])) (.tup [(.nm 3), (.nm 4)]) [3, 4] none (.ite (.bl (.cmp .eq (.bin .mod (.var 4) (.val (.int 2))) (.val (.int 1)))) (.ix (.var 2) (.bin .sub (.var 3) (.val (.int 1)))) (.ix (.var 2) (.var 3)))))] }
def cf_after (ix : Nat → Nat) : Def := { ar := 2, sz := 2, body := [(.expr (.call (ix 1) [(.var 0)])), (.expr (.call (ix 18) [(.var 1)])), (.ret (.call (ix 19) [(.var 0), (.call (ix 22) [(.var 0), (.var 1)])]))] }
def cf_rest_cells (ix : Nat → Nat) : Def := { ar := 1, sz := 1, body := [(.ret (.call (ix 22) [(.var 0), (.bi .len [(.ix (.var 0) (.val (.int 0)))])]))] }
def cf_rest (ix : Nat → Nat) : Def := { ar := 1, sz := 1, body := [(.expr (.call (ix 15) [(.var 0)])), (.ret (.call (ix 19) [(.var 0), (.call (ix 24) [(.var 0)])]))] }
def cf_rest_time (ix : Nat → Nat) : Def := { ar := 1, sz := 1, body := [(.expr (.call (ix 15) [(.var 0)])), (.ret (.bi .max [(.call (ix 16) [(.var 0)])]))] }
def cf__law_taken (ix : Nat → Nat) : Def := { ar := 2, sz := 4, body := [(.ite (.bl (.cmp .gt (.ix (.var 0) (.val (.int 3))) (.val (.int 0)))) [(.asg (.nm 2) (.bin .mod (.bi .int [(.ix (.var 0) (.val (.int 3)))]) (.var 1))), (.setix (.var 0) (.val (.int 3)) (.bin .fdiv (.ix (.var 0) (.val (.int 3))) (.var 1))), (.ret (.var 2))] []), (.setix (.var 0) (.val (.int 1)) (.bin .add (.ix (.var 0) (.val (.int 1))) (.val (.int 1)))), (.ite (.bl (.cmp .gt (.ix (.var 0) (.val (.int 1))) (.bi .len [(.ix (.var 0) (.val (.int 0)))]))) [(.setix (.var 0) (.val (.int 2)) (.bin .mod (.bi .int [(.bin .add (.bin .mul (.ix (.var 0) (.val (.int 2))) (.val (.int 48271))) (.val (.int 11)))]) (.val (.int 2147483647)))), (.ret (.bin .mod (.bi .int [(.bin .fdiv (.ix (.var 0) (.val (.int 2))) (.val (.int 7)))]) (.var 1)))] []), (.asg (.nm 3) (.ix (.ix (.var 0) (.val (.int 0))) (.bin .sub (.ix (.var 0) (.val (.int 1))) (.val (.int 1))))), (.setix (.var 0) (.val (.int 2)) (.bin .mod (.bi .int [(.bin .add (.bin .add (.bin .mul (.ix (.var 0) (.val (.int 2))) (.val (.int 48271))) (.var 3)) (.val (.int 11)))]) (.val (.int 2147483647)))), (.ite (.bl (.cmp .ge (.var 3) (.bin .pow (.val (.int 10)) (.val (.int 18))))) [(.setix (.var 0) (.val (.int 3)) (.bin .fdiv (.var 3) (.var 1)))] []), (.ret (.bin .mod (.bi .int [(.var 3)]) (.var 1)))] }
def cf__law_pick (ix : Nat → Nat) : Def := { ar := 2, sz := 2, body := [(.ret (.ix (.var 1) (.call (ix 38) [(.var 0), (.bi .len [(.var 1)])])))] }
def cf__law_line (ix : Nat → Nat) : Def := { ar := 3, sz := 11, body := [(.asg (.nm 3) (.cmp .eq (.call (ix 38) [(.var 0), (.val (.int 2))]) (.val (.int 0)))), (.asg (.nm 4) (.ite (.val (.var 3)) (.bin .add (.val (.int 3)) (.call (ix 38) [(.var 0), (.bin .sub (.var 1) (.val (.int 2)))])) (.bin .add (.val (.int 1)) (.call (ix 38) [(.var 0), (.var 1)])))), (.par 5 6 (.call (ix 38) [(.var 0), (.val (.int 4))]) (.lst [(.call (ix 38) [(.var 0), (.var 2)]), (.call (ix 38) [(.var 0), (.var 2)])])), (.for (.nm 7) (.rng2 (.val (.int 2)) (.var 4)) [(.asg (.nm 8) (.call (ix 38) [(.var 0), (.var 2)])), (.expr (.mt .append (.var 6) [(.ite (.and (.bl (.cmp .gt (.var 5) (.val (.int 0)))) (.bl (.cmp .lt (.call (ix 38) [(.var 0), (.val (.int 5))]) (.bin .add (.var 5) (.val (.int 1)))))) (.ix (.var 6) (.bin .sub (.var 7) (.val (.int 2)))) (.var 8))]))]), (.asg (.nm 9) (.call (ix 39) [(.var 0), (.lst [(.val (.int 3)), (.val (.int 6)), (.val (.int 40))])])), (.asg (.nm 10) (.bi .tuple [(.lc (.rng1 (.var 4)) (.nm 7) [7] (some (.bl (.cmp .eq (.call (ix 38) [(.var 0), (.var 9)]) (.val (.int 0))))) (.var 7))])), (.ret (.tup [(.bi .tuple [(.sl (.var 6) none (some (.var 4)))]), (.var 10), (.var 3)]))] }
def cf__law_held (ix : Nat → Nat) : Def := { ar := 1, sz := 3, body := [(.asg (.nm 1) (.bi .len [(.ix (.var 0) (.val (.int 0)))])), (.ret (.lc (.rng1 (.var 1)) (.nm 2) [2] (some (.or (.bl (.isin false (.var 2) (.ix (.var 0) (.val (.int 1))))) (.and (.not (.val (.ix (.var 0) (.val (.int 2))))) (.bl (.isin false (.var 2) (.lst [(.val (.int 0)), (.bin .sub (.var 1) (.val (.int 1)))])))))) (.var 2)))] }
def cf__law_ready (ix : Nat → Nat) : Def := { ar := 1, sz := 8, body := [(.asg (.tup [(.nm 1), (.nm 2), (.nm 3), (.nm 4)]) (.tup [(.ix (.var 0) (.val (.int 0))), (.bi .len [(.ix (.var 0) (.val (.int 0)))]), (.call (ix 41) [(.var 0)]), (.lst [])])), (.for (.nm 5) (.rng1 (.var 2)) [(.par 6 7 (.ix (.var 1) (.bin .sub (.var 5) (.val (.int 1)))) (.ix (.var 1) (.bin .sub (.bin .add (.var 5) (.val (.int 1))) (.var 2)))), (.ite (.and (.bl (.isin true (.var 5) (.var 3))) (.and (.bl (.cmp .eq (.var 6) (.var 7))) (.bl (.cmp .ne (.var 6) (.ix (.var 1) (.var 5)))))) [(.expr (.mt .append (.var 4) [(.var 5)]))] [])]), (.ret (.var 4))] }
def cf__law_step (ix : Nat → Nat) : Def := { ar := 1, sz := 3, body := [(.asg (.nm 1) (.call (ix 42) [(.var 0)])), (.ret (.tup [(.bi .tuple [(.lc (.rng1 (.bi .len [(.ix (.var 0) (.val (.int 0)))])) (.nm 2) [2] none (.ite (.bl (.isin false (.var 2) (.var 1))) (.ix (.ix (.var 0) (.val (.int 0))) (.bin .sub (.var 2) (.val (.int 1)))) (.ix (.ix (.var 0) (.val (.int 0))) (.var 2))))]), (.ix (.var 0) (.val (.int 1))), (.ix (.var 0) (.val (.int 2)))]))] }
def cf__law_run (ix : Nat → Nat) : Def := { ar := 1, sz := 3, body := [(.asg (.nm 1) (.lst [(.var 0)])), (.for (.nm 2) (.rng1 (.bin .add (.bi .len [(.ix (.var 0) (.val (.int 0)))]) (.val (.int 2)))) [(.ite (.bl (.cmp .eq (.call (ix 42) [(.ix (.var 1) (.neg (.val (.int 1))))]) (.lst []))) [(.ret (.var 1))] []), (.expr (.mt .append (.var 1) [(.call (ix 43) [(.ix (.var 1) (.neg (.val (.int 1))))])]))]), (.ret (.val .non))] }
def cf__law_alike (ix : Nat → Nat) : Def := { ar := 2, sz := 3, body := [(.ite (.val (.isis (.var 1) .tuple .list)) [(.ite (.or (.not (.val (.isis (.var 0) .tuple .list))) (.bl (.cmp .ne (.isi (.var 0) .list) (.isi (.var 1) .list)))) [(.ret (.val (.bl false)))] []), (.ite (.bl (.cmp .ne (.bi .len [(.var 0)]) (.bi .len [(.var 1)]))) [(.ret (.val (.bl false)))] []), (.ret (.cmp .eq (.lc (.rng1 (.bi .len [(.var 1)])) (.nm 2) [2] (some (.not (.val (.call (ix 45) [(.ix (.var 0) (.var 2)), (.ix (.var 1) (.var 2))])))) (.var 2)) (.lst [])))] []), (.ite (.or (.bl (.cmp .is (.var 1) (.val .non))) (.val (.isi (.var 1) .str))) [(.ret (.and (.cmp .eq (.var 0) (.var 1)) (.cmp .eq (.isi (.var 0) .str) (.isi (.var 1) .str))))] []), (.ret (.and (.isi (.var 0) .int) (.and (.cmp .eq (.isi (.var 0) .bool) (.isi (.var 1) .bool)) (.cmp .eq (.var 0) (.var 1)))))] }
end Pyx

namespace Pyx
open PySem L2
theorem ty_ii {i : Int} {h : PH} : isTy (.int i) h .int = some true := rfl
theorem ty_ib {i : Int} {h : PH} : isTy (.int i) h .bool = some false := rfl
theorem ty_tt {xs : List PV} {h : PH} : isTy (.tup xs) h .tuple = some true := rfl
theorem ty_tl {xs : List PV} {h : PH} : isTy (.tup xs) h .list = some false := rfl
theorem ty_bb {b : Bool} {h : PH} : isTy (.bl b) h .bool = some true := rfl
theorem ty_bi {b : Bool} {h : PH} : isTy (.bl b) h .int = some true := rfl
local macro_rules | `(tactic| walk_at "px") => `(tactic| first
  | (with_reducible refine ok_var (v := ?_) (by with_unfolding_all exact rfl) ?_)
  | with_reducible refine os_nil ?_
  | with_reducible refine os_cons ?_
  | with_reducible refine os_pass ?_
  | with_reducible refine os_retN ?_
  | with_reducible refine os_brk ?_
  | with_reducible refine os_cont ?_
  | with_reducible refine os_ret ?_
  | with_reducible refine os_expr ?_
  | with_reducible refine os_set ?_
  | with_reducible refine os_asg ?_
  | with_reducible refine os_par ?_
  | with_reducible refine os_par3 ?_
  | with_reducible refine os_setix ?_
  | with_reducible refine os_ite ?_
  | with_reducible refine os_for ?_
  | with_reducible refine os_while ?_
  | with_reducible refine ok_val ?_
  | with_reducible refine ok_bin ?_
  | with_reducible refine ok_neg ?_
  | with_reducible refine ok_cmp ?_
  | with_reducible refine ok_chain ?_
  | with_reducible refine ok_isin ?_
  | with_reducible refine ok_and ?_
  | with_reducible refine ok_or ?_
  | with_reducible refine ok_not ?_
  | with_reducible refine ok_ite ?_
  | with_reducible refine ok_tup ?_
  | with_reducible refine ok_lst ?_
  | with_reducible refine ok_call ?_
  | with_reducible refine ok_bi ?_
  | with_reducible refine ok_isi ?_
  | with_reducible refine ok_isis ?_
  | with_reducible refine ok_ix ?_
  | with_reducible refine ok_sl ?_
  | with_reducible refine ok_oN ?_
  | with_reducible refine ok_oS ?_
  | with_reducible refine ok_nil ?_
  | with_reducible refine ok_cons ?_
  | with_reducible refine ok_bval ?_
  | with_reducible refine ok_bbl ?_
  | with_reducible refine ok_bnot ?_
  | with_reducible refine ok_band ?_
  | with_reducible refine ok_bor ?_
  | with_reducible refine ok_ifN ?_
  | with_reducible refine ok_ifS ?_
  | with_reducible refine ok_rng1 ?_
  | with_reducible refine ok_rng2 ?_
  | with_reducible refine ok_over ?_
  | with_reducible refine ok_enum ?_
  | with_reducible refine ok_add ?_
  | with_reducible refine ok_sub ?_
  | (with_reducible refine ok_lc (by with_unfolding_all exact rfl) ?_)
  | with_reducible refine ⟨_, eq_int, ?_⟩
  | with_reducible refine ⟨_, ne_int, ?_⟩
  | with_reducible refine ⟨_, lt_int', ?_⟩
  | with_reducible refine ⟨_, le_int', ?_⟩
  | with_reducible refine ⟨_, gt_int', ?_⟩
  | with_reducible refine ⟨_, ge_int', ?_⟩
  | with_reducible refine ⟨_, eq_bl, ?_⟩
  | with_reducible refine ⟨_, ne_bl, ?_⟩
  | with_reducible refine ⟨_, ty_ii, ?_⟩
  | with_reducible refine ⟨_, ty_ib, ?_⟩
  | with_reducible refine ⟨_, ty_tt, ?_⟩
  | with_reducible refine ⟨_, ty_tl, ?_⟩
  | with_reducible refine ⟨_, ty_bb, ?_⟩
  | with_reducible refine ⟨_, ty_bi, ?_⟩
  | with_reducible refine ⟨_, truth_bl, ?_⟩
  | with_reducible refine ⟨_, (rfl : PV.bl _ = PV.bl _), ?_⟩
  | with_reducible refine ⟨_, (rfl : PV.int _ = PV.int _), ?_⟩
  | (with_reducible refine And.intro (Nat.le_of_ble_eq_true (by with_unfolding_all exact rfl)) ?_)
  | refine ⟨fun _ => ?_, fun e => nomatch (e : true = false)⟩
  | refine ⟨fun e => (nomatch (e : false = true)), fun _ => ?_⟩
  | refine ⟨fun e => (nomatch (e : true = false)), fun _ => ?_⟩
  | refine ⟨fun _ => ?_, fun e => nomatch (e : false = true)⟩)
abbrev Has (P : Prg) (ix : Nat → Nat) (g : Nat) (c : (Nat → Nat) → Def) : Prop := At P (ix g) (c ix)
structure Ln where
  cells : List Int
  held : List Int
  ring : Bool
def Ln.v (L : Ln) : PV := .tup [.tup (iL L.cells), .tup (iL L.held), .bl L.ring]
def Ln.many (L : Ln) : Nat := L.cells.length
structure Good1 (L : Ln) : Prop where
  one : 1 ≤ L.many
  three : L.ring = true → 3 ≤ L.many
  most : L.many ≤ 40
  col : ∀ c ∈ L.cells, 0 ≤ c ∧ c ≤ 9
  srt : L.held.Pairwise (· < ·)
  hin : ∀ k ∈ L.held, 0 ≤ k ∧ k < L.many
theorem Good1.len {L : Ln} (G : Good1 L) : L.held.length ≤ 40 := by
  have key : ∀ (l : List Int) (a b : Int), l.Pairwise (· < ·) → (∀ k ∈ l, a ≤ k ∧ k < b) → (l.length : Int) ≤ max 0 (b - a) := by
    intro l
    induction l with
    | nil => intro a b _ _; show (0 : Int) ≤ _; omega
    | cons x r ih =>
      intro a b h1 h2
      obtain ⟨p1, p2⟩ := List.pairwise_cons.mp h1
      have z := ih (x + 1) b p2 fun k hk => ⟨by have := p1 k hk; omega, (h2 k (List.mem_cons_of_mem _ hk)).2⟩
      have y := h2 x List.mem_cons_self
      rw [List.length_cons]
      omega
  have z := key L.held 0 L.many G.srt G.hin
  have := G.most
  omega
theorem sortI_srt' : ∀ l : List Int, l.Pairwise (· < ·) → sortI l = l
  | [], _ => rfl
  | x :: r, h => by
    obtain ⟨h1, h2⟩ := List.pairwise_cons.mp h
    show insI x (sortI r) = x :: r
    rw [sortI_srt' r h2]
    cases r with
    | nil => rfl
    | cons y r =>
      show (match decide (x ≤ y) with | true => x :: y :: r | false => y :: insI x r) = _
      have := h1 y List.mem_cons_self
      rw [decide_eq_true (by omega : x ≤ y)]
theorem dedI_srt' : ∀ l : List Int, l.Pairwise (· < ·) → dedI l = l
  | [], _ => rfl
  | x :: r, h => by
    obtain ⟨h1, h2⟩ := List.pairwise_cons.mp h
    show (match r.contains x with | true => dedI r | false => x :: dedI r) = _
    have e : r.contains x = false := by
      cases z : r.contains x with
      | false => rfl
      | true =>
        have m : x ∈ r := List.mem_of_elem_eq_true z
        exact absurd (h1 x m) (Int.lt_irrefl x)
    rw [e]
    show x :: dedI r = _
    rw [dedI_srt' r h2]
section
variable {P : Prg} {ix : Nat → Nat} {d : Nat} {h : PH} {Q : PV → PH → Prop}
theorem f_is_in (H : Has P ix 0 cf_is_in) {v a b : Int} (h1 : a ≤ v) (h2 : v ≤ b) (q : Q (.bl true) h) : Ok (callP P 1000 (d + 1) (ix 0) [.int v, .int a, .int b] h) Q := by
  refine ok_def H rfl ?_
  repeat walk_at "px"
  refine ⟨fun _ => ?_, fun e => absurd h1 (of_decide_eq_false e)⟩
  repeat walk_at "px"
  rw [decide_eq_true h2]
  exact q
theorem toDs_ints (n : Nat) : ∀ ns : List Int, toDs (toD (n + 1) h) (iL ns) = some (ns.map PyData.int)
  | [] => rfl
  | k :: ns => by
    show (match toD (n + 1) h (.int k) with | none => none | some d => match toDs (toD (n + 1) h) (iL ns) with | none => none | some ds => some (d :: ds)) = _
    rw [toDs_ints n ns]
    rfl
theorem lay_ints : ∀ ns : List Int, PyData.canLayAll0 (ns.map PyData.int) = true
  | [] => by rw [List.map_nil, PyData.canLayAll0]
  | k :: ns => by
    rw [List.map_cons, PyData.canLayAll0, lay_ints ns, PyData.canLay0]
    rfl
theorem dep_ints : ∀ ns : List Int, PyData.depthAll (ns.map PyData.int) = 0
  | [] => by rw [List.map_nil, PyData.depthAll]
  | k :: ns => by
    rw [List.map_cons, PyData.depthAll, dep_ints ns, PyData.depth]
    rfl
theorem eqv_ints : ∀ ns ms : List Int, PyData.eqvAll (ns.map PyData.int) (ms.map PyData.int) = decide (ns = ms)
  | [], [] => by rw [List.map_nil, PyData.eqvAll]; rfl
  | [], m :: ms => by rw [List.map_nil, List.map_cons, PyData.eqvAll]; rfl
  | n :: ns, [] => by rw [List.map_nil, List.map_cons, PyData.eqvAll]; rfl
  | n :: ns, m :: ms => by
    rw [List.map_cons, List.map_cons, PyData.eqvAll, eqv_ints ns ms, PyData.eqv]
    by_cases e : n = m
    · subst e
      by_cases e2 : ns = ms <;> simp [e2]
    · simp [e]
theorem dat_lst {a : Nat} {ns : List Int} (ha : h.get a = some (.lst (iL ns))) : toDat h (.ref a) = some (.list (ns.map PyData.int)) := by
  have e : toD 20 h (.ref a) = some (.list (ns.map PyData.int)) := by
    unfold toD
    dsimp only
    rw [ha]
    dsimp only
    rw [toDs_ints]
  unfold toDat
  rw [e]
  dsimp only
  have s : SeqAt.shaped (.list (ns.map PyData.int)) = true := by
    unfold SeqAt.shaped
    rw [PyData.canLay0, lay_ints, PyData.depth, dep_ints]
    rfl
  rw [s]
theorem eq_lsts {a b : Nat} {ns ms : List Int} (ha : h.get a = some (.lst (iL ns))) (hb : h.get b = some (.lst (iL ms))) : cmpP .eq (.ref a) (.ref b) h = some (decide (ns = ms)) := by
  show eqP h (.ref a) (.ref b) = _
  unfold eqP
  rw [dat_lst ha, dat_lst hb]
  dsimp only
  rw [PyData.eqv, eqv_ints]
theorem ne_lsts {a b : Nat} {ns ms : List Int} (ha : h.get a = some (.lst (iL ns))) (hb : h.get b = some (.lst (iL ms))) : cmpP .ne (.ref a) (.ref b) h = some (!decide (ns = ms)) := by
  show negO (cmpP .eq (.ref a) (.ref b) h) = _
  rw [eq_lsts ha hb]
  rfl
theorem f_is_cells (H0 : Has P ix 0 cf_is_in) (H : Has P ix 2 cf_is_cells) {many : Int} {held : List Int} (w : Wf h) (hl : held.length ≤ 60) (hs : held.Pairwise (· < ·)) (hi : ∀ k ∈ held, 0 ≤ k ∧ k < many)
    (q : ∀ h', Le none h h' → Q (.bl true) h') : Ok (callP P 1000 (d + 2) (ix 2) [.int many, .tup (iL held)] h) Q := by
  refine ok_def H rfl ?_
  repeat walk_at "px"
  refine .inr ⟨_, rfl, ?_⟩
  refine ok_lcI none (iL held) h w (fun i e => by cases e) (fun k h' _ => iv_tup k h') (by rw [List.length_map]; omega) (fun _ acc => acc = []) rfl (fun k v acc h1 e i l => ?_) (fun acc h' i _ l g => ?_) (by rw [List.length_map]; omega)
  · have hv : ∃ x, v = .int x ∧ 0 ≤ x ∧ x < many := by
      obtain ⟨x, hx, rfl⟩ := List.mem_map.mp (List.mem_of_getElem? e)
      exact ⟨x, rfl, hi x hx⟩
    obtain ⟨x, rfl, h0, h1'⟩ := hv
    refine ⟨_, rfl, ?_⟩
    repeat walk_at "px"
    refine f_is_in H0 h0 (by omega) ?_
    repeat walk_at "px"
    exact ⟨Le.refl l.wf, fun _ => i, fun e => nomatch (e : false = true)⟩
  · subst i
    have l1 : Le none h (h'.push (.lst [])) := l.trans (Le.push l.wf)
    repeat walk_at "px"
    refine ⟨_, ne_lsts (ns := []) (ms := []) (get_old g) get_new, ?_⟩
    rw [decide_eq_true (rfl : ([] : List Int) = [])]
    repeat walk_at "px"
    refine ok_listOf (xs := iL held) (by rfl) (by rw [List.length_map]; omega) ?_
    repeat walk_at "px"
    refine ok_setOf (ns := held) rfl hl ?_
    repeat walk_at "px"
    refine ok_sortedSet get_new (by rw [dedI_srt' held hs]; exact hl) ?_
    rw [dedI_srt' held hs, sortI_srt' held hs]
    have w1 := wf_push (o := PO.lst []) l.wf
    have w2 := wf_push (o := PO.lst (iL held)) w1
    have w3 := wf_push (o := PO.set held) w2
    refine ⟨_, eq_lsts (ns := held) (ms := held) (get_old (get_old get_new)) get_new, ?_⟩
    rw [decide_eq_true rfl]
    exact q _ (l1.trans ((Le.push w1).trans ((Le.push w2).trans (Le.push w3))))
theorem f_flanks (H : Has P ix 5 cf_flanks) {m c : Int} (hm : 0 < m) (q : Q (.tup [.int ((c - 1) % m), .int ((c + 1) % m)]) h) : Ok (callP P 1000 (d + 1) (ix 5) [.int m, .int c] h) Q := by
  refine ok_def H rfl ?_
  repeat walk_at "px"
  refine ok_mod hm ?_
  repeat walk_at "px"
  refine ok_mod hm ?_
  repeat walk_at "px"
  exact q
def Ln.at (L : Ln) (k : Int) : Int := L.cells.getD (k % L.many).toNat 0
theorem at_ix {L : Ln} (h0 : 1 ≤ L.many) (k : Int) : ixP (.tup (iL L.cells)) (.int (k % L.many)) h = some (.int (L.at k)) := by
  have hm : (0 : Int) < L.many := by omega
  have h1 := Int.emod_nonneg k (by omega : (L.many : Int) ≠ 0)
  have h2 := Int.emod_lt_of_pos k hm
  have e : k % (L.many : Int) = (((k % L.many).toNat : Nat) : Int) := by omega
  rw [e]
  refine ix_of_nat (xs := iL L.cells) rfl ?_
  have hk : (k % (L.many : Int)).toNat < L.cells.length := by
    show _ < L.many
    omega
  rw [List.getElem?_map, List.getElem?_eq_getElem hk]
  unfold Ln.at
  rw [List.getD_eq_getElem?_getD, List.getElem?_eq_getElem hk]
  rfl
theorem at_small {L : Ln} {k : Nat} (hk : k < L.many) : ixP (.tup (iL L.cells)) (.int (k : Int)) h = some (.int (L.at k)) := by
  have e := at_ix (h := h) (L := L) (by omega) (k : Int)
  rw [Int.emod_eq_of_lt (by omega) (by omega)] at e
  exact e
def Ln.flk (L : Ln) (k : Nat) : Bool := decide (L.at ((k : Int) - 1) = L.at ((k : Int) + 1)) && !decide (L.at ((k : Int) + 1) = L.at k)
theorem f_is_flanked (H5 : Has P ix 5 cf_flanks) (H : Has P ix 6 cf_is_flanked) {L : Ln} {k : Nat} (hk : k < L.many) (q : Q (.bl (L.flk k)) h) : Ok (callP P 1000 (d + 2) (ix 6) [.tup (iL L.cells), .int k] h) Q := by
  refine ok_def H rfl ?_
  repeat walk_at "px"
  refine ok_len rfl ?_
  rw [List.length_map]
  have hm : (0 : Int) < (L.cells.length : Nat) := by
    have : k < L.cells.length := hk
    omega
  repeat walk_at "px"
  refine f_flanks H5 hm ⟨_, rfl, ?_⟩
  repeat walk_at "px"
  refine ⟨_, at_ix (by omega) _, ?_⟩
  repeat walk_at "px"
  refine ⟨_, at_ix (by omega) _, ?_⟩
  refine ⟨_, eq_int, fun e => ?_, fun e => ?_⟩
  · repeat walk_at "px"
    refine ⟨_, at_small hk, ⟨_, ne_int, ?_⟩⟩
    unfold Ln.flk at q
    rw [e, Bool.true_and] at q
    exact q
  · unfold Ln.flk at q
    rw [e, Bool.false_and] at q
    exact q
end
end Pyx

namespace Pyx
open PySem L2
local macro_rules | `(tactic| walk_at "px") => `(tactic| first
  | (with_reducible refine ok_var (v := ?_) (by with_unfolding_all exact rfl) ?_)
  | with_reducible refine os_nil ?_
  | with_reducible refine os_cons ?_
  | with_reducible refine os_pass ?_
  | with_reducible refine os_retN ?_
  | with_reducible refine os_brk ?_
  | with_reducible refine os_cont ?_
  | with_reducible refine os_ret ?_
  | with_reducible refine os_expr ?_
  | with_reducible refine os_set ?_
  | with_reducible refine os_asg ?_
  | with_reducible refine os_par ?_
  | with_reducible refine os_par3 ?_
  | with_reducible refine os_setix ?_
  | with_reducible refine os_ite ?_
  | with_reducible refine os_for ?_
  | with_reducible refine os_while ?_
  | with_reducible refine ok_val ?_
  | with_reducible refine ok_bin ?_
  | with_reducible refine ok_neg ?_
  | with_reducible refine ok_cmp ?_
  | with_reducible refine ok_chain ?_
  | with_reducible refine ok_isin ?_
  | with_reducible refine ok_and ?_
  | with_reducible refine ok_or ?_
  | with_reducible refine ok_not ?_
  | with_reducible refine ok_ite ?_
  | with_reducible refine ok_tup ?_
  | with_reducible refine ok_lst ?_
  | with_reducible refine ok_call ?_
  | with_reducible refine ok_bi ?_
  | with_reducible refine ok_isi ?_
  | with_reducible refine ok_isis ?_
  | with_reducible refine ok_ix ?_
  | with_reducible refine ok_sl ?_
  | with_reducible refine ok_oN ?_
  | with_reducible refine ok_oS ?_
  | with_reducible refine ok_nil ?_
  | with_reducible refine ok_cons ?_
  | with_reducible refine ok_bval ?_
  | with_reducible refine ok_bbl ?_
  | with_reducible refine ok_bnot ?_
  | with_reducible refine ok_band ?_
  | with_reducible refine ok_bor ?_
  | with_reducible refine ok_ifN ?_
  | with_reducible refine ok_ifS ?_
  | with_reducible refine ok_rng1 ?_
  | with_reducible refine ok_rng2 ?_
  | with_reducible refine ok_over ?_
  | with_reducible refine ok_enum ?_
  | with_reducible refine ok_add ?_
  | with_reducible refine ok_sub ?_
  | (with_reducible refine ok_lc (by with_unfolding_all exact rfl) ?_)
  | with_reducible refine ⟨_, eq_int, ?_⟩
  | with_reducible refine ⟨_, ne_int, ?_⟩
  | with_reducible refine ⟨_, lt_int', ?_⟩
  | with_reducible refine ⟨_, le_int', ?_⟩
  | with_reducible refine ⟨_, gt_int', ?_⟩
  | with_reducible refine ⟨_, ge_int', ?_⟩
  | with_reducible refine ⟨_, eq_bl, ?_⟩
  | with_reducible refine ⟨_, ne_bl, ?_⟩
  | with_reducible refine ⟨_, ty_ii, ?_⟩
  | with_reducible refine ⟨_, ty_ib, ?_⟩
  | with_reducible refine ⟨_, ty_tt, ?_⟩
  | with_reducible refine ⟨_, ty_tl, ?_⟩
  | with_reducible refine ⟨_, ty_bb, ?_⟩
  | with_reducible refine ⟨_, ty_bi, ?_⟩
  | with_reducible refine ⟨_, truth_bl, ?_⟩
  | with_reducible refine ⟨_, (rfl : PV.bl _ = PV.bl _), ?_⟩
  | with_reducible refine ⟨_, (rfl : PV.int _ = PV.int _), ?_⟩
  | (with_reducible refine And.intro (Nat.le_of_ble_eq_true (by with_unfolding_all exact rfl)) ?_)
  | refine ⟨fun _ => ?_, fun e => nomatch (e : true = false)⟩
  | refine ⟨fun e => (nomatch (e : false = true)), fun _ => ?_⟩
  | refine ⟨fun e => (nomatch (e : true = false)), fun _ => ?_⟩
  | refine ⟨fun _ => ?_, fun e => nomatch (e : false = true)⟩)
theorem Le.p {p : Option Nat} {h0 h : PH} (a : Le p h0 h) {o : PO} : Le p h0 (h.push o) := a.trans (Le.push a.wf)
theorem dedI_len : ∀ l : List Int, (dedI l).length ≤ l.length
  | [] => Nat.le_refl _
  | x :: r => by
    unfold dedI
    split
    · exact Nat.le_succ_of_le (dedI_len r)
    · exact Nat.succ_le_succ (dedI_len r)
def Ln.ends (L : Ln) : List Int := match L.ring with
  | true => []
  | false => [0, (L.many : Int) - 1]
def Ln.heldI (L : Ln) : List Int := sortI (dedI (L.held ++ L.ends))
theorem heldI_mem {L : Ln} {k : Int} : k ∈ L.heldI ↔ k ∈ L.held ∨ (L.ring = false ∧ (k = 0 ∨ k = (L.many : Int) - 1)) := by
  unfold Ln.heldI
  rw [(sortI_perm _).mem_iff, dedI_mem, List.mem_append]
  unfold Ln.ends
  cases L.ring <;> simp
theorem iL_app (a b : List Int) : iL a ++ iL b = iL (a ++ b) := (List.map_append ..).symm
def Ln.rdy (L : Ln) (k : Nat) : Bool := !decide ((k : Int) ∈ L.heldI) && L.flk k
def Ln.ready (L : Ln) : List Int := ((List.range L.many).filter L.rdy).map fun k => ((k : Nat) : Int)
section
variable {P : Prg} {ix : Nat → Nat} {d : Nat} {h : PH} {Q : PV → PH → Prop}
theorem f_held_in (H : Has P ix 4 cf_held_in) {L : Ln} (G : Good1 L) (w : Wf h) (q : ∀ i h', Le none h h' → h.n ≤ i → h'.get i = some (.lst (iL L.heldI)) → Q (.ref i) h') : Ok (callP P 1000 (d + 1) (ix 4) [L.v] h) Q := by
  have hl := G.len
  refine ok_def H rfl ?_
  refine os_cons (os_asg (ok_var rfl ⟨_, rfl, ?_⟩))
  refine os_cons (os_set (Ok.mono (Q := fun v h1 => ∃ i es, v = .ref i ∧ es.length ≤ 2 ∧ L.heldI = sortI (dedI (L.held ++ es)) ∧ Le none h h1 ∧ h1.get i = some (.lst (iL es))) ?A ?B))
  case A =>
    obtain ⟨cells, held, ring⟩ := L
    cases ring with
    | true =>
      repeat walk_at "px"
      exact ⟨_, [], rfl, by decide, rfl, Le.push w, get_new⟩
    | false =>
      repeat walk_at "px"
      refine ok_len (xs := iL cells) (by rfl) ?_
      rw [List.length_map]
      repeat walk_at "px"
      exact ⟨_, [0, (cells.length : Int) - 1], rfl, Nat.le_refl 2, rfl, Le.push w, get_new⟩
  case B =>
    rintro v h1 ⟨i, es, rfl, he, hh, l, g⟩
    repeat walk_at "px"
    refine ok_listOf (xs := iL L.held) (by rfl) (by rw [List.length_map]; omega) ?_
    repeat walk_at "px"
    refine ok_catL get_new (get_old g) (by rw [List.length_append, List.length_map, List.length_map]; omega) ?_
    rw [iL_app]
    repeat walk_at "px"
    have lz : (L.held ++ es).length ≤ 60 := by
      rw [List.length_append]
      omega
    refine ok_setOf (seqOf_lst get_new) lz ?_
    repeat walk_at "px"
    refine ok_sortedSet get_new (Nat.le_trans (dedI_len _) lz) ?_
    refine q _ _ l.p.p.p.p ?_ (by rw [hh]; exact get_new)
    have z1 := l.n
    show h.n ≤ h1.n + 1 + 1 + 1
    omega
theorem f_ready_in (H4 : Has P ix 4 cf_held_in) (H5 : Has P ix 5 cf_flanks) (H6 : Has P ix 6 cf_is_flanked) (H : Has P ix 7 cf_ready_in) {L : Ln} (G : Good1 L) (w : Wf h) (q : ∀ i h', Le none h h' → h.n ≤ i → h'.get i = some (.lst (iL L.ready)) → Q (.ref i) h') :
    Ok (callP P 1000 (d + 3) (ix 7) [L.v] h) Q := by
  have h40 := G.most
  refine ok_def H rfl ?_
  repeat walk_at "px"
  refine f_held_in H4 G w fun i h1 l1 hi g1 => ?_
  repeat walk_at "px"
  refine ⟨_, rfl, ?_⟩
  repeat walk_at "px"
  refine ok_len (xs := iL L.cells) (by rfl) ?_
  rw [List.length_map]
  refine ⟨_, rfl, ⟨by omega, by show (L.many : Int) ≤ _; omega⟩, ?_⟩
  have hm : ((L.cells.length : Nat) : Int).toNat = L.many := Int.toNat_natCast _
  rw [hm]
  refine ok_lcI none (rng 0 L.many) h1 l1.wf (fun i e => by cases e) (fun k h' _ => iv_rng k h') (by rw [rng_len]; omega) (fun k acc => acc = ((List.range k).filter L.rdy).map fun k => .int ((k : Nat) : Int)) rfl (fun k v acc h2 e i2 l2 => ?_) (fun acc h' i2 _ l g => ?_) (by rw [rng_len]; omega)
  · obtain ⟨hk, rfl⟩ := rng_at e
    rw [Int.zero_add] at e ⊢
    refine ⟨_, rfl, ?_⟩
    repeat walk_at "px"
    have g2 : h2.get i = some (.lst (iL L.heldI)) := l2.get _ _ (by intro z; cases z) g1
    refine ⟨_, in_ints (seqOf_lst g2), ⟨_, rfl, fun e1 => ?_, fun e1 => ?_⟩⟩
    · repeat walk_at "px"
      refine ⟨_, rfl, ?_⟩
      repeat walk_at "px"
      refine f_is_flanked H5 H6 hk ?_
      have er : L.rdy k = L.flk k := by
        unfold Ln.rdy
        have e1 : (!decide ((k : Int) ∈ L.heldI)) = true := e1
        rw [e1, Bool.true_and]
      refine ⟨_, truth_bl, Le.refl l2.wf, fun e2 => ?_, fun e2 => ?_⟩
      · rw [i2, filter_step, er, e2]
        exact (List.append_nil _).symm
      · repeat walk_at "px"
        refine ⟨Le.refl l2.wf, ?_⟩
        rw [i2, filter_step, er, e2]
        rfl
    · have er : L.rdy k = false := by
        unfold Ln.rdy
        have e1 : (!decide ((k : Int) ∈ L.heldI)) = false := e1
        rw [e1, Bool.false_and]
      refine ⟨Le.refl l2.wf, fun _ => ?_, fun e => (nomatch (e : false = true))⟩
      rw [i2, filter_step, er]
      exact (List.append_nil _).symm
  · rw [rng_len] at i2
    refine q _ h' (l1.trans l) l1.n ?_
    rw [g, i2]
    unfold Ln.ready
    rw [iL, List.map_map]
    rfl
end
end Pyx

set_option maxHeartbeats 400000
namespace Pyx
open PySem L2
local macro_rules | `(tactic| walk_at "px") => `(tactic| first
  | (with_reducible refine ok_var (v := ?_) (by with_unfolding_all exact rfl) ?_)
  | with_reducible refine os_nil ?_
  | with_reducible refine os_cons ?_
  | with_reducible refine os_pass ?_
  | with_reducible refine os_retN ?_
  | with_reducible refine os_brk ?_
  | with_reducible refine os_cont ?_
  | with_reducible refine os_ret ?_
  | with_reducible refine os_expr ?_
  | with_reducible refine os_set ?_
  | with_reducible refine os_asg ?_
  | with_reducible refine os_par ?_
  | with_reducible refine os_par3 ?_
  | with_reducible refine os_setix ?_
  | with_reducible refine os_ite ?_
  | with_reducible refine os_for ?_
  | with_reducible refine os_while ?_
  | with_reducible refine ok_val ?_
  | with_reducible refine ok_bin ?_
  | with_reducible refine ok_neg ?_
  | with_reducible refine ok_cmp ?_
  | with_reducible refine ok_chain ?_
  | with_reducible refine ok_isin ?_
  | with_reducible refine ok_and ?_
  | with_reducible refine ok_or ?_
  | with_reducible refine ok_not ?_
  | with_reducible refine ok_ite ?_
  | with_reducible refine ok_tup ?_
  | with_reducible refine ok_lst ?_
  | with_reducible refine ok_call ?_
  | with_reducible refine ok_bi ?_
  | with_reducible refine ok_isi ?_
  | with_reducible refine ok_isis ?_
  | with_reducible refine ok_ix ?_
  | with_reducible refine ok_sl ?_
  | with_reducible refine ok_oN ?_
  | with_reducible refine ok_oS ?_
  | with_reducible refine ok_nil ?_
  | with_reducible refine ok_cons ?_
  | with_reducible refine ok_bval ?_
  | with_reducible refine ok_bbl ?_
  | with_reducible refine ok_bnot ?_
  | with_reducible refine ok_band ?_
  | with_reducible refine ok_bor ?_
  | with_reducible refine ok_ifN ?_
  | with_reducible refine ok_ifS ?_
  | with_reducible refine ok_rng1 ?_
  | with_reducible refine ok_rng2 ?_
  | with_reducible refine ok_over ?_
  | with_reducible refine ok_enum ?_
  | with_reducible refine ok_add ?_
  | with_reducible refine ok_sub ?_
  | (with_reducible refine ok_lc (by with_unfolding_all exact rfl) ?_)
  | with_reducible refine ⟨_, eq_int, ?_⟩
  | with_reducible refine ⟨_, ne_int, ?_⟩
  | with_reducible refine ⟨_, lt_int', ?_⟩
  | with_reducible refine ⟨_, le_int', ?_⟩
  | with_reducible refine ⟨_, gt_int', ?_⟩
  | with_reducible refine ⟨_, ge_int', ?_⟩
  | with_reducible refine ⟨_, eq_bl, ?_⟩
  | with_reducible refine ⟨_, ne_bl, ?_⟩
  | with_reducible refine ⟨_, ty_ii, ?_⟩
  | with_reducible refine ⟨_, ty_ib, ?_⟩
  | with_reducible refine ⟨_, ty_tt, ?_⟩
  | with_reducible refine ⟨_, ty_tl, ?_⟩
  | with_reducible refine ⟨_, ty_bb, ?_⟩
  | with_reducible refine ⟨_, ty_bi, ?_⟩
  | with_reducible refine ⟨_, truth_bl, ?_⟩
  | with_reducible refine ⟨_, (rfl : PV.bl _ = PV.bl _), ?_⟩
  | with_reducible refine ⟨_, (rfl : PV.int _ = PV.int _), ?_⟩
  | (with_reducible refine And.intro (Nat.le_of_ble_eq_true (by with_unfolding_all exact rfl)) ?_)
  | refine ⟨fun _ => ?_, fun e => nomatch (e : true = false)⟩
  | refine ⟨fun e => (nomatch (e : false = true)), fun _ => ?_⟩
  | refine ⟨fun e => (nomatch (e : true = false)), fun _ => ?_⟩
  | refine ⟨fun _ => ?_, fun e => nomatch (e : false = true)⟩)
theorem iv_enumT {xs : List PV} (k : Nat) (h : PH) : ivN (.enumT xs) k h = match xs[k]? with | some v => .item (.tup [.int k, v]) | none => .stop := rfl
section
variable {P : Prg} {ix : Nat → Nat} {d : Nat} {h : PH} {Q : PV → PH → Prop}
theorem f_need_line (H0 : Has P ix 0 cf_is_in) (H2 : Has P ix 2 cf_is_cells) (H : Has P ix 1 cf_need_line) {L : Ln} (G : Good1 L) (w : Wf h) (q : ∀ h', Le none h h' → Q .non h') : Ok (callP P 1000 (d + 3) (ix 1) [L.v] h) Q := by
  have h40 := G.most
  have hl := G.len
  refine ok_def H rfl ?_
  unfold Ln.v
  repeat walk_at "px"
  refine ok_len rfl ?_
  repeat walk_at "px"
  refine ⟨_, rfl, ?_⟩
  repeat walk_at "px"
  refine ⟨_, rfl, ?_⟩
  refine os_cons (os_set (Ok.mono (Q := fun v h1 => h1 = h ∧ v = .int (if L.ring then 3 else 1)) ?A ?B))
  case A =>
    cases L.ring with
    | true =>
      repeat walk_at "px"
      exact ⟨rfl, rfl⟩
    | false =>
      repeat walk_at "px"
      exact ⟨rfl, rfl⟩
  case B =>
    rintro v h1 ⟨rfl, rfl⟩
    repeat walk_at "px"
    refine ok_len (xs := iL L.cells) (by rfl) ?_
    rw [List.length_map]
    have e1 : decide ((if L.ring then (3 : Int) else 1) ≤ ((L.cells.length : Nat) : Int)) = true := by
      have z1 : 1 ≤ L.cells.length := G.one
      refine decide_eq_true ?_
      cases hr : L.ring with
      | true =>
        have z3 : 3 ≤ L.cells.length := G.three hr
        show (3 : Int) ≤ _
        omega
      | false =>
        show (1 : Int) ≤ _
        omega
    refine ⟨_, le_int', ?_⟩
    rw [e1]
    repeat walk_at "px"
    rw [show decide (((L.cells.length : Nat) : Int) ≤ 40) = true from decide_eq_true (by have : L.cells.length ≤ 40 := h40; omega)]
    repeat walk_at "px"
    refine .inr ⟨_, rfl, ?_⟩
    refine os_forL (fun k st h' => h' = h1 ∧ k ≤ L.many ∧ st.length = 7 ∧ st[1]? = some (some (.tup (iL L.cells))) ∧ st[2]? = some (some (.tup (iL L.held)))) L.many (fun k st h' ⟨i1, i2, i3, i4, i5⟩ => ⟨i2, ?_⟩) _ 0 _ _ (by omega) ⟨rfl, Nat.zero_le _, rfl, rfl, rfl⟩
    subst i1
    match st, i3, i4, i5 with
    | [s0, s1, s2, s3, s4, s5, s6], _, i4, i5 =>
      have i4 : some s1 = some (some (.tup (iL L.cells))) := i4
      have i5 : some s2 = some (some (.tup (iL L.held))) := i5
      cases i4
      cases i5
      rw [iv_enumT]
      by_cases hk : k < L.many
      · have e : (iL L.cells)[k]? = some (.int (L.cells[k]'hk)) := by
          rw [List.getElem?_map, List.getElem?_eq_getElem hk]
          rfl
        rw [e]
        refine .inr ⟨_, _, rfl, rfl, ?_⟩
        have c := G.col _ (List.getElem_mem hk)
        repeat walk_at "px"
        refine f_is_in H0 c.1 c.2 ?_
        repeat walk_at "px"
        exact ⟨rfl, hk, rfl, rfl, rfl⟩
      · have hk2 : k = L.many := by omega
        have e : (iL L.cells)[k]? = none := List.getElem?_eq_none (by rw [List.length_map]; show L.many ≤ k; omega)
        rw [e]
        refine .inl ⟨rfl, ?_⟩
        repeat walk_at "px"
        refine ok_len (xs := iL L.cells) (by rfl) ?_
        rw [List.length_map]
        repeat walk_at "px"
        refine f_is_cells H0 H2 w (by omega) G.srt G.hin fun h2 l2 => ?_
        repeat walk_at "px"
        exact q _ l2
end
end Pyx

namespace Pyx
open PySem L2
local macro_rules | `(tactic| walk_at "px") => `(tactic| first
  | (with_reducible refine ok_var (v := ?_) (by with_unfolding_all exact rfl) ?_)
  | with_reducible refine os_nil ?_
  | with_reducible refine os_cons ?_
  | with_reducible refine os_pass ?_
  | with_reducible refine os_retN ?_
  | with_reducible refine os_brk ?_
  | with_reducible refine os_cont ?_
  | with_reducible refine os_ret ?_
  | with_reducible refine os_expr ?_
  | with_reducible refine os_set ?_
  | with_reducible refine os_asg ?_
  | with_reducible refine os_par ?_
  | with_reducible refine os_par3 ?_
  | with_reducible refine os_setix ?_
  | with_reducible refine os_ite ?_
  | with_reducible refine os_for ?_
  | with_reducible refine os_while ?_
  | with_reducible refine ok_val ?_
  | with_reducible refine ok_bin ?_
  | with_reducible refine ok_neg ?_
  | with_reducible refine ok_cmp ?_
  | with_reducible refine ok_chain ?_
  | with_reducible refine ok_isin ?_
  | with_reducible refine ok_and ?_
  | with_reducible refine ok_or ?_
  | with_reducible refine ok_not ?_
  | with_reducible refine ok_ite ?_
  | with_reducible refine ok_tup ?_
  | with_reducible refine ok_lst ?_
  | with_reducible refine ok_call ?_
  | with_reducible refine ok_bi ?_
  | with_reducible refine ok_isi ?_
  | with_reducible refine ok_isis ?_
  | with_reducible refine ok_ix ?_
  | with_reducible refine ok_sl ?_
  | with_reducible refine ok_oN ?_
  | with_reducible refine ok_oS ?_
  | with_reducible refine ok_nil ?_
  | with_reducible refine ok_cons ?_
  | with_reducible refine ok_bval ?_
  | with_reducible refine ok_bbl ?_
  | with_reducible refine ok_bnot ?_
  | with_reducible refine ok_band ?_
  | with_reducible refine ok_bor ?_
  | with_reducible refine ok_ifN ?_
  | with_reducible refine ok_ifS ?_
  | with_reducible refine ok_rng1 ?_
  | with_reducible refine ok_rng2 ?_
  | with_reducible refine ok_over ?_
  | with_reducible refine ok_enum ?_
  | with_reducible refine ok_add ?_
  | with_reducible refine ok_sub ?_
  | (with_reducible refine ok_lc (by with_unfolding_all exact rfl) ?_)
  | with_reducible refine ⟨_, eq_int, ?_⟩
  | with_reducible refine ⟨_, ne_int, ?_⟩
  | with_reducible refine ⟨_, lt_int', ?_⟩
  | with_reducible refine ⟨_, le_int', ?_⟩
  | with_reducible refine ⟨_, gt_int', ?_⟩
  | with_reducible refine ⟨_, ge_int', ?_⟩
  | with_reducible refine ⟨_, eq_bl, ?_⟩
  | with_reducible refine ⟨_, ne_bl, ?_⟩
  | with_reducible refine ⟨_, ty_ii, ?_⟩
  | with_reducible refine ⟨_, ty_ib, ?_⟩
  | with_reducible refine ⟨_, ty_tt, ?_⟩
  | with_reducible refine ⟨_, ty_tl, ?_⟩
  | with_reducible refine ⟨_, ty_bb, ?_⟩
  | with_reducible refine ⟨_, ty_bi, ?_⟩
  | with_reducible refine ⟨_, truth_bl, ?_⟩
  | with_reducible refine ⟨_, (rfl : PV.bl _ = PV.bl _), ?_⟩
  | with_reducible refine ⟨_, (rfl : PV.int _ = PV.int _), ?_⟩
  | (with_reducible refine And.intro (Nat.le_of_ble_eq_true (by with_unfolding_all exact rfl)) ?_)
  | refine ⟨fun _ => ?_, fun e => nomatch (e : true = false)⟩
  | refine ⟨fun e => (nomatch (e : false = true)), fun _ => ?_⟩
  | refine ⟨fun e => (nomatch (e : true = false)), fun _ => ?_⟩
  | refine ⟨fun _ => ?_, fun e => nomatch (e : false = true)⟩)
theorem at_pred {L : Ln} {k : Nat} {h : PH} (hk : k < L.many) : ixP (.tup (iL L.cells)) (.int ((k : Int) - 1)) h = some (.int (L.at ((k : Int) - 1))) := by
  cases k with
  | succ j =>
    have e : (((j + 1 : Nat) : Int) - 1) = ((j : Nat) : Int) := by omega
    rw [e]
    exact at_small (by omega)
  | zero =>
    have hl : (iL L.cells).length = L.many := List.length_map _
    have e1 : ixN (iL L.cells).length (((0 : Nat) : Int) - 1) = some (L.many - 1) := by
      unfold ixN
      rw [hl, if_neg (by omega), if_pos (by omega)]
      congr 1
      omega
    unfold ixP
    dsimp only
    rw [show seqOf (.tup (iL L.cells)) h = some (iL L.cells) from rfl]
    dsimp only
    unfold atI
    rw [e1]
    show (iL L.cells)[L.many - 1]? = _
    have hk2 : L.many - 1 < L.cells.length := by
      show _ < L.many
      omega
    rw [List.getElem?_map, List.getElem?_eq_getElem hk2]
    unfold Ln.at
    have e2 : ((((0 : Nat) : Int) - 1) % (L.many : Int)).toNat = L.many - 1 := by
      have : (((0 : Nat) : Int) - 1) % (L.many : Int) = (L.many : Int) - 1 := by
        have h3 : (((0 : Nat) : Int) - 1) = ((L.many : Int) - 1) + (L.many : Int) * (-1) := by omega
        rw [h3, Int.add_mul_emod_self_left, Int.emod_eq_of_lt (by omega) (by omega)]
      rw [this]
      omega
    rw [e2, List.getD_eq_getElem?_getD, List.getElem?_eq_getElem hk2]
    rfl
theorem at_cells {L : Ln} {k : Nat} (hk : k < L.cells.length) : L.at (k : Int) = L.cells[k] := by
  unfold Ln.at
  have e : ((k : Int) % (L.many : Int)).toNat = k := by
    have : k < L.many := hk
    rw [Int.emod_eq_of_lt (by omega) (by omega), Int.toNat_natCast]
  rw [e, List.getD_eq_getElem?_getD, List.getElem?_eq_getElem hk]
  rfl
def Ln.turn (L : Ln) (ks : List Nat) : List Int := (List.range L.many).map fun k => if k ∈ ks then L.at ((k : Int) - 1) else L.at k
theorem turn_len {L : Ln} {ks : List Nat} : (L.turn ks).length = L.many := by
  unfold Ln.turn
  rw [List.length_map, List.length_range]
theorem turn_get {L : Ln} {ks : List Nat} {k : Nat} (hk : k < (L.turn ks).length) : (L.turn ks)[k] = if k ∈ ks then L.at ((k : Int) - 1) else L.at k := by
  simp only [Ln.turn, List.getElem_map, List.getElem_range]
theorem turn_nil {L : Ln} : L.turn [] = L.cells := by
  refine List.ext_getElem turn_len fun k h1 h2 => ?_
  rw [turn_get, if_neg (by simp), at_cells h2]
theorem turn_step {L : Ln} {ks : List Nat} {j k : Nat} (e : ks[j]? = some k) : (L.turn (ks.take j)).set k (L.at ((k : Int) - 1)) = L.turn (ks.take (j + 1)) := by
  refine List.ext_getElem (by rw [List.length_set, turn_len, turn_len]) fun i h1 h2 => ?_
  rw [List.getElem_set, turn_get, turn_get]
  have m : i ∈ ks.take (j + 1) ↔ i ∈ ks.take j ∨ i = k := by
    rw [List.take_add_one, e, List.mem_append]
    simp
  by_cases hi : k = i
  · subst hi
    rw [if_pos rfl, if_pos (m.mpr (.inr rfl))]
  · rw [if_neg hi]
    have hi' : ¬ i = k := fun z => hi z.symm
    by_cases hm : i ∈ ks.take j
    · rw [if_pos hm, if_pos (m.mpr (.inl hm))]
    · rw [if_neg hm, if_neg (fun z => by rcases m.mp z with z | z; exact hm z; exact hi' z)]
def nL (ks : List Nat) : List PV := ks.map fun k => .int ((k : Nat) : Int)
def Ln.readyN (L : Ln) : List Nat := (List.range L.many).filter L.rdy
theorem ready_nL {L : Ln} : iL L.ready = nL L.readyN := by
  unfold Ln.ready Ln.readyN nL
  rw [iL, List.map_map]
  rfl
section
variable {P : Prg} {ix : Nat → Nat} {d : Nat} {h : PH} {Q : PV → PH → Prop}
theorem f_with_turned (H : Has P ix 9 cf_with_turned) {L : Ln} (G : Good1 L) {i : Nat} {ks : List Nat} (gi : h.get i = some (.lst (nL ks))) (hk : ∀ k ∈ ks, k < L.many) (hz : ks.length ≤ 900) (w : Wf h) (q : ∀ h', Le none h h' → Q (.tup (iL (L.turn ks))) h') :
    Ok (callP P 1000 (d + 1) (ix 9) [.tup (iL L.cells), .ref i] h) Q := by
  have h40 := G.most
  refine ok_def H rfl ?_
  repeat walk_at "px"
  refine ok_listOf (xs := iL L.cells) (by rfl) (by rw [List.length_map]; exact Nat.le_trans h40 (by decide)) ?_
  repeat walk_at "px"
  refine .inl ⟨i, nL ks, rfl, seqL_lst (get_old gi), ?_⟩
  have hi := get_lt gi
  refine os_forL (fun j st h' => j ≤ ks.length ∧ Le none h h' ∧ h'.get h.n = some (.lst (iL (L.turn (ks.take j)))) ∧ ∃ s3, st = [some (.tup (iL L.cells)), some (.ref i), some (.ref h.n), s3]) ks.length (fun j st h' ⟨i1, i2, i3, s3, i4⟩ => ⟨i1, ?_⟩) _ 0 _ _ (by omega) ⟨Nat.zero_le _, Le.push w, by rw [List.take_zero, turn_nil]; exact get_new, none, rfl⟩
  subst i4
  rw [iv_lst (p := none) gi (by intro z; cases z) j h' i2]
  cases e : ks[j]? with
  | none =>
    have e2 : (nL ks)[j]? = none := by
      unfold nL
      rw [List.getElem?_map, e]
      rfl
    rw [e2]
    refine .inl ⟨rfl, ?_⟩
    have ej : ks.take j = ks := List.take_of_length_le (List.getElem?_eq_none_iff.mp e)
    rw [ej] at i3
    repeat walk_at "px"
    refine ok_tupleOf (seqOf_lst i3) (by rw [List.length_map, turn_len]; exact Nat.le_trans h40 (by decide)) (q _ i2)
  | some k =>
    have e2 : (nL ks)[j]? = some (.int ((k : Nat) : Int)) := by
      unfold nL
      rw [List.getElem?_map, e]
      rfl
    rw [e2]
    refine .inr ⟨_, _, rfl, rfl, ?_⟩
    have hk1 := hk k (List.mem_of_getElem? e)
    repeat walk_at "px"
    refine ⟨_, at_pred hk1, ?_⟩
    repeat walk_at "px"
    refine ⟨_, set_lst i3 (by rw [List.length_map, turn_len]; exact hk1), ?_⟩
    repeat walk_at "px"
    have hj : j < ks.length := (List.getElem?_eq_some_iff.mp e).1
    refine ⟨hj, Le.set i2 (Nat.le_refl _) i3, ?_, _, rfl⟩
    rw [get_at_set i2.wf i3]
    have e3 : (iL (L.turn (ks.take j))).set k (.int (L.at ((k : Int) - 1))) = iL ((L.turn (ks.take j)).set k (L.at ((k : Int) - 1))) := (List.map_set ..).symm
    rw [e3, turn_step e]
def Ln.one (L : Ln) (k : Nat) : Ln := ⟨L.turn [k], L.held, L.ring⟩
end
end Pyx

namespace Pyx
open PySem L2
local macro_rules | `(tactic| walk_at "px") => `(tactic| first
  | (with_reducible refine ok_var (v := ?_) (by with_unfolding_all exact rfl) ?_)
  | with_reducible refine os_nil ?_
  | with_reducible refine os_cons ?_
  | with_reducible refine os_pass ?_
  | with_reducible refine os_retN ?_
  | with_reducible refine os_brk ?_
  | with_reducible refine os_cont ?_
  | with_reducible refine os_ret ?_
  | with_reducible refine os_expr ?_
  | with_reducible refine os_set ?_
  | with_reducible refine os_asg ?_
  | with_reducible refine os_par ?_
  | with_reducible refine os_par3 ?_
  | with_reducible refine os_setix ?_
  | with_reducible refine os_ite ?_
  | with_reducible refine os_for ?_
  | with_reducible refine os_while ?_
  | with_reducible refine ok_val ?_
  | with_reducible refine ok_bin ?_
  | with_reducible refine ok_neg ?_
  | with_reducible refine ok_cmp ?_
  | with_reducible refine ok_chain ?_
  | with_reducible refine ok_isin ?_
  | with_reducible refine ok_and ?_
  | with_reducible refine ok_or ?_
  | with_reducible refine ok_not ?_
  | with_reducible refine ok_ite ?_
  | with_reducible refine ok_tup ?_
  | with_reducible refine ok_lst ?_
  | with_reducible refine ok_call ?_
  | with_reducible refine ok_bi ?_
  | with_reducible refine ok_isi ?_
  | with_reducible refine ok_isis ?_
  | with_reducible refine ok_ix ?_
  | with_reducible refine ok_sl ?_
  | with_reducible refine ok_oN ?_
  | with_reducible refine ok_oS ?_
  | with_reducible refine ok_nil ?_
  | with_reducible refine ok_cons ?_
  | with_reducible refine ok_bval ?_
  | with_reducible refine ok_bbl ?_
  | with_reducible refine ok_bnot ?_
  | with_reducible refine ok_band ?_
  | with_reducible refine ok_bor ?_
  | with_reducible refine ok_ifN ?_
  | with_reducible refine ok_ifS ?_
  | with_reducible refine ok_rng1 ?_
  | with_reducible refine ok_rng2 ?_
  | with_reducible refine ok_over ?_
  | with_reducible refine ok_enum ?_
  | with_reducible refine ok_add ?_
  | with_reducible refine ok_sub ?_
  | (with_reducible refine ok_lc (by with_unfolding_all exact rfl) ?_)
  | with_reducible refine ⟨_, eq_int, ?_⟩
  | with_reducible refine ⟨_, ne_int, ?_⟩
  | with_reducible refine ⟨_, lt_int', ?_⟩
  | with_reducible refine ⟨_, le_int', ?_⟩
  | with_reducible refine ⟨_, gt_int', ?_⟩
  | with_reducible refine ⟨_, ge_int', ?_⟩
  | with_reducible refine ⟨_, eq_bl, ?_⟩
  | with_reducible refine ⟨_, ne_bl, ?_⟩
  | with_reducible refine ⟨_, ty_ii, ?_⟩
  | with_reducible refine ⟨_, ty_ib, ?_⟩
  | with_reducible refine ⟨_, ty_tt, ?_⟩
  | with_reducible refine ⟨_, ty_tl, ?_⟩
  | with_reducible refine ⟨_, ty_bb, ?_⟩
  | with_reducible refine ⟨_, ty_bi, ?_⟩
  | with_reducible refine ⟨_, truth_bl, ?_⟩
  | with_reducible refine ⟨_, (rfl : PV.bl _ = PV.bl _), ?_⟩
  | with_reducible refine ⟨_, (rfl : PV.int _ = PV.int _), ?_⟩
  | (with_reducible refine And.intro (Nat.le_of_ble_eq_true (by with_unfolding_all exact rfl)) ?_)
  | refine ⟨fun _ => ?_, fun e => nomatch (e : true = false)⟩
  | refine ⟨fun e => (nomatch (e : false = true)), fun _ => ?_⟩
  | refine ⟨fun e => (nomatch (e : true = false)), fun _ => ?_⟩
  | refine ⟨fun _ => ?_, fun e => nomatch (e : false = true)⟩)
theorem ok_int {h : PH} {Q : PV → PH → Prop} {i : Int} (q : Q (.int i) h) : Ok (biP .int [.int i] h) Q := q
theorem ok_pow {h : PH} {Q : PV → PH → Prop} {i j : Int} (h1 : 0 ≤ j) (h2 : j ≤ 1000000) (h3 : i.natAbs < 18446744073709551616) (q : Q (.int (i ^ j.toNat)) h) : Ok (binP .pow (.int i) (.int j) h) Q := by
  unfold binP
  dsimp only
  rw [decide_eq_true h1, decide_eq_true h2, show Nat.blt i.natAbs 18446744073709551616 = true from Nat.ble_eq_true_of_le h3]
  exact q
theorem ix0 {h : PH} {a : Nat} {x : PV} {xs : List PV} (e : h.get a = some (.lst (x :: xs))) : ixP (.ref a) (.int 0) h = some x := by
  unfold ixP
  dsimp only
  rw [seqOf_lst e]
  exact atI_nat (xs := x :: xs) (j := 0) rfl
theorem ix1 {h : PH} {a : Nat} {x y : PV} {xs : List PV} (e : h.get a = some (.lst (x :: y :: xs))) : ixP (.ref a) (.int 1) h = some y := by
  unfold ixP
  dsimp only
  rw [seqOf_lst e]
  exact atI_nat (xs := x :: y :: xs) (j := 1) rfl
theorem ix2 {h : PH} {a : Nat} {x y z : PV} {xs : List PV} (e : h.get a = some (.lst (x :: y :: z :: xs))) : ixP (.ref a) (.int 2) h = some z := by
  unfold ixP
  dsimp only
  rw [seqOf_lst e]
  exact atI_nat (xs := x :: y :: z :: xs) (j := 2) rfl
theorem ix3 {h : PH} {a : Nat} {x y z u : PV} {xs : List PV} (e : h.get a = some (.lst (x :: y :: z :: u :: xs))) : ixP (.ref a) (.int 3) h = some u := by
  unfold ixP
  dsimp only
  rw [seqOf_lst e]
  exact atI_nat (xs := x :: y :: z :: u :: xs) (j := 3) rfl
theorem set1 {h : PH} {a : Nat} {x y z u v : PV} (e : h.get a = some (.lst [x, y, z, u])) : setP (.ref a) (.int 1) v h = some (h.set a (.lst [x, v, z, u])) := by
  unfold setP lstAt
  dsimp only
  rw [e]
  rfl
theorem set2 {h : PH} {a : Nat} {x y z u v : PV} (e : h.get a = some (.lst [x, y, z, u])) : setP (.ref a) (.int 2) v h = some (h.set a (.lst [x, y, v, u])) := by
  unfold setP lstAt
  dsimp only
  rw [e]
  rfl
theorem set3 {h : PH} {a : Nat} {x y z u v : PV} (e : h.get a = some (.lst [x, y, z, u])) : setP (.ref a) (.int 3) v h = some (h.set a (.lst [x, y, z, v])) := by
  unfold setP lstAt
  dsimp only
  rw [e]
  rfl
theorem Le.rowset {h0 h : PH} {i : Nat} {ns : List Int} {xs : List PV} {q s r : Int} (l : Le (some i) h0 h) (hi : i ≠ 0) (e0 : h.get 0 = some (.fz (ns.map PV.int))) (e : h.get i = some (.lst xs)) (hq : 0 ≤ q) : Le (some i) h0 (h.set i (.lst [.ref 0, .int q, .int s, .int r])) := by
  refine ⟨wf_set l.wf, l.n, fun j o k ej => get_of_set l.wf e (l.get j o k ej) (fun z => k (by rw [z])), fun j k _ => ?_⟩
  cases k
  exact ⟨ns, q, s, r, get_of_set l.wf e e0 (fun z => hi z.symm), get_at_set l.wf e, hq⟩
section
variable {P : Prg} {ix : Nat → Nat} {d : Nat} {h : PH} {Q : PV → PH → Prop}
theorem f_taken (H : Has P ix 38 cf__law_taken) {i : Nat} {m : Int} (hi : i ≠ 0) (R : RowAt h i) (w : Wf h) (hm : 0 < m) (hm2 : m < 1073741824) (k : ∀ x h', 0 ≤ x → x < m → Le (some i) h h' → Q (.int x) h') : Ok (callP P 1000 (d + 1) (ix 38) [.ref i, .int m] h) Q := by
  obtain ⟨ns, q, s, r, e0, e1, hq⟩ := R
  have lr : Le (some i) h h := Le.refl w
  have md : ∀ x : Int, 0 ≤ x % m ∧ x % m < m := fun x => ⟨Int.emod_nonneg x (by omega), Int.emod_lt_of_pos x hm⟩
  refine ok_def H rfl ?_
  repeat walk_at "px"
  refine ⟨_, ix3 e1, ?_⟩
  repeat walk_at "px"
  refine ⟨fun _ => ?_, fun _ => ?_⟩
  · repeat walk_at "px"
    refine ⟨_, ix3 e1, ?_⟩
    repeat walk_at "px"
    refine ok_int ?_
    repeat walk_at "px"
    refine ok_mod hm ?_
    repeat walk_at "px"
    refine ⟨_, ix3 e1, ?_⟩
    repeat walk_at "px"
    refine ok_fdiv ⟨hm, hm2⟩ ?_
    repeat walk_at "px"
    refine ⟨_, set3 e1, ?_⟩
    repeat walk_at "px"
    exact k _ _ (md _).1 (md _).2 (lr.rowset hi e0 e1 hq)
  · repeat walk_at "px"
    refine ⟨_, ix1 e1, ?_⟩
    repeat walk_at "px"
    refine ⟨_, set1 e1, ?_⟩
    have l1 : Le (some i) h (h.set i (.lst [.ref 0, .int (q + 1), .int s, .int r])) := lr.rowset hi e0 e1 (by omega)
    have e2 : (h.set i (.lst [.ref 0, .int (q + 1), .int s, .int r])).get i = some (.lst [.ref 0, .int (q + 1), .int s, .int r]) := get_at_set w e1
    have e3 : (h.set i (.lst [.ref 0, .int (q + 1), .int s, .int r])).get 0 = some (.fz (ns.map PV.int)) := get_of_set w e1 e0 (fun z => hi z.symm)
    generalize h.set i (.lst [.ref 0, .int (q + 1), .int s, .int r]) = h1 at l1 e2 e3 ⊢
    repeat walk_at "px"
    refine ⟨_, ix1 e2, ?_⟩
    repeat walk_at "px"
    refine ⟨_, ix0 e2, ?_⟩
    repeat walk_at "px"
    refine ok_len (seqOf_fz e3) ?_
    rw [List.length_map]
    repeat walk_at "px"
    refine ⟨fun _ => ?_, fun e4 => ?_⟩
    · repeat walk_at "px"
      refine ⟨_, ix2 e2, ?_⟩
      repeat walk_at "px"
      refine ok_mulR rfl ?_
      repeat walk_at "px"
      refine ok_int ?_
      repeat walk_at "px"
      refine ok_mod (by decide) ?_
      repeat walk_at "px"
      refine ⟨_, set2 e2, ?_⟩
      have l5 := l1.rowset (q := q + 1) (s := (s * 48271 + 11) % 2147483647) (r := r) hi e3 e2 (by omega)
      have e5 := get_at_set (o := PO.lst [.ref 0, .int (q + 1), .int ((s * 48271 + 11) % 2147483647), .int r]) l1.wf e2
      repeat walk_at "px"
      refine ⟨_, ix2 e5, ?_⟩
      repeat walk_at "px"
      refine ok_fdiv (by decide) ?_
      repeat walk_at "px"
      refine ok_int ?_
      repeat walk_at "px"
      refine ok_mod hm ?_
      exact k _ _ (md _).1 (md _).2 l5
    · have e4 := of_decide_eq_false e4
      have hlt : q.toNat < ns.length := by omega
      repeat walk_at "px"
      refine ⟨_, ix0 e2, ?_⟩
      repeat walk_at "px"
      refine ⟨_, ix1 e2, ?_⟩
      repeat walk_at "px"
      have e6 : ixP (.ref 0) (.int (q + 1 - 1)) h1 = some (.int ns[q.toNat]) := by
        rw [show q + 1 - 1 = ((q.toNat : Nat) : Int) by omega]
        refine ix_of_nat (seqOf_fz e3) ?_
        rw [List.getElem?_map, List.getElem?_eq_getElem hlt]
        rfl
      refine ⟨_, e6, ?_⟩
      generalize ns[q.toNat] = c at e6 ⊢
      repeat walk_at "px"
      refine ⟨_, ix2 e2, ?_⟩
      repeat walk_at "px"
      refine ok_mulR rfl ?_
      repeat walk_at "px"
      refine ok_int ?_
      repeat walk_at "px"
      refine ok_mod (by decide) ?_
      repeat walk_at "px"
      refine ⟨_, set2 e2, ?_⟩
      have l5 := l1.rowset (q := q + 1) (s := (s * 48271 + c + 11) % 2147483647) (r := r) hi e3 e2 (by omega)
      have e5 := get_at_set (o := PO.lst [.ref 0, .int (q + 1), .int ((s * 48271 + c + 11) % 2147483647), .int r]) l1.wf e2
      have e7 := get_of_set (o := PO.lst [.ref 0, .int (q + 1), .int ((s * 48271 + c + 11) % 2147483647), .int r]) l1.wf e2 e3 (fun z => hi z.symm)
      generalize h1.set i (.lst [.ref 0, .int (q + 1), .int ((s * 48271 + c + 11) % 2147483647), .int r]) = h2 at l5 e5 e7 ⊢
      repeat walk_at "px"
      refine ok_pow (by decide) (by decide) (by decide) ?_
      repeat walk_at "px"
      refine ⟨fun _ => ?_, fun _ => ?_⟩
      · repeat walk_at "px"
        refine ok_fdiv ⟨hm, hm2⟩ ?_
        repeat walk_at "px"
        refine ⟨_, set3 e5, ?_⟩
        repeat walk_at "px"
        refine ok_int ?_
        repeat walk_at "px"
        refine ok_mod hm ?_
        exact k _ _ (md _).1 (md _).2 (l5.rowset hi e7 e5 (by omega))
      · repeat walk_at "px"
        refine ok_int ?_
        repeat walk_at "px"
        refine ok_mod hm ?_
        exact k _ _ (md _).1 (md _).2 l5
theorem Le.rowAt {i : Nat} {h h' : PH} (l : Le (some i) h h') (R : RowAt h i) : RowAt h' i := l.row i rfl R
theorem f_pick (H38 : Has P ix 38 cf__law_taken) (H : Has P ix 39 cf__law_pick) {i j : Nat} {xs : List PV} (hi : i ≠ 0) (R : RowAt h i) (w : Wf h) (ne : j ≠ i) (ej : h.get j = some (.lst xs)) (h0 : 0 < xs.length) (h9 : xs.length ≤ 1000)
    (k : ∀ (n : Nat) (x : PV) (h' : PH), xs[n]? = some x → Le (some i) h h' → Q x h') : Ok (callP P 1000 (d + 2) (ix 39) [.ref i, .ref j] h) Q := by
  refine ok_def H rfl ?_
  repeat walk_at "px"
  refine ok_len (seqOf_lst ej) ?_
  repeat walk_at "px"
  refine f_taken H38 hi R w (by omega) (by omega) fun x h1 x0 x1 l1 => ?_
  have e1 := l1.get j _ (fun z => ne (by injection z with z; exact z.symm)) ej
  have hx : x.toNat < xs.length := by omega
  have e2 : ixP (.ref j) (.int ((x.toNat : Nat) : Int)) h1 = some xs[x.toNat] := ix_of_nat (seqOf_lst e1) (List.getElem?_eq_getElem hx)
  rw [Int.toNat_of_nonneg x0] at e2
  exact ⟨_, e2, k x.toNat _ _ (List.getElem?_eq_getElem hx) l1⟩
end
end Pyx

namespace Pyx
open PySem L2
local macro_rules | `(tactic| walk_at "px") => `(tactic| first
  | (with_reducible refine ok_var (v := ?_) (by with_unfolding_all exact rfl) ?_)
  | with_reducible refine os_nil ?_
  | with_reducible refine os_cons ?_
  | with_reducible refine os_pass ?_
  | with_reducible refine os_retN ?_
  | with_reducible refine os_brk ?_
  | with_reducible refine os_cont ?_
  | with_reducible refine os_ret ?_
  | with_reducible refine os_expr ?_
  | with_reducible refine os_set ?_
  | with_reducible refine os_asg ?_
  | with_reducible refine os_par ?_
  | with_reducible refine os_par3 ?_
  | with_reducible refine os_setix ?_
  | with_reducible refine os_ite ?_
  | with_reducible refine os_for ?_
  | with_reducible refine os_while ?_
  | with_reducible refine ok_val ?_
  | with_reducible refine ok_bin ?_
  | with_reducible refine ok_neg ?_
  | with_reducible refine ok_cmp ?_
  | with_reducible refine ok_chain ?_
  | with_reducible refine ok_isin ?_
  | with_reducible refine ok_and ?_
  | with_reducible refine ok_or ?_
  | with_reducible refine ok_not ?_
  | with_reducible refine ok_ite ?_
  | with_reducible refine ok_tup ?_
  | with_reducible refine ok_lst ?_
  | with_reducible refine ok_call ?_
  | with_reducible refine ok_bi ?_
  | with_reducible refine ok_isi ?_
  | with_reducible refine ok_isis ?_
  | with_reducible refine ok_ix ?_
  | with_reducible refine ok_sl ?_
  | with_reducible refine ok_oN ?_
  | with_reducible refine ok_oS ?_
  | with_reducible refine ok_nil ?_
  | with_reducible refine ok_cons ?_
  | with_reducible refine ok_bval ?_
  | with_reducible refine ok_bbl ?_
  | with_reducible refine ok_bnot ?_
  | with_reducible refine ok_band ?_
  | with_reducible refine ok_bor ?_
  | with_reducible refine ok_ifN ?_
  | with_reducible refine ok_ifS ?_
  | with_reducible refine ok_rng1 ?_
  | with_reducible refine ok_rng2 ?_
  | with_reducible refine ok_over ?_
  | with_reducible refine ok_enum ?_
  | with_reducible refine ok_add ?_
  | with_reducible refine ok_sub ?_
  | (with_reducible refine ok_lc (by with_unfolding_all exact rfl) ?_)
  | with_reducible refine ⟨_, eq_int, ?_⟩
  | with_reducible refine ⟨_, ne_int, ?_⟩
  | with_reducible refine ⟨_, lt_int', ?_⟩
  | with_reducible refine ⟨_, le_int', ?_⟩
  | with_reducible refine ⟨_, gt_int', ?_⟩
  | with_reducible refine ⟨_, ge_int', ?_⟩
  | with_reducible refine ⟨_, eq_bl, ?_⟩
  | with_reducible refine ⟨_, ne_bl, ?_⟩
  | with_reducible refine ⟨_, ty_ii, ?_⟩
  | with_reducible refine ⟨_, ty_ib, ?_⟩
  | with_reducible refine ⟨_, ty_tt, ?_⟩
  | with_reducible refine ⟨_, ty_tl, ?_⟩
  | with_reducible refine ⟨_, ty_bb, ?_⟩
  | with_reducible refine ⟨_, ty_bi, ?_⟩
  | with_reducible refine ⟨_, truth_bl, ?_⟩
  | with_reducible refine ⟨_, (rfl : PV.bl _ = PV.bl _), ?_⟩
  | with_reducible refine ⟨_, (rfl : PV.int _ = PV.int _), ?_⟩
  | (with_reducible refine And.intro (Nat.le_of_ble_eq_true (by with_unfolding_all exact rfl)) ?_)
  | refine ⟨fun _ => ?_, fun e => nomatch (e : true = false)⟩
  | refine ⟨fun e => (nomatch (e : false = true)), fun _ => ?_⟩
  | refine ⟨fun e => (nomatch (e : true = false)), fun _ => ?_⟩
  | refine ⟨fun _ => ?_, fun e => nomatch (e : false = true)⟩)
theorem srt_len : ∀ (ks : List Nat) (a m : Nat), ks.Pairwise (· < ·) → (∀ x ∈ ks, a ≤ x ∧ x < a + m) → ks.length ≤ m
  | [], _, _, _, _ => Nat.zero_le _
  | x :: r, a, m, h1, h2 => by
    obtain ⟨p1, p2⟩ := List.pairwise_cons.mp h1
    have y := h2 x List.mem_cons_self
    have z := srt_len r (x + 1) (a + m - (x + 1)) p2 fun k hk => by
      have h3 := p1 k hk
      have h4 := h2 k (List.mem_cons_of_mem _ hk)
      omega
    rw [List.length_cons]
    omega
theorem ok_slL {h : PH} {Q : PV → PH → Prop} {a : Nat} {xs : List PV} {lo hi : Option Int} (e : seqL (.ref a) h = some xs) (z : xs.length ≤ 100000) (q : Q (.ref h.n) (h.push (.lst (cutP xs lo hi)))) : Ok (slP (.ref a) lo hi h) Q := by
  unfold slP
  dsimp only
  rw [e]
  dsimp only
  unfold okL small
  have z2 : (cutP xs lo hi).length ≤ 100000 := by
    unfold cutP
    rw [List.length_take, List.length_drop]
    omega
  rw [Nat.ble_eq_true_of_le z2]
  exact q
theorem cut_take (xs : List PV) (m : Nat) : cutP xs none (some (m : Int)) = xs.take m := by
  unfold cutP
  rw [HT.sIx_nat, HT.sIx_none, List.drop_zero, Nat.sub_zero]
  by_cases h : m ≤ xs.length
  · rw [Nat.min_eq_left h]
  · rw [Nat.min_eq_right (by omega), List.take_length, List.take_of_length_le (by omega)]
section
variable {P : Prg} {ix : Nat → Nat} {d : Nat} {h : PH} {Q : PV → PH → Prop}
theorem f_line (H38 : Has P ix 38 cf__law_taken) (H39 : Has P ix 39 cf__law_pick) (H : Has P ix 40 cf__law_line) {i : Nat} {most col : Int} (hi : i ≠ 0) (R : RowAt h i) (w : Wf h) (h3 : 3 ≤ most) (h40 : most ≤ 40) (c1 : 1 ≤ col) (c10 : col ≤ 10)
    (k : ∀ (L : Ln) (h' : PH), Good1 L → (L.many : Int) ≤ most → (∀ c ∈ L.cells, c < col) → Le (some i) h h' → Q L.v h') : Ok (callP P 1000 (d + 3) (ix 40) [.ref i, .int most, .int col] h) Q := by
  have hin : i < h.n := by
    obtain ⟨_, _, _, _, _, e, _⟩ := R
    exact get_lt e
  refine ok_def H rfl ?_
  repeat walk_at "px"
  refine f_taken H38 hi R w (by decide) (by decide) fun x1 h1 _ _ l1 => ?_
  refine ok_val ⟨_, eq_int, ?_⟩
  generalize decide (x1 = 0) = ring
  refine os_cons (os_set (Ok.mono (Q := fun v h2 => ∃ m : Nat, v = .int (m : Int) ∧ 1 ≤ m ∧ (ring = true → 3 ≤ m) ∧ (m : Int) ≤ most ∧ Le (some i) h h2) ?A ?B))
  case A =>
    repeat walk_at "px"
    refine ⟨fun e => ?_, fun e => ?_⟩
    · repeat walk_at "px"
      refine f_taken H38 hi (l1.rowAt R) l1.wf (by omega) (by omega) fun x2 h2 a b l2 => ?_
      repeat walk_at "px"
      exact ⟨(3 + x2).toNat, by rw [Int.toNat_of_nonneg (by omega)], by omega, fun _ => by omega, by omega, l1.trans l2⟩
    · repeat walk_at "px"
      refine f_taken H38 hi (l1.rowAt R) l1.wf (by omega) (by omega) fun x2 h2 a b l2 => ?_
      repeat walk_at "px"
      exact ⟨(1 + x2).toNat, by rw [Int.toNat_of_nonneg (by omega)], by omega, fun z => absurd (e.symm.trans z) (by decide), by omega, l1.trans l2⟩
  case B =>
    rintro v h2 ⟨m, rfl, m1, m3, mm, l2⟩
    repeat walk_at "px"
    refine f_taken H38 hi (l2.rowAt R) l2.wf (by decide) (by decide) fun way h3' w0 w4 l3 => ?_
    have l3 := l2.trans l3
    repeat walk_at "px"
    refine f_taken H38 hi (l3.rowAt R) l3.wf (by omega) (by omega) fun ca h4 ca0 ca1 l4 => ?_
    have l4 := l3.trans l4
    repeat walk_at "px"
    refine f_taken H38 hi (l4.rowAt R) l4.wf (by omega) (by omega) fun cb h5 cb0 cb1 l5 => ?_
    have l5 := l4.trans l5
    repeat walk_at "px"
    refine ⟨⟨by omega, by omega, by omega, by omega⟩, ?_⟩
    refine os_forL (fun j st h' => j ≤ ((m : Int) - 2).toNat ∧ Le (some i) h h' ∧ ∃ (cs : List Int) (s7 s8 : Option PV), h'.get h5.n = some (.lst (iL cs)) ∧ cs.length = 2 + j ∧ (∀ c ∈ cs, 0 ≤ c ∧ c < col) ∧
        st = [some (.ref i), some (.int most), some (.int col), some (.bl ring), some (.int (m : Int)), some (.int way), some (.ref h5.n), s7, s8, none, none]) ((m : Int) - 2).toNat (fun j st h' ⟨i1, i2, cs, s7, s8, i3, i4, i5, i6⟩ => ⟨i1, ?_⟩) _ 0 _ _ (by omega)
      ⟨Nat.zero_le _, l5.p, [ca, cb], none, none, get_new, rfl, fun c hc => by
        rcases List.mem_cons.mp hc with e | hc
        · rw [e]; exact ⟨ca0, ca1⟩
        · rw [List.mem_singleton.mp hc]; exact ⟨cb0, cb1⟩, rfl⟩
    subst i6
    rw [iv_rng]
    have hne : some i ≠ some h5.n := fun z => by
      injection z with z
      have := l5.n
      omega
    by_cases hj : j < ((m : Int) - 2).toNat
    · have e : (rng 2 ((m : Int) - 2).toNat)[j]? = some (.int (2 + (j : Nat))) := by
        unfold rng
        rw [List.getElem?_map, List.getElem?_range hj]
        rfl
      rw [e]
      refine .inr ⟨_, _, rfl, rfl, ?_⟩
      repeat walk_at "px"
      refine f_taken H38 hi (i2.rowAt R) i2.wf (by omega) (by omega) fun fr h6 f0 f1 l6 => ?_
      have g6 := l6.get _ _ hne i3
      have l6 := i2.trans l6
      repeat walk_at "px"
      refine ok_mt (ok_var rfl ⟨⟨_, seqL_lst g6⟩, ?_⟩)
      refine ok_cons (Ok.mono (Q := fun v h' => ∃ c : Int, v = .int c ∧ 0 ≤ c ∧ c < col ∧ Le (some i) h6 h') ?C ?D)
      case C =>
        repeat walk_at "px"
        refine ⟨fun _ => ?_, fun _ => ?_⟩
        · repeat walk_at "px"
          refine f_taken H38 hi (l6.rowAt R) l6.wf (by decide) (by decide) fun x7 h7 _ _ l7 => ?_
          have g7 := l7.get _ _ hne g6
          repeat walk_at "px"
          refine ⟨fun _ => ?_, fun _ => ?_⟩
          · repeat walk_at "px"
            have hj2 : j < cs.length := by omega
            have e7 : ixP (.ref h5.n) (.int (2 + (j : Nat) - 2)) h7 = some (.int cs[j]) := by
              rw [show (2 + ((j : Nat) : Int) - 2) = ((j : Nat) : Int) by omega]
              refine ix_of_nat (seqOf_lst g7) ?_
              rw [List.getElem?_map, List.getElem?_eq_getElem hj2]
              rfl
            have c0 := i5 _ (List.getElem_mem hj2)
            exact ⟨_, e7, _, rfl, c0.1, c0.2, l7⟩
          · repeat walk_at "px"
            exact ⟨f0, f1, l7⟩
        · repeat walk_at "px"
          exact ⟨f0, f1, Le.refl l6.wf⟩
      case D =>
        rintro v h7 ⟨c, rfl, c0, c9, l7⟩
        have g7 := l7.get _ _ hne g6
        have l7 := l6.trans l7
        repeat walk_at "px"
        refine ok_append g7 (by rw [List.length_map]; omega) ?_
        repeat walk_at "px"
        refine ⟨by omega, Le.set l7 (by have := l5.n; omega) g7, cs ++ [c], _, _, ?_, by rw [List.length_append, i4, List.length_singleton]; omega, fun y hy => ?_, rfl⟩
        · rw [get_at_set l7.wf g7, ← iL_app]
          rfl
        · rcases List.mem_append.mp hy with hy | hy
          · exact i5 y hy
          · rw [List.mem_singleton.mp hy]
            exact ⟨c0, c9⟩
    · have ej : j = ((m : Int) - 2).toNat := by omega
      have e : (rng 2 ((m : Int) - 2).toNat)[j]? = none := List.getElem?_eq_none (by rw [rng_len]; omega)
      rw [e]
      refine .inl ⟨rfl, ?_⟩
      have hin' : i < h'.n := by
        have := i2.n
        omega
      repeat walk_at "px"
      refine f_pick H38 H39 hi ((i2.p (o := PO.lst [.int 3, .int 6, .int 40])).rowAt R) (wf_push i2.wf) (fun z => by omega) get_new (by show 0 < 3; omega) (by show 3 ≤ 1000; omega) fun n x h7 en l7 => ?_
      have g7 := l7.get _ _ hne (get_old i3)
      have l7 := i2.p.trans l7
      have ht : ∃ t : Int, x = .int t ∧ 0 < t ∧ t < 1073741824 := by
        match n, en with
        | 0, en => cases en; exact ⟨3, rfl, by decide, by decide⟩
        | 1, en => cases en; exact ⟨6, rfl, by decide, by decide⟩
        | 2, en => cases en; exact ⟨40, rfl, by decide, by decide⟩
        | n + 3, en => cases en
      obtain ⟨t, rfl, t0, t1⟩ := ht
      repeat walk_at "px"
      refine ⟨⟨by omega, by omega⟩, ?_⟩
      rw [Int.toNat_natCast]
      refine ok_lcI (some i) (rng 0 m) h7 l7.wf (fun a e => by cases e; have := l7.n; omega) (fun k h' _ => iv_rng k h') (by rw [rng_len]; omega) (fun k acc => ∃ ks : List Nat, acc = nL ks ∧ ks.Pairwise (· < ·) ∧ ∀ x ∈ ks, x < k) ⟨[], rfl, List.Pairwise.nil, fun x hx => (nomatch hx)⟩ (fun k v acc h8 e i8 l8 => ?_) (fun acc h8 i8 _ l8 g8 => ?_) (by rw [rng_len]; omega)
      · obtain ⟨hk, rfl⟩ := rng_at e
        rw [Int.zero_add] at e ⊢
        obtain ⟨ks, rfl, k1, k2⟩ := i8
        refine ⟨_, rfl, ?_⟩
        repeat walk_at "px"
        have l8' := l7.trans l8
        refine f_taken H38 hi (l8'.rowAt R) l8'.wf t0 t1 fun x9 h9 _ _ l9 => ?_
        repeat walk_at "px"
        refine ⟨l9, fun _ => ⟨ks, rfl, k1, fun x hx => Nat.lt_succ_of_lt (k2 x hx)⟩, fun _ => ?_⟩
        repeat walk_at "px"
        refine ⟨Le.refl l9.wf, ks ++ [k], ?_, ?_, fun x hx => ?_⟩
        · unfold nL
          rw [List.map_append]
          rfl
        · exact List.pairwise_append.mpr ⟨k1, List.pairwise_singleton _ _, fun a ha b hb => by rw [List.mem_singleton.mp hb]; exact k2 a ha⟩
        · rcases List.mem_append.mp hx with hx | hx
          · exact Nat.lt_succ_of_lt (k2 x hx)
          · rw [List.mem_singleton.mp hx]
            exact Nat.lt_succ_self _
      · obtain ⟨ks, rfl, k1, k2⟩ := i8
        rw [rng_len] at k2
        have g9 := l8.get _ _ hne g7
        have l8' := l7.trans l8
        have klen : ks.length ≤ m := srt_len ks 0 m k1 fun x hx => ⟨Nat.zero_le _, by have := k2 x hx; omega⟩
        repeat walk_at "px"
        refine ok_tupleOf (seqOf_lst g8) (by unfold nL; rw [List.length_map]; omega) ?_
        repeat walk_at "px"
        refine ok_slL (seqL_lst g9) (by rw [List.length_map]; omega) ?_
        rw [cut_take]
        repeat walk_at "px"
        refine ok_tupleOf (seqOf_lst get_new) (by rw [List.length_take]; omega) ?_
        repeat walk_at "px"
        have hlen : (cs.take m).length = m := by
          rw [List.length_take]
          omega
        have fin := k ⟨cs.take m, ks.map (fun k => ((k : Nat) : Int)), ring⟩ _ ⟨?g1, ?g2, ?g3, ?g4, ?g5, ?g6⟩ (by show (((cs.take m).length : Nat) : Int) ≤ most; rw [hlen]; exact mm) (fun c hc => (i5 c (List.mem_of_mem_take hc)).2) (l8'.p (o := PO.lst ((iL cs).take m)))
        case g1 => show 1 ≤ (cs.take m).length; rw [hlen]; exact m1
        case g2 => intro z; show 3 ≤ (cs.take m).length; rw [hlen]; exact m3 z
        case g3 => show (cs.take m).length ≤ 40; rw [hlen]; omega
        case g4 => intro c hc; have := i5 c (List.mem_of_mem_take hc); omega
        case g5 => exact List.pairwise_map.mpr (k1.imp fun h => by omega)
        case g6 =>
          intro x hx
          obtain ⟨y, hy, rfl⟩ := List.mem_map.mp hx
          have := k2 y hy
          show 0 ≤ ((y : Nat) : Int) ∧ ((y : Nat) : Int) < (((cs.take m).length : Nat) : Int)
          rw [hlen]
          omega
        have e9 : Ln.v ⟨cs.take m, ks.map (fun k => ((k : Nat) : Int)), ring⟩ = .tup [.tup ((iL cs).take m), .tup (nL ks), .bl ring] := by
          unfold Ln.v nL
          rw [iL, List.map_take, iL, List.map_map]
          rfl
        rw [e9] at fin
        exact fin
end
end Pyx

namespace Pyx
open PySem L2
local macro_rules | `(tactic| walk_at "px") => `(tactic| first
  | (with_reducible refine ok_var (v := ?_) (by with_unfolding_all exact rfl) ?_)
  | with_reducible refine os_nil ?_
  | with_reducible refine os_cons ?_
  | with_reducible refine os_pass ?_
  | with_reducible refine os_retN ?_
  | with_reducible refine os_brk ?_
  | with_reducible refine os_cont ?_
  | with_reducible refine os_ret ?_
  | with_reducible refine os_expr ?_
  | with_reducible refine os_set ?_
  | with_reducible refine os_asg ?_
  | with_reducible refine os_par ?_
  | with_reducible refine os_par3 ?_
  | with_reducible refine os_setix ?_
  | with_reducible refine os_ite ?_
  | with_reducible refine os_for ?_
  | with_reducible refine os_while ?_
  | with_reducible refine ok_val ?_
  | with_reducible refine ok_bin ?_
  | with_reducible refine ok_neg ?_
  | with_reducible refine ok_cmp ?_
  | with_reducible refine ok_chain ?_
  | with_reducible refine ok_isin ?_
  | with_reducible refine ok_and ?_
  | with_reducible refine ok_or ?_
  | with_reducible refine ok_not ?_
  | with_reducible refine ok_ite ?_
  | with_reducible refine ok_tup ?_
  | with_reducible refine ok_lst ?_
  | with_reducible refine ok_call ?_
  | with_reducible refine ok_bi ?_
  | with_reducible refine ok_isi ?_
  | with_reducible refine ok_isis ?_
  | with_reducible refine ok_ix ?_
  | with_reducible refine ok_sl ?_
  | with_reducible refine ok_oN ?_
  | with_reducible refine ok_oS ?_
  | with_reducible refine ok_nil ?_
  | with_reducible refine ok_cons ?_
  | with_reducible refine ok_bval ?_
  | with_reducible refine ok_bbl ?_
  | with_reducible refine ok_bnot ?_
  | with_reducible refine ok_band ?_
  | with_reducible refine ok_bor ?_
  | with_reducible refine ok_ifN ?_
  | with_reducible refine ok_ifS ?_
  | with_reducible refine ok_rng1 ?_
  | with_reducible refine ok_rng2 ?_
  | with_reducible refine ok_over ?_
  | with_reducible refine ok_enum ?_
  | with_reducible refine ok_add ?_
  | with_reducible refine ok_sub ?_
  | (with_reducible refine ok_lc (by with_unfolding_all exact rfl) ?_)
  | with_reducible refine ⟨_, eq_int, ?_⟩
  | with_reducible refine ⟨_, ne_int, ?_⟩
  | with_reducible refine ⟨_, lt_int', ?_⟩
  | with_reducible refine ⟨_, le_int', ?_⟩
  | with_reducible refine ⟨_, gt_int', ?_⟩
  | with_reducible refine ⟨_, ge_int', ?_⟩
  | with_reducible refine ⟨_, eq_bl, ?_⟩
  | with_reducible refine ⟨_, ne_bl, ?_⟩
  | with_reducible refine ⟨_, ty_ii, ?_⟩
  | with_reducible refine ⟨_, ty_ib, ?_⟩
  | with_reducible refine ⟨_, ty_tt, ?_⟩
  | with_reducible refine ⟨_, ty_tl, ?_⟩
  | with_reducible refine ⟨_, ty_bb, ?_⟩
  | with_reducible refine ⟨_, ty_bi, ?_⟩
  | with_reducible refine ⟨_, truth_bl, ?_⟩
  | with_reducible refine ⟨_, (rfl : PV.bl _ = PV.bl _), ?_⟩
  | with_reducible refine ⟨_, (rfl : PV.int _ = PV.int _), ?_⟩
  | (with_reducible refine And.intro (Nat.le_of_ble_eq_true (by with_unfolding_all exact rfl)) ?_)
  | refine ⟨fun _ => ?_, fun e => nomatch (e : true = false)⟩
  | refine ⟨fun e => (nomatch (e : false = true)), fun _ => ?_⟩
  | refine ⟨fun e => (nomatch (e : true = false)), fun _ => ?_⟩
  | refine ⟨fun _ => ?_, fun e => nomatch (e : false = true)⟩)
theorem at_succ {L : Ln} {k : Nat} {h : PH} (hk : k < L.many) : ixP (.tup (iL L.cells)) (.int ((k : Int) + 1 - (L.many : Int))) h = some (.int (L.at ((k : Int) + 1))) := by
  have hl : (iL L.cells).length = L.many := List.length_map _
  by_cases h1 : k + 1 = L.many
  · have e : (k : Int) + 1 - (L.many : Int) = ((0 : Nat) : Int) := by omega
    rw [e, at_small (by omega)]
    unfold Ln.at
    have e2 : ((k : Int) + 1) % (L.many : Int) = 0 := by
      rw [show (k : Int) + 1 = (L.many : Int) by omega, Int.emod_self]
    have e3 : ((((0 : Nat) : Int)) % (L.many : Int)) = 0 := Int.zero_emod _
    rw [e2, e3]
  · have e1 : ixN (iL L.cells).length ((k : Int) + 1 - (L.many : Int)) = some (k + 1) := by
      unfold ixN
      rw [hl, if_neg (by omega), if_pos (by omega)]
      congr 1
      omega
    unfold ixP
    dsimp only
    rw [show seqOf (.tup (iL L.cells)) h = some (iL L.cells) from rfl]
    dsimp only
    unfold atI
    rw [e1]
    show (iL L.cells)[k + 1]? = _
    have hk2 : k + 1 < L.cells.length := by
      have : k + 1 ≠ L.many := h1
      show k + 1 < L.many
      omega
    rw [List.getElem?_map, List.getElem?_eq_getElem hk2, show (k : Int) + 1 = ((k + 1 : Nat) : Int) by omega, at_cells hk2]
    rfl
theorem nL_succ (c : Nat → Bool) (k : Nat) : nL ((List.range (k + 1)).filter c) = nL ((List.range k).filter c) ++ (if c k then [.int ((k : Nat) : Int)] else []) := filter_step c _ k
theorem nL_len {ks : List Nat} : (nL ks).length = ks.length := List.length_map _
theorem fr_len (c : Nat → Bool) (k : Nat) : ((List.range k).filter c).length ≤ k := by
  have z := List.length_filter_le c (List.range k)
  rw [List.length_range] at z
  exact z
section
variable {P : Prg} {ix : Nat → Nat} {d : Nat} {h : PH} {Q : PV → PH → Prop}
theorem nL_ints (ks : List Nat) : nL ks = iL (ks.map fun k => ((k : Nat) : Int)) := by
  unfold nL
  rw [iL, List.map_map]
  rfl
theorem in_nL {v : PV} {ks : List Nat} {k : Nat} (e : seqOf v h = some (nL ks)) : inP (.int (k : Int)) v h = some (decide (k ∈ ks)) := by
  rw [nL_ints] at e
  rw [in_ints e]
  refine congrArg some (decide_eq_decide.mpr ⟨fun z => ?_, fun z => List.mem_map.mpr ⟨k, z, rfl⟩⟩)
  obtain ⟨j, hj, e⟩ := List.mem_map.mp z
  have : j = k := by omega
  rw [← this]
  exact hj
def Ln.heldN (L : Ln) : List Nat := (List.range L.many).filter fun k => decide ((k : Int) ∈ L.heldI)
theorem g_held (H : Has P ix 41 cf__law_held) {L : Ln} (G : Good1 L) (w : Wf h) (q : ∀ i h', Le none h h' → h.n ≤ i → h'.get i = some (.lst (nL L.heldN)) → Q (.ref i) h') : Ok (callP P 1000 (d + 1) (ix 41) [L.v] h) Q := by
  have h40 := G.most
  refine ok_def H rfl ?_
  repeat walk_at "px"
  refine ⟨_, rfl, ?_⟩
  repeat walk_at "px"
  refine ok_len (xs := iL L.cells) (by rfl) ?_
  rw [List.length_map]
  repeat walk_at "px"
  refine ⟨⟨by omega, by show (L.many : Int) ≤ _; omega⟩, ?_⟩
  rw [show ((L.cells.length : Nat) : Int).toNat = L.many from Int.toNat_natCast _]
  refine ok_lcI none (rng 0 L.many) h w (fun i e => by cases e) (fun k h' _ => iv_rng k h') (by rw [rng_len]; omega) (fun k acc => acc = nL ((List.range k).filter fun k => decide ((k : Int) ∈ L.heldI))) rfl (fun k v acc h1 e i1 l1 => ?_) (fun acc h' i1 _ l g => ?_) (by rw [rng_len]; omega)
  · obtain ⟨hk, rfl⟩ := rng_at e
    rw [Int.zero_add] at e ⊢
    refine ⟨_, rfl, ?_⟩
    refine ok_ifS (Ok.mono (Q := fun b h2 => Le none h1 h2 ∧ b = decide ((k : Int) ∈ L.heldI)) ?A ?B)
    case A =>
      repeat walk_at "px"
      refine ⟨_, rfl, ?_⟩
      repeat walk_at "px"
      refine ⟨_, in_ints (ns := L.held) (by rfl), ?_⟩
      repeat walk_at "px"
      refine ⟨fun e1 => ?_, fun e1 => ?_⟩
      · have e1 : decide ((k : Int) ∈ L.held) = false := e1
        repeat walk_at "px"
        refine ⟨_, rfl, ?_⟩
        repeat walk_at "px"
        refine ⟨fun e2 => ?_, fun e2 => ?_⟩
        · have e2 : L.ring = false := by cases z : L.ring <;> rw [z] at e2 <;> first | rfl | (cases e2; done)
          repeat walk_at "px"
          refine ⟨_, in_ints (ns := [0, (L.cells.length : Int) - 1]) (seqOf_lst get_new), ?_⟩
          repeat walk_at "px"
          refine ⟨Le.push l1.wf, decide_eq_decide.mpr ?_⟩
          rw [heldI_mem]
          have e1 := of_decide_eq_false e1
          rw [List.mem_cons, List.mem_singleton]
          exact ⟨fun z => .inr ⟨e2, z⟩, fun z => by
            rcases z with z | z
            · exact absurd z e1
            · exact z.2⟩
        · have e2 : L.ring = true := by cases z : L.ring <;> rw [z] at e2 <;> first | rfl | (cases e2; done)
          refine ⟨Le.refl l1.wf, (decide_eq_false fun z => ?_).symm⟩
          have e1 := of_decide_eq_false e1
          rcases heldI_mem.mp z with z | z
          · exact e1 z
          · rw [e2] at z
            cases z.1
      · have e1 : decide ((k : Int) ∈ L.held) = true := e1
        exact ⟨Le.refl l1.wf, (decide_eq_true (heldI_mem.mpr (.inl (of_decide_eq_true e1)))).symm⟩
    case B =>
      rintro b h2 ⟨l2, rfl⟩
      refine ⟨l2, fun e2 => ?_, fun e2 => ?_⟩
      · rw [i1, nL_succ, e2]
        exact (List.append_nil _).symm
      · repeat walk_at "px"
        refine ⟨Le.refl l2.wf, ?_⟩
        rw [i1, nL_succ, e2]
        rfl
  · rw [rng_len] at i1
    refine q _ h' l (Nat.le_refl _) ?_
    rw [g, i1]
    rfl
theorem g_ready (H41 : Has P ix 41 cf__law_held) (H : Has P ix 42 cf__law_ready) {L : Ln} (G : Good1 L) (w : Wf h) (q : ∀ i h', Le none h h' → h.n ≤ i → h'.get i = some (.lst (nL L.readyN)) → Q (.ref i) h') : Ok (callP P 1000 (d + 2) (ix 42) [L.v] h) Q := by
  have h40 := G.most
  refine ok_def H rfl ?_
  repeat walk_at "px"
  refine ⟨_, rfl, ?_⟩
  repeat walk_at "px"
  refine ⟨_, rfl, ?_⟩
  repeat walk_at "px"
  refine ok_len (xs := iL L.cells) (by rfl) ?_
  rw [List.length_map]
  repeat walk_at "px"
  refine g_held H41 G w fun i h1 l1 hi g1 => ?_
  repeat walk_at "px"
  refine ⟨_, rfl, ?_⟩
  repeat walk_at "px"
  refine ⟨⟨by omega, by show (L.many : Int) ≤ _; omega⟩, ?_⟩
  rw [show ((L.cells.length : Nat) : Int).toNat = L.many from Int.toNat_natCast _]
  refine os_forL (fun j st h' => j ≤ L.many ∧ Le none h1 h' ∧ h'.get h1.n = some (.lst (nL ((List.range j).filter L.rdy))) ∧ ∃ s5 s6 s7, st = [some L.v, some (.tup (iL L.cells)), some (.int ((L.many : Nat) : Int)), some (.ref i), some (.ref h1.n), s5, s6, s7]) L.many (fun j st h' ⟨i1, i2, i3, s5, s6, s7, i4⟩ => ⟨i1, ?_⟩) _ 0 _ _ (by omega)
    ⟨Nat.zero_le _, Le.push l1.wf, get_new, none, none, none, rfl⟩
  subst i4
  rw [iv_rng]
  have gh := i2.get _ _ (by intro z; cases z) g1
  by_cases hj : j < L.many
  · have e : (rng 0 L.many)[j]? = some (.int ((j : Nat) : Int)) := by
      unfold rng
      rw [List.getElem?_map, List.getElem?_range hj]
      show some (PV.int (0 + (j : Int))) = _
      rw [Int.zero_add]
    rw [e]
    refine .inr ⟨_, _, rfl, rfl, ?_⟩
    repeat walk_at "px"
    refine ⟨_, at_pred hj, ?_⟩
    repeat walk_at "px"
    refine ⟨_, at_succ hj, ?_⟩
    have hh : decide (j ∈ L.heldN) = decide ((j : Int) ∈ L.heldI) := decide_eq_decide.mpr (by
      unfold Ln.heldN
      rw [List.mem_filter, List.mem_range, decide_eq_true_eq]
      exact ⟨fun z => z.2, fun z => ⟨hj, z⟩⟩)
    have done0 : L.rdy j = false → nL ((List.range (j + 1)).filter L.rdy) = nL ((List.range j).filter L.rdy) := fun z => by
      rw [nL_succ, z]
      exact List.append_nil _
    repeat walk_at "px"
    refine ⟨_, in_nL (seqOf_lst gh), ?_⟩
    rw [hh]
    repeat walk_at "px"
    refine ⟨fun e1 => ?_, fun e1 => ?_⟩
    · have e1 : (!decide ((j : Int) ∈ L.heldI)) = true := e1
      repeat walk_at "px"
      refine ⟨fun e2 => ?_, fun e2 => ?_⟩
      · repeat walk_at "px"
        refine ⟨_, at_small hj, ?_⟩
        repeat walk_at "px"
        have er : L.rdy j = !decide (L.at ((j : Int) - 1) = L.at j) := by
          unfold Ln.rdy Ln.flk
          rw [e1, e2, Bool.true_and, Bool.true_and, of_decide_eq_true e2]
        rw [← er]
        refine ⟨fun e3 => ?_, fun e3 => ?_⟩
        · refine os_cons (os_expr (ok_mt (ok_var rfl ⟨⟨_, seqL_lst i3⟩, ?_⟩)))
          repeat walk_at "px"
          refine ok_append i3 (by rw [nL_len]; exact Nat.le_trans (fr_len _ _) (by omega)) ?_
          repeat walk_at "px"
          refine ⟨hj, Le.set i2 (Nat.le_refl _) i3, ?_, _, _, _, rfl⟩
          rw [get_at_set i2.wf i3, nL_succ, e3]
          rfl
        · repeat walk_at "px"
          exact ⟨hj, i2, by rw [done0 e3]; exact i3, _, _, _, rfl⟩
      · repeat walk_at "px"
        refine ⟨hj, i2, ?_, _, _, _, rfl⟩
        rw [done0 (by unfold Ln.rdy Ln.flk; rw [e2, Bool.false_and, Bool.and_false])]
        exact i3
    · have e1 : (!decide ((j : Int) ∈ L.heldI)) = false := e1
      repeat walk_at "px"
      refine ⟨hj, i2, ?_, _, _, _, rfl⟩
      rw [done0 (by unfold Ln.rdy; rw [e1, Bool.false_and])]
      exact i3
  · have ej : j = L.many := by omega
    have e : (rng 0 L.many)[j]? = none := List.getElem?_eq_none (by rw [rng_len]; omega)
    rw [e]
    refine .inl ⟨rfl, ?_⟩
    repeat walk_at "px"
    subst ej
    exact q _ _ (l1.trans i2) l1.n i3
end
end Pyx

namespace Pyx
open PySem L2
local macro_rules | `(tactic| walk_at "px") => `(tactic| first
  | (with_reducible refine ok_var (v := ?_) (by with_unfolding_all exact rfl) ?_)
  | with_reducible refine os_nil ?_
  | with_reducible refine os_cons ?_
  | with_reducible refine os_pass ?_
  | with_reducible refine os_retN ?_
  | with_reducible refine os_brk ?_
  | with_reducible refine os_cont ?_
  | with_reducible refine os_ret ?_
  | with_reducible refine os_expr ?_
  | with_reducible refine os_set ?_
  | with_reducible refine os_asg ?_
  | with_reducible refine os_par ?_
  | with_reducible refine os_par3 ?_
  | with_reducible refine os_setix ?_
  | with_reducible refine os_ite ?_
  | with_reducible refine os_for ?_
  | with_reducible refine os_while ?_
  | with_reducible refine ok_val ?_
  | with_reducible refine ok_bin ?_
  | with_reducible refine ok_neg ?_
  | with_reducible refine ok_cmp ?_
  | with_reducible refine ok_chain ?_
  | with_reducible refine ok_isin ?_
  | with_reducible refine ok_and ?_
  | with_reducible refine ok_or ?_
  | with_reducible refine ok_not ?_
  | with_reducible refine ok_ite ?_
  | with_reducible refine ok_tup ?_
  | with_reducible refine ok_lst ?_
  | with_reducible refine ok_call ?_
  | with_reducible refine ok_bi ?_
  | with_reducible refine ok_isi ?_
  | with_reducible refine ok_isis ?_
  | with_reducible refine ok_ix ?_
  | with_reducible refine ok_sl ?_
  | with_reducible refine ok_oN ?_
  | with_reducible refine ok_oS ?_
  | with_reducible refine ok_nil ?_
  | with_reducible refine ok_cons ?_
  | with_reducible refine ok_bval ?_
  | with_reducible refine ok_bbl ?_
  | with_reducible refine ok_bnot ?_
  | with_reducible refine ok_band ?_
  | with_reducible refine ok_bor ?_
  | with_reducible refine ok_ifN ?_
  | with_reducible refine ok_ifS ?_
  | with_reducible refine ok_rng1 ?_
  | with_reducible refine ok_rng2 ?_
  | with_reducible refine ok_over ?_
  | with_reducible refine ok_enum ?_
  | with_reducible refine ok_add ?_
  | with_reducible refine ok_sub ?_
  | (with_reducible refine ok_lc (by with_unfolding_all exact rfl) ?_)
  | with_reducible refine ⟨_, eq_int, ?_⟩
  | with_reducible refine ⟨_, ne_int, ?_⟩
  | with_reducible refine ⟨_, lt_int', ?_⟩
  | with_reducible refine ⟨_, le_int', ?_⟩
  | with_reducible refine ⟨_, gt_int', ?_⟩
  | with_reducible refine ⟨_, ge_int', ?_⟩
  | with_reducible refine ⟨_, eq_bl, ?_⟩
  | with_reducible refine ⟨_, ne_bl, ?_⟩
  | with_reducible refine ⟨_, ty_ii, ?_⟩
  | with_reducible refine ⟨_, ty_ib, ?_⟩
  | with_reducible refine ⟨_, ty_tt, ?_⟩
  | with_reducible refine ⟨_, ty_tl, ?_⟩
  | with_reducible refine ⟨_, ty_bb, ?_⟩
  | with_reducible refine ⟨_, ty_bi, ?_⟩
  | with_reducible refine ⟨_, truth_bl, ?_⟩
  | with_reducible refine ⟨_, (rfl : PV.bl _ = PV.bl _), ?_⟩
  | with_reducible refine ⟨_, (rfl : PV.int _ = PV.int _), ?_⟩
  | (with_reducible refine And.intro (Nat.le_of_ble_eq_true (by with_unfolding_all exact rfl)) ?_)
  | refine ⟨fun _ => ?_, fun e => nomatch (e : true = false)⟩
  | refine ⟨fun e => (nomatch (e : false = true)), fun _ => ?_⟩
  | refine ⟨fun e => (nomatch (e : true = false)), fun _ => ?_⟩
  | refine ⟨fun _ => ?_, fun e => nomatch (e : false = true)⟩)
inductive Pln : Nat → PV → Prop where
  | int (n : Nat) (i : Int) : Pln n (.int i)
  | bl (n : Nat) (b : Bool) : Pln n (.bl b)
  | tup {n : Nat} {xs : List PV} (z : xs.length ≤ 900) (k : ∀ x ∈ xs, Pln n x) : Pln (n + 1) (.tup xs)
theorem Pln.ints (n : Nat) {ns : List Int} (z : ns.length ≤ 900) : Pln (n + 1) (.tup (iL ns)) := .tup (by rw [List.length_map]; exact z) fun x hx => by
  obtain ⟨i, _, rfl⟩ := List.mem_map.mp hx
  exact .int n i
theorem tup_ix {xs : List PV} {k : Nat} {u : PV} {h : PH} (g : xs[k]? = some u) : ixP (.tup xs) (.int (k : Int)) h = some u := ix_of_nat (xs := xs) rfl g
section
variable {P : Prg} {ix : Nat → Nat} {h : PH} {Q : PV → PH → Prop}
theorem g_alike (H : Has P ix 45 cf__law_alike) : ∀ (n : Nat) (v : PV), Pln n v → ∀ (d : Nat) (h : PH) (Q : PV → PH → Prop), Wf h → (∀ h', Le none h h' → Q (.bl true) h') → Ok (callP P 1000 (d + n + 1) (ix 45) [v, v] h) Q := by
  intro n
  induction n with
  | zero =>
    intro v p d h Q w q
    cases p with
    | int _ i =>
      refine ok_def H rfl ?_
      repeat walk_at "px"
      refine ⟨_, _, rfl, rfl, ?_⟩
      repeat walk_at "px"
      refine ⟨_, rfl, ?_⟩
      repeat walk_at "px"
      refine ⟨_, rfl, ?_⟩
      repeat walk_at "px"
      rw [decide_eq_true rfl]
      exact q _ (Le.refl w)
    | bl _ b =>
      refine ok_def H rfl ?_
      repeat walk_at "px"
      refine ⟨_, _, rfl, rfl, ?_⟩
      repeat walk_at "px"
      refine ⟨_, rfl, ?_⟩
      repeat walk_at "px"
      refine ⟨_, rfl, ?_⟩
      repeat walk_at "px"
      rw [beq_self_eq_true]
      exact q _ (Le.refl w)
  | succ n ih =>
    intro v p d h Q w q
    cases p with
    | int _ i =>
      refine ok_def H rfl ?_
      repeat walk_at "px"
      refine ⟨_, _, rfl, rfl, ?_⟩
      repeat walk_at "px"
      refine ⟨_, rfl, ?_⟩
      repeat walk_at "px"
      refine ⟨_, rfl, ?_⟩
      repeat walk_at "px"
      rw [decide_eq_true rfl]
      exact q _ (Le.refl w)
    | bl _ b =>
      refine ok_def H rfl ?_
      repeat walk_at "px"
      refine ⟨_, _, rfl, rfl, ?_⟩
      repeat walk_at "px"
      refine ⟨_, rfl, ?_⟩
      repeat walk_at "px"
      refine ⟨_, rfl, ?_⟩
      repeat walk_at "px"
      rw [beq_self_eq_true]
      exact q _ (Le.refl w)
    | tup z k =>
      rename_i xs
      refine ok_def H rfl ?_
      repeat walk_at "px"
      refine ⟨_, _, rfl, rfl, ?_⟩
      repeat walk_at "px"
      refine ⟨_, _, rfl, rfl, ?_⟩
      repeat walk_at "px"
      refine ok_len (xs := xs) (by rfl) ?_
      repeat walk_at "px"
      refine ok_len (xs := xs) (by rfl) ?_
      repeat walk_at "px"
      rw [decide_eq_true (rfl : ((xs.length : Nat) : Int) = (xs.length : Nat))]
      repeat walk_at "px"
      refine ok_len (xs := xs) (by rfl) ?_
      repeat walk_at "px"
      refine ⟨⟨by omega, by omega⟩, ?_⟩
      rw [Int.toNat_natCast]
      refine ok_lcI none (rng 0 xs.length) h w (fun i e => by cases e) (fun k h' _ => iv_rng k h') (by rw [rng_len]; omega) (fun _ acc => acc = []) rfl (fun j v acc h1 e i1 l1 => ?_) (fun acc h' i1 _ l g => ?_) (by rw [rng_len]; omega)
      · obtain ⟨hj, rfl⟩ := rng_at e
        rw [Int.zero_add] at e ⊢
        refine ⟨_, rfl, ?_⟩
        have ej : xs[j]? = some xs[j] := List.getElem?_eq_getElem hj
        repeat walk_at "px"
        refine ⟨_, tup_ix ej, ?_⟩
        repeat walk_at "px"
        refine ⟨_, tup_ix ej, ?_⟩
        repeat walk_at "px"
        refine ih _ (k _ (List.getElem_mem hj)) d h1 _ l1.wf fun h2 l2 => ?_
        repeat walk_at "px"
        exact ⟨l2, fun _ => i1, fun e => (nomatch (e : false = true))⟩
      · subst i1
        repeat walk_at "px"
        refine ⟨_, eq_lsts (ns := []) (ms := []) (get_old g) get_new, ?_⟩
        rw [decide_eq_true (rfl : ([] : List Int) = [])]
        exact q _ l.p
theorem Ln.at_mem {L : Ln} (h0 : 1 ≤ L.many) (k : Int) : L.at k ∈ L.cells := by
  have h2 := Int.emod_lt_of_pos k (by omega : (0 : Int) < L.many)
  have h1 := Int.emod_nonneg k (by omega : (L.many : Int) ≠ 0)
  have hk : (k % (L.many : Int)).toNat < L.cells.length := by
    show _ < L.many
    omega
  unfold Ln.at
  rw [List.getD_eq_getElem?_getD, List.getElem?_eq_getElem hk]
  exact List.getElem_mem hk
theorem Ln.one_many {L : Ln} {k : Nat} : (L.one k).many = L.many := turn_len
theorem Ln.one_good {L : Ln} (G : Good1 L) (k : Nat) : Good1 (L.one k) := by
  refine ⟨by rw [Ln.one_many]; exact G.one, fun z => by rw [Ln.one_many]; exact G.three z, by rw [Ln.one_many]; exact G.most, fun c hc => ?_, G.srt, fun x hx => by rw [Ln.one_many]; exact G.hin x hx⟩
  obtain ⟨j, hj, rfl⟩ := List.mem_map.mp (show c ∈ (List.range L.many).map _ from hc)
  have q := fun k => G.col _ (L.at_mem G.one k)
  by_cases hjk : j ∈ [k]
  · rw [if_pos hjk]; exact q _
  · rw [if_neg hjk]; exact q _
theorem Ln.one_at {L : Ln} {k : Nat} (hk : k < L.many) (j : Int) : (L.one k).at j = if (j % (L.many : Int)).toNat = k then L.at ((k : Int) - 1) else L.at j := by
  have h2 := Int.emod_lt_of_pos j (by omega : (0 : Int) < L.many)
  have h1 := Int.emod_nonneg j (by omega : (L.many : Int) ≠ 0)
  have hj : (j % (L.many : Int)).toNat < (L.turn [k]).length := by
    rw [turn_len]
    omega
  show (L.turn [k]).getD (j % ((L.one k).many : Int)).toNat 0 = _
  rw [Ln.one_many, List.getD_eq_getElem?_getD, List.getElem?_eq_getElem hj]
  show (L.turn [k])[(j % (L.many : Int)).toNat] = _
  rw [turn_get]
  have e : L.at (((j % (L.many : Int)).toNat : Nat) : Int) = L.at j := by
    unfold Ln.at
    rw [Int.toNat_of_nonneg h1, Int.emod_emod_of_dvd _ (Int.dvd_refl _)]
  rw [e]
  by_cases e2 : (j % (L.many : Int)).toNat = k
  · rw [if_pos e2, if_pos (by rw [e2]; exact List.mem_singleton.mpr rfl), e2]
  · rw [if_neg e2, if_neg (fun z => e2 (List.mem_singleton.mp z))]
end
end Pyx

namespace Pyx
theorem Ln.at_congr {L : Ln} {a b : Int} (e : a % (L.many : Int) = b % (L.many : Int)) : L.at a = L.at b := by
  unfold Ln.at
  rw [e]
theorem Ln.at_mod {L : Ln} (k : Int) : L.at (k % (L.many : Int)) = L.at k := Ln.at_congr (Int.emod_emod_of_dvd _ (Int.dvd_refl _))
def Ln.rd (L : Ln) (k : Int) : Prop := ¬ (k % (L.many : Int)) ∈ L.heldI ∧ L.at (k - 1) = L.at (k + 1) ∧ ¬ L.at (k + 1) = L.at k
instance {L : Ln} {k : Int} : Decidable (L.rd k) := by unfold Ln.rd; infer_instance
theorem emod_sub_one {n a b : Int} (e : a % n = b % n) (c : Int) : (a - c) % n = (b - c) % n := by
  rw [Int.sub_emod a, Int.sub_emod b, e]
theorem emod_add_one {n a b : Int} (e : a % n = b % n) (c : Int) : (a + c) % n = (b + c) % n := by
  rw [Int.add_emod a, Int.add_emod b, e]
theorem Ln.rd_congr {L : Ln} {a b : Int} (e : a % (L.many : Int) = b % (L.many : Int)) : L.rd a ↔ L.rd b := by
  unfold Ln.rd
  rw [e, Ln.at_congr (emod_sub_one e 1), Ln.at_congr (emod_add_one e 1), Ln.at_congr e]
theorem Ln.rdy_rd {L : Ln} {k : Nat} (hk : k < L.many) : L.rdy k = true ↔ L.rd k := by
  unfold Ln.rdy Ln.flk Ln.rd
  rw [Bool.and_eq_true, Bool.and_eq_true, decide_eq_true_eq, Bool.not_eq_true', Bool.not_eq_true', Int.emod_eq_of_lt (by omega) (by omega)]
  exact ⟨fun ⟨a, b, c⟩ => ⟨of_decide_eq_false a, b, of_decide_eq_false c⟩, fun ⟨a, b, c⟩ => ⟨decide_eq_false a, b, decide_eq_false c⟩⟩
theorem Ln.readyN_mem {L : Ln} {k : Nat} : k ∈ L.readyN ↔ k < L.many ∧ L.rd k := by
  unfold Ln.readyN
  rw [List.mem_filter, List.mem_range]
  exact ⟨fun ⟨a, b⟩ => ⟨a, (Ln.rdy_rd a).mp b⟩, fun ⟨a, b⟩ => ⟨a, (Ln.rdy_rd a).mpr b⟩⟩
def Ln.stp (L : Ln) : Ln := ⟨L.turn L.readyN, L.held, L.ring⟩
theorem Ln.stp_many {L : Ln} : L.stp.many = L.many := turn_len
theorem Ln.stp_heldI {L : Ln} : L.stp.heldI = L.heldI := by
  unfold Ln.heldI Ln.ends
  rw [Ln.stp_many]
  rfl
theorem Ln.stp_at {L : Ln} (h0 : 1 ≤ L.many) (k : Int) : L.stp.at k = if L.rd k then L.at (k - 1) else L.at k := by
  have h2 := Int.emod_lt_of_pos k (by omega : (0 : Int) < L.many)
  have h1 := Int.emod_nonneg k (by omega : (L.many : Int) ≠ 0)
  have hj : (k % (L.many : Int)).toNat < (L.turn L.readyN).length := by
    rw [turn_len]
    omega
  show (L.turn L.readyN).getD (k % (L.stp.many : Int)).toNat 0 = _
  rw [Ln.stp_many, List.getD_eq_getElem?_getD, List.getElem?_eq_getElem hj]
  show (L.turn L.readyN)[(k % (L.many : Int)).toNat] = _
  rw [turn_get]
  have ec : (((k % (L.many : Int)).toNat : Nat) : Int) = k % (L.many : Int) := Int.toNat_of_nonneg h1
  have em : (k % (L.many : Int)) % (L.many : Int) = k % (L.many : Int) := Int.emod_emod_of_dvd _ (Int.dvd_refl _)
  have em1 : L.at (k % (L.many : Int) - 1) = L.at (k - 1) := Ln.at_congr (emod_sub_one em 1)
  have hm : (k % (L.many : Int)).toNat ∈ L.readyN ↔ L.rd k := by
    rw [Ln.readyN_mem, ec, Ln.rd_congr em]
    exact ⟨fun z => z.2, fun z => ⟨by omega, z⟩⟩
  rw [ec, em1, Ln.at_mod]
  by_cases h : L.rd k
  · rw [if_pos h, if_pos (hm.mpr h)]
  · rw [if_neg h, if_neg (fun z => h (hm.mp z))]
theorem Ln.rd_stp {L : Ln} (h0 : 1 ≤ L.many) (k : Int) : L.stp.rd k ↔ L.rd (k - 1) ∧ L.rd k ∧ L.rd (k + 1) := by
  have i1 : k - 1 - 1 = k - 2 := by omega
  have i2 : k - 1 + 1 = k := by omega
  have i3 : k + 1 - 1 = k := by omega
  have i4 : k + 1 + 1 = k + 2 := by omega
  have e : L.stp.rd k ↔ ¬ (k % (L.many : Int)) ∈ L.heldI ∧ (if L.rd (k - 1) then L.at (k - 2) else L.at (k - 1)) = (if L.rd (k + 1) then L.at k else L.at (k + 1)) ∧ ¬ (if L.rd (k + 1) then L.at k else L.at (k + 1)) = (if L.rd k then L.at (k - 1) else L.at k) := by
    conv => lhs; unfold Ln.rd
    rw [Ln.stp_many, Ln.stp_heldI, Ln.stp_at h0, Ln.stp_at h0, Ln.stp_at h0, i1, i3]
  rw [e]
  have r1 : L.rd (k - 1) → L.at (k - 2) = L.at k ∧ ¬ L.at k = L.at (k - 1) := fun z => by
    obtain ⟨_, a, b⟩ := z
    rw [i1, i2] at a
    rw [i2] at b
    exact ⟨a, b⟩
  have r2 : L.rd (k + 1) → L.at k = L.at (k + 2) ∧ ¬ L.at (k + 2) = L.at (k + 1) := fun z => by
    obtain ⟨_, a, b⟩ := z
    rw [i3, i4] at a
    rw [i4] at b
    exact ⟨a, b⟩
  by_cases c0 : L.rd k
  · obtain ⟨a0, a1, a2⟩ := c0
    have c0 : L.rd k := ⟨a0, a1, a2⟩
    by_cases c1 : L.rd (k - 1) <;> by_cases c2 : L.rd (k + 1)
    · obtain ⟨b1, b2⟩ := r1 c1
      rw [if_pos c0, if_pos c1, if_pos c2]
      exact ⟨fun _ => ⟨c1, c0, c2⟩, fun _ => ⟨a0, b1, b2⟩⟩
    · rw [if_pos c0, if_pos c1, if_neg c2]
      exact ⟨fun ⟨_, _, z⟩ => absurd a1.symm z, fun ⟨_, _, z⟩ => absurd z c2⟩
    · rw [if_pos c0, if_neg c1, if_pos c2]
      exact ⟨fun ⟨_, y, z⟩ => absurd y.symm z, fun ⟨z, _, _⟩ => absurd z c1⟩
    · rw [if_pos c0, if_neg c1, if_neg c2]
      exact ⟨fun ⟨_, _, z⟩ => absurd a1.symm z, fun ⟨z, _, _⟩ => absurd z c1⟩
  · rw [if_neg c0]
    refine ⟨fun ⟨x, y, z⟩ => ?_, fun ⟨_, z, _⟩ => absurd z c0⟩
    exfalso
    by_cases c2 : L.rd (k + 1)
    · rw [if_pos c2] at z
      exact z rfl
    · rw [if_neg c2] at y z
      by_cases c1 : L.rd (k - 1)
      · rw [if_pos c1] at y
        exact z (y.symm.trans (r1 c1).1)
      · rw [if_neg c1] at y
        exact c0 ⟨x, y, z⟩
def Ln.aft (L : Ln) : Nat → Ln
  | 0 => L
  | t + 1 => (L.aft t).stp
theorem Ln.aft_many {L : Ln} : ∀ t : Nat, (L.aft t).many = L.many
  | 0 => rfl
  | t + 1 => Ln.stp_many.trans (Ln.aft_many t)
theorem Ln.rd_aft {L : Ln} (h0 : 1 ≤ L.many) : ∀ (t : Nat) (k : Int), (L.aft t).rd k ↔ ∀ d : Int, -(t : Int) ≤ d → d ≤ t → L.rd (k + d)
  | 0, k => ⟨fun z d h1 h2 => by
      rw [show k + d = k by omega]
      exact z, fun z => by
      have := z 0 (by omega) (by omega)
      rw [Int.add_zero] at this
      exact this⟩
  | t + 1, k => by
    show (L.aft t).stp.rd k ↔ _
    rw [Ln.rd_stp (by rw [Ln.aft_many]; exact h0), Ln.rd_aft h0 t, Ln.rd_aft h0 t, Ln.rd_aft h0 t]
    refine ⟨fun ⟨a, b, c⟩ d h1 h2 => ?_, fun z => ⟨fun d h1 h2 => ?_, fun d h1 h2 => ?_, fun d h1 h2 => ?_⟩⟩
    · by_cases q1 : d ≤ -1
      · have := a (d + 1) (by omega) (by omega)
        rw [show k - 1 + (d + 1) = k + d by omega] at this
        exact this
      · by_cases q2 : 1 ≤ d
        · have := c (d - 1) (by omega) (by omega)
          rw [show k + 1 + (d - 1) = k + d by omega] at this
          exact this
        · exact b d (by omega) (by omega)
    · have := z (d - 1) (by omega) (by omega)
      rw [show k + (d - 1) = k - 1 + d by omega] at this
      exact this
    · exact z d (by omega) (by omega)
    · have := z (d + 1) (by omega) (by omega)
      rw [show k + (d + 1) = k + 1 + d by omega] at this
      exact this
def Ln.dp (L : Ln) : Nat → Int → Nat
  | 0, _ => 0
  | t + 1, k => L.dp t k + (if (L.aft t).rd k then 1 else 0)
theorem Ln.rd_less {L : Ln} (h0 : 1 ≤ L.many) {s t : Nat} {k j : Int} (h : (L.aft t).rd k) (h1 : -((t : Int) - s) ≤ j - k) (h2 : j - k ≤ (t : Int) - s) : (L.aft s).rd j := by
  rw [Ln.rd_aft h0] at h ⊢
  intro d a b
  have := h (j - k + d) (by omega) (by omega)
  rw [show k + (j - k + d) = j + d by omega] at this
  exact this
theorem Ln.dp_full {L : Ln} (h0 : 1 ≤ L.many) : ∀ (t : Nat) (k : Int), (∀ s, s < t → (L.aft s).rd k) → L.dp t k = t
  | 0, _, _ => rfl
  | t + 1, k, h => by
    show L.dp t k + _ = t + 1
    rw [Ln.dp_full h0 t k fun s hs => h s (by omega), if_pos (h t (Nat.lt_succ_self _))]
theorem Ln.at_aft {L : Ln} (h0 : 1 ≤ L.many) : ∀ (t : Nat) (k : Int), (L.aft t).at k = if L.dp t k % 2 = 1 then L.at (k - 1) else L.at k
  | 0, k => rfl
  | t + 1, k => by
    show (L.aft t).stp.at k = _
    rw [Ln.stp_at (by rw [Ln.aft_many]; exact h0)]
    show _ = if (L.dp t k + (if (L.aft t).rd k then 1 else 0)) % 2 = 1 then L.at (k - 1) else L.at k
    by_cases h : (L.aft t).rd k
    · rw [if_pos h, if_pos h, Ln.at_aft h0 t (k - 1)]
      have d0 : L.dp t k = t := Ln.dp_full h0 t k fun s hs => Ln.rd_less h0 h (by omega) (by omega)
      have d1 : L.dp t (k - 1) = t := Ln.dp_full h0 t (k - 1) fun s hs => Ln.rd_less h0 h (by omega) (by omega)
      rw [d0, d1]
      by_cases p : t % 2 = 1
      · rw [if_pos p, if_neg (by omega)]
        have q : L.rd (k - 1) := Ln.rd_less h0 (s := 0) h (by omega) (by omega)
        have := q.2.1
        rw [show k - 1 + 1 = k by omega] at this
        exact this
      · rw [if_neg p, if_pos (by omega)]
    · rw [if_neg h, if_neg h, Nat.add_zero]
      exact Ln.at_aft h0 t k
end Pyx

namespace Pyx
theorem Ln.dp_min {L : Ln} {k : Int} {m : Nat} (h : ∀ t, (L.aft t).rd k ↔ t < m) : ∀ T, L.dp T k = min T m
  | 0 => by
    rw [Nat.zero_min]
    rfl
  | T + 1 => by
    show L.dp T k + _ = _
    rw [Ln.dp_min h T]
    by_cases z : T < m
    · rw [if_pos ((h T).mpr z)]
      omega
    · rw [if_neg (fun y => z ((h T).mp y))]
      omega
theorem Ln.dp_none {L : Ln} (h0 : 1 ≤ L.many) {k : Int} (h : ¬ L.rd k) (T : Nat) : L.dp T k = 0 := by
  have z := Ln.dp_min (L := L) (k := k) (m := 0) (fun t => ⟨fun y => absurd (Ln.rd_less h0 (s := 0) y (by omega) (by omega)) h, fun y => absurd y (Nat.not_lt_zero _)⟩) T
  rw [z, Nat.min_zero]
structure Ln.Run (L : Ln) (k : Int) (r : Nat) : Prop where
  pre : ¬ L.rd (k - 1)
  mid : ∀ i : Nat, i < r → L.rd (k + i)
  post : ¬ L.rd (k + r)
theorem Ln.run_dp {L : Ln} (h0 : 1 ≤ L.many) {k : Int} {r : Nat} (R : L.Run k r) {i : Nat} (h1 : 1 ≤ i) (h2 : i ≤ r) (T : Nat) : L.dp T (k - 1 + i) = min T (min i (r + 1 - i)) := by
  refine Ln.dp_min (fun t => ?_) T
  rw [Ln.rd_aft h0]
  refine ⟨fun z => ?_, fun z d a b => ?_⟩
  · by_cases q1 : t < i
    · by_cases q2 : t < r + 1 - i
      · omega
      · have := z ((r + 1 - i : Nat) : Int) (by omega) (by omega)
        rw [show k - 1 + (i : Int) + ((r + 1 - i : Nat) : Int) = k + r by omega] at this
        exact absurd this R.post
    · have := z (-(i : Int)) (by omega) (by omega)
      rw [show k - 1 + (i : Int) + -(i : Int) = k - 1 by omega] at this
      exact absurd this R.pre
  · have := R.mid ((k - 1 + i + d - k).toNat) (by omega)
    rw [show k + (((k - 1 + (i : Int) + d - k).toNat : Nat) : Int) = k - 1 + i + d by omega] at this
    exact this
def Ln.rl (L : Ln) : Nat → Int → Nat
  | 0, _ => 0
  | n + 1, k => if L.rd k then 1 + L.rl n (k + 1) else 0
theorem Ln.rl_mid {L : Ln} : ∀ (n : Nat) (k : Int) (i : Nat), i < L.rl n k → L.rd (k + i)
  | 0, _, i, h => absurd h (Nat.not_lt_zero _)
  | n + 1, k, i, h => by
    unfold Ln.rl at h
    by_cases z : L.rd k
    · rw [if_pos z] at h
      cases i with
      | zero =>
        rw [show k + ((0 : Nat) : Int) = k by omega]
        exact z
      | succ i =>
        have := Ln.rl_mid (L := L) n (k + 1) i (by omega)
        rw [show k + 1 + (i : Int) = k + ((i + 1 : Nat) : Int) by omega] at this
        exact this
    · rw [if_neg z] at h
      exact absurd h (Nat.not_lt_zero _)
theorem Ln.rl_le {L : Ln} : ∀ (n : Nat) (k : Int), L.rl n k ≤ n
  | 0, _ => Nat.le_refl _
  | n + 1, k => by
    unfold Ln.rl
    split
    · have := Ln.rl_le (L := L) n (k + 1)
      omega
    · omega
theorem Ln.rl_post {L : Ln} : ∀ (n : Nat) (k : Int), L.rl n k < n → ¬ L.rd (k + L.rl n k)
  | 0, _, h => absurd h (Nat.not_lt_zero _)
  | n + 1, k, h => by
    unfold Ln.rl at h ⊢
    by_cases z : L.rd k
    · rw [if_pos z] at h ⊢
      have := Ln.rl_post (L := L) n (k + 1) (by omega)
      rw [show k + 1 + ((L.rl n (k + 1) : Nat) : Int) = k + ((1 + L.rl n (k + 1) : Nat) : Int) by omega] at this
      exact this
    · rw [if_neg z]
      rw [show k + ((0 : Nat) : Int) = k by omega]
      exact z
theorem Ln.run_at {L : Ln} (h0 : 1 ≤ L.many) {k : Int} (h : ¬ L.rd (k - 1)) : L.Run k (L.rl L.many k) := by
  have lt : L.rl L.many k < L.many := by
    have le := Ln.rl_le (L := L) L.many k
    by_cases e : L.rl L.many k = L.many
    · have := Ln.rl_mid (L := L) L.many k (L.many - 1) (by omega)
      refine absurd ((Ln.rd_congr ?_).mp this) h
      rw [show k + ((L.many - 1 : Nat) : Int) = k - 1 + (L.many : Int) by omega, Int.add_emod_right]
    · omega
  exact ⟨h, fun i hi => Ln.rl_mid _ _ i hi, Ln.rl_post _ _ lt⟩
def Ln.Swing (L : Ln) : Prop := ∀ k : Int, L.rd k
theorem Ln.in_run {L : Ln} {j b : Int} (hj : L.rd j) (hb : ¬ L.rd b) (h0 : 1 ≤ L.many) : ∃ (i : Nat), 1 ≤ i ∧ ¬ L.rd (j - i) ∧ ∀ d : Nat, d < i → L.rd (j - d) := by
  -- going down from j
  have key : ∀ n : Nat, (∀ d : Nat, d ≤ n → L.rd (j - d)) ∨ ∃ (i : Nat), 1 ≤ i ∧ ¬ L.rd (j - i) ∧ ∀ d : Nat, d < i → L.rd (j - d) := by
    intro n
    induction n with
    | zero =>
      refine .inl fun d hd => ?_
      have : d = 0 := by omega
      subst this
      rw [show j - ((0 : Nat) : Int) = j by omega]
      exact hj
    | succ n ih =>
      rcases ih with z | z
      · by_cases y : L.rd (j - ((n + 1 : Nat) : Int))
        · refine .inl fun d hd => ?_
          by_cases q : d ≤ n
          · exact z d q
          · have : d = n + 1 := by omega
            subst this
            exact y
        · exact .inr ⟨n + 1, by omega, y, fun d hd => z d (by omega)⟩
      · exact .inr z
  rcases key (((j - b) % (L.many : Int)).toNat) with z | z
  · exfalso
    have hp : (0 : Int) < L.many := by omega
    have h1 := Int.emod_nonneg (j - b) (by omega : (L.many : Int) ≠ 0)
    have := z _ (Nat.le_refl _)
    rw [Int.toNat_of_nonneg h1] at this
    refine hb ((Ln.rd_congr ?_).mp this)
    have e := Int.emod_add_mul_ediv (j - b) (L.many : Int)
    have : j - (j - b) % (L.many : Int) = b + (L.many : Int) * ((j - b) / (L.many : Int)) := by omega
    rw [this, Int.add_mul_emod_self_left]
  · exact z
theorem Ln.swing_aft {L : Ln} (h0 : 1 ≤ L.many) (S : L.Swing) (t : Nat) (k : Int) : (L.aft t).rd k := by
  rw [Ln.rd_aft h0]
  exact fun d _ _ => S _
end Pyx

section
open Pyx PySem L2
local macro_rules | `(tactic| walk_at "px") => `(tactic| first
  | (with_reducible refine ok_var (v := ?_) (by with_unfolding_all exact rfl) ?_)
  | with_reducible refine os_nil ?_
  | with_reducible refine os_cons ?_
  | with_reducible refine os_pass ?_
  | with_reducible refine os_retN ?_
  | with_reducible refine os_brk ?_
  | with_reducible refine os_cont ?_
  | with_reducible refine os_ret ?_
  | with_reducible refine os_expr ?_
  | with_reducible refine os_set ?_
  | with_reducible refine os_asg ?_
  | with_reducible refine os_par ?_
  | with_reducible refine os_par3 ?_
  | with_reducible refine os_setix ?_
  | with_reducible refine os_ite ?_
  | with_reducible refine os_for ?_
  | with_reducible refine os_while ?_
  | with_reducible refine ok_val ?_
  | with_reducible refine ok_bin ?_
  | with_reducible refine ok_neg ?_
  | with_reducible refine ok_cmp ?_
  | with_reducible refine ok_chain ?_
  | with_reducible refine ok_isin ?_
  | with_reducible refine ok_and ?_
  | with_reducible refine ok_or ?_
  | with_reducible refine ok_not ?_
  | with_reducible refine ok_ite ?_
  | with_reducible refine ok_tup ?_
  | with_reducible refine ok_lst ?_
  | with_reducible refine ok_call ?_
  | with_reducible refine ok_bi ?_
  | with_reducible refine ok_isi ?_
  | with_reducible refine ok_isis ?_
  | with_reducible refine ok_ix ?_
  | with_reducible refine ok_sl ?_
  | with_reducible refine ok_oN ?_
  | with_reducible refine ok_oS ?_
  | with_reducible refine ok_nil ?_
  | with_reducible refine ok_cons ?_
  | with_reducible refine ok_bval ?_
  | with_reducible refine ok_bbl ?_
  | with_reducible refine ok_bnot ?_
  | with_reducible refine ok_band ?_
  | with_reducible refine ok_bor ?_
  | with_reducible refine ok_ifN ?_
  | with_reducible refine ok_ifS ?_
  | with_reducible refine ok_rng1 ?_
  | with_reducible refine ok_rng2 ?_
  | with_reducible refine ok_over ?_
  | with_reducible refine ok_enum ?_
  | with_reducible refine ok_add ?_
  | with_reducible refine ok_sub ?_
  | (with_reducible refine ok_lc (by with_unfolding_all exact rfl) ?_)
  | with_reducible refine ⟨_, eq_int, ?_⟩
  | with_reducible refine ⟨_, ne_int, ?_⟩
  | with_reducible refine ⟨_, lt_int', ?_⟩
  | with_reducible refine ⟨_, le_int', ?_⟩
  | with_reducible refine ⟨_, gt_int', ?_⟩
  | with_reducible refine ⟨_, ge_int', ?_⟩
  | with_reducible refine ⟨_, eq_bl, ?_⟩
  | with_reducible refine ⟨_, ne_bl, ?_⟩
  | with_reducible refine ⟨_, ty_ii, ?_⟩
  | with_reducible refine ⟨_, ty_ib, ?_⟩
  | with_reducible refine ⟨_, ty_tt, ?_⟩
  | with_reducible refine ⟨_, ty_tl, ?_⟩
  | with_reducible refine ⟨_, ty_bb, ?_⟩
  | with_reducible refine ⟨_, ty_bi, ?_⟩
  | with_reducible refine ⟨_, truth_bl, ?_⟩
  | with_reducible refine ⟨_, (rfl : PV.bl _ = PV.bl _), ?_⟩
  | with_reducible refine ⟨_, (rfl : PV.int _ = PV.int _), ?_⟩
  | (with_reducible refine And.intro (Nat.le_of_ble_eq_true (by with_unfolding_all exact rfl)) ?_)
  | refine ⟨fun _ => ?_, fun e => nomatch (e : true = false)⟩
  | refine ⟨fun e => (nomatch (e : false = true)), fun _ => ?_⟩
  | refine ⟨fun e => (nomatch (e : true = false)), fun _ => ?_⟩
  | refine ⟨fun _ => ?_, fun e => nomatch (e : false = true)⟩)
local macro_rules | `(tactic| walk_at "py") => `(tactic| first
  | (with_reducible refine ok_var (v := ?_) (by with_unfolding_all exact rfl) ?_)
  | with_reducible refine os_nil ?_
  | with_reducible refine os_cons ?_
  | with_reducible refine os_pass ?_
  | with_reducible refine os_retN ?_
  | with_reducible refine os_brk ?_
  | with_reducible refine os_cont ?_
  | with_reducible refine os_ret ?_
  | with_reducible refine os_expr ?_
  | with_reducible refine os_set ?_
  | with_reducible refine os_asg ?_
  | with_reducible refine os_par ?_
  | with_reducible refine os_par3 ?_
  | with_reducible refine os_setix ?_
  | with_reducible refine os_ite ?_
  | with_reducible refine os_for ?_
  | with_reducible refine os_while ?_
  | with_reducible refine ok_val ?_
  | with_reducible refine ok_bin ?_
  | with_reducible refine ok_neg ?_
  | with_reducible refine ok_cmp ?_
  | with_reducible refine ok_chain ?_
  | with_reducible refine ok_isin ?_
  | with_reducible refine ok_and ?_
  | with_reducible refine ok_or ?_
  | with_reducible refine ok_not ?_
  | with_reducible refine ok_ite ?_
  | with_reducible refine ok_tup ?_
  | with_reducible refine ok_call ?_
  | with_reducible refine ok_bi ?_
  | with_reducible refine ok_isi ?_
  | with_reducible refine ok_isis ?_
  | with_reducible refine ok_ix ?_
  | with_reducible refine ok_sl ?_
  | with_reducible refine ok_oN ?_
  | with_reducible refine ok_oS ?_
  | with_reducible refine ok_nil ?_
  | with_reducible refine ok_cons ?_
  | with_reducible refine ok_bval ?_
  | with_reducible refine ok_bbl ?_
  | with_reducible refine ok_bnot ?_
  | with_reducible refine ok_band ?_
  | with_reducible refine ok_bor ?_
  | with_reducible refine ok_ifN ?_
  | with_reducible refine ok_ifS ?_
  | with_reducible refine ok_rng1 ?_
  | with_reducible refine ok_rng2 ?_
  | with_reducible refine ok_over ?_
  | with_reducible refine ok_enum ?_
  | with_reducible refine ok_add ?_
  | with_reducible refine ok_sub ?_
  | (with_reducible refine ok_lc (by with_unfolding_all exact rfl) ?_)
  | with_reducible refine ⟨_, eq_int, ?_⟩
  | with_reducible refine ⟨_, ne_int, ?_⟩
  | with_reducible refine ⟨_, lt_int', ?_⟩
  | with_reducible refine ⟨_, le_int', ?_⟩
  | with_reducible refine ⟨_, gt_int', ?_⟩
  | with_reducible refine ⟨_, ge_int', ?_⟩
  | with_reducible refine ⟨_, eq_bl, ?_⟩
  | with_reducible refine ⟨_, ne_bl, ?_⟩
  | with_reducible refine ⟨_, ty_ii, ?_⟩
  | with_reducible refine ⟨_, ty_ib, ?_⟩
  | with_reducible refine ⟨_, ty_tt, ?_⟩
  | with_reducible refine ⟨_, ty_tl, ?_⟩
  | with_reducible refine ⟨_, ty_bb, ?_⟩
  | with_reducible refine ⟨_, ty_bi, ?_⟩
  | with_reducible refine ⟨_, truth_bl, ?_⟩
  | with_reducible refine ⟨_, (rfl : PV.bl _ = PV.bl _), ?_⟩
  | with_reducible refine ⟨_, (rfl : PV.int _ = PV.int _), ?_⟩
  | (with_reducible refine And.intro (Nat.le_of_ble_eq_true (by with_unfolding_all exact rfl)) ?_)
  | refine ⟨fun _ => ?_, fun e => nomatch (e : true = false)⟩
  | refine ⟨fun e => (nomatch (e : false = true)), fun _ => ?_⟩
  | refine ⟨fun e => (nomatch (e : true = false)), fun _ => ?_⟩
  | refine ⟨fun _ => ?_, fun e => nomatch (e : false = true)⟩)
local macro_rules | `(tactic| walk_at "wf") => `(tactic| first
  | assumption
  | exact Le.wf (by assumption)
  | (with_reducible refine wf_push ?_; walk_at "wf")
  | (with_reducible refine wf_set ?_; walk_at "wf"))
local macro_rules | `(tactic| walk_at "gt") => `(tactic| first
  | assumption
  | with_reducible exact get_new
  | (with_reducible refine get_old ?_; walk_at "gt")
  | (with_reducible refine Le.g (by assumption) ?_; walk_at "gt"))
local macro_rules | `(tactic| walk_at "le") => `(tactic| first
  | assumption
  | with_reducible exact Le.refl (by walk_at "wf")
  | (with_reducible refine Le.p ?_; walk_at "le")
  | (with_reducible refine Le.trans ?_ (by assumption); walk_at "le"))
namespace Pyx
open PySem L2
theorem Ln.ready_mod {L : Ln} (h0 : 1 ≤ L.many) (x : Int) : (x % (L.many : Int)) ∈ L.ready ↔ L.rd x := by
  have h2 := Int.emod_lt_of_pos x (by omega : (0 : Int) < L.many)
  have h1 := Int.emod_nonneg x (by omega : (L.many : Int) ≠ 0)
  have ec : (((x % (L.many : Int)).toNat : Nat) : Int) = x % (L.many : Int) := Int.toNat_of_nonneg h1
  have em : (x % (L.many : Int)) % (L.many : Int) = x % (L.many : Int) := Int.emod_emod_of_dvd _ (Int.dvd_refl _)
  rw [← Ln.rd_congr em]
  unfold Ln.ready
  rw [List.mem_map]
  refine ⟨fun ⟨j, hj, e⟩ => ?_, fun z => ⟨(x % (L.many : Int)).toNat, ?_, ec⟩⟩
  · have := (Ln.readyN_mem (L := L) (k := j)).mp hj
    rw [← e]
    exact this.2
  · refine (Ln.readyN_mem (L := L)).mpr ⟨by omega, ?_⟩
    rw [ec]
    exact z
def Ln.swB (L : Ln) : Bool := L.ring && decide (L.readyN.length = L.many)
theorem Ln.swB_is {L : Ln} (G : Good1 L) : L.swB = true ↔ L.Swing := by
  have h0 := G.one
  have all : L.readyN.length = L.many ↔ L.Swing := by
    unfold Ln.readyN
    have z : ((List.range L.many).filter L.rdy).length = L.many ↔ ∀ k ∈ List.range L.many, L.rdy k = true := by
      have y := List.length_filter_eq_length_iff (p := L.rdy) (l := List.range L.many)
      rw [List.length_range] at y
      exact y
    rw [z]
    refine ⟨fun y x => ?_, fun y k hk => (Ln.rdy_rd (List.mem_range.mp hk)).mpr (y _)⟩
    have h2 := Int.emod_lt_of_pos x (by omega : (0 : Int) < L.many)
    have h1 := Int.emod_nonneg x (by omega : (L.many : Int) ≠ 0)
    have ec : (((x % (L.many : Int)).toNat : Nat) : Int) = x % (L.many : Int) := Int.toNat_of_nonneg h1
    have em : (x % (L.many : Int)) % (L.many : Int) = x % (L.many : Int) := Int.emod_emod_of_dvd _ (Int.dvd_refl _)
    have hj : (x % (L.many : Int)).toNat < L.many := by omega
    have q := (Ln.rdy_rd hj).mp (y _ (List.mem_range.mpr hj))
    rw [ec] at q
    exact (Ln.rd_congr em).mp q
  unfold Ln.swB
  rw [Bool.and_eq_true, decide_eq_true_eq, all]
  refine ⟨fun z => z.2, fun z => ⟨?_, z⟩⟩
  cases hr : L.ring with
  | true => rfl
  | false =>
    refine absurd (heldI_mem.mpr (.inr ⟨hr, .inl ?_⟩)) (z 0).1
    exact Int.zero_emod _
section
variable {P : Prg} {ix : Nat → Nat} {d : Nat} {h : PH} {Q : PV → PH → Prop}
theorem ready_len {L : Ln} : L.readyN.length ≤ L.many := fr_len _ _
theorem f_swings_in (H4 : Has P ix 4 cf_held_in) (H5 : Has P ix 5 cf_flanks) (H6 : Has P ix 6 cf_is_flanked) (H7 : Has P ix 7 cf_ready_in) (H : Has P ix 11 cf_swings_in) {L : Ln} (G : Good1 L) (w : Wf h) (q : ∀ h', Le none h h' → Q (.bl L.swB) h') : Ok (callP P 1000 (d + 4) (ix 11) [L.v] h) Q := by
  refine ok_def H rfl ?_
  repeat walk_at "px"
  refine ⟨_, rfl, ?_⟩
  refine ⟨_, rfl, fun e => ?_, fun e => ?_⟩
  · repeat walk_at "px"
    refine f_ready_in H4 H5 H6 H7 G w fun i h1 l1 _ g1 => ?_
    repeat walk_at "px"
    refine ok_len (seqOf_lst g1) ?_
    repeat walk_at "px"
    refine ⟨_, rfl, ?_⟩
    repeat walk_at "px"
    refine ok_len (xs := iL L.cells) (by rfl) ?_
    repeat walk_at "px"
    have e1 : decide ((((iL L.ready).length : Nat) : Int) = (((iL L.cells).length : Nat) : Int)) = L.swB := by
      unfold Ln.swB
      rw [e, Bool.true_and, ready_nL, nL_len, List.length_map]
      exact decide_eq_decide.mpr ⟨fun z => by show _ = L.cells.length; omega, fun z => by
        have z : _ = L.cells.length := z
        omega⟩
    rw [e1]
    exact q _ l1
  · have e1 : L.swB = false := by
      unfold Ln.swB
      rw [e, Bool.false_and]
    have := q h (Le.refl w)
    rw [e1] at this
    exact this
theorem f_need_resting (H0 : Has P ix 0 cf_is_in) (H2 : Has P ix 2 cf_is_cells) (H1 : Has P ix 1 cf_need_line) (H4 : Has P ix 4 cf_held_in) (H5 : Has P ix 5 cf_flanks) (H6 : Has P ix 6 cf_is_flanked) (H7 : Has P ix 7 cf_ready_in) (H11 : Has P ix 11 cf_swings_in) (H : Has P ix 15 cf_need_resting) {L : Ln} (G : Good1 L) (s : L.swB = false) (w : Wf h)
    (q : ∀ h', Le none h h' → Q .non h') : Ok (callP P 1000 (d + 5) (ix 15) [L.v] h) Q := by
  refine ok_def H rfl ?_
  repeat walk_at "px"
  refine f_need_line H0 H2 H1 G w fun h1 l1 => ?_
  repeat walk_at "px"
  refine f_swings_in H4 H5 H6 H7 H11 G l1.wf fun h2 l2 => ?_
  rw [s]
  repeat walk_at "px"
  exact q _ (l1.trans l2)
end
end Pyx

namespace Pyx
open PySem L2
def Ln.strI (L : Ln) (k : Int) : List Int := (List.range (L.rl L.many k + 2)).map fun i => (k - 1 + (i : Nat)) % (L.many : Int)
def Ln.preN (L : Ln) (j : Nat) : List Nat := (L.readyN.take j).filter fun (k : Nat) => !decide (L.rd ((k : Int) - 1))
def Ln.strs (L : Ln) : List (List Int) := (L.readyN.filter fun (k : Nat) => !decide (L.rd ((k : Int) - 1))).map fun k => L.strI ((k : Nat) : Int)
theorem tupsP_of : ∀ {fs : List (List Int)}, (∀ f ∈ fs, f ≠ []) → tupsP (fs.map tupI) = some fs
  | [], _ => rfl
  | [] :: _, h => absurd rfl (h [] List.mem_cons_self)
  | (i :: is) :: r, h => by
    show (match intsP (iL (i :: is)) with | some (i :: is) => (match tupsP (r.map tupI) with | some ts => some ((i :: is) :: ts) | none => none) | _ => none) = _
    rw [intsP_ints]
    dsimp only
    rw [tupsP_of fun f hf => h f (List.mem_cons_of_mem _ hf)]
theorem ok_sortedT {h : PH} {Q : PV → PH → Prop} {a : Nat} {fs : List (List Int)} (e : h.get a = some (.lst (fs.map tupI))) (hn : ∀ f ∈ fs, f ≠ []) (z : fs.length ≤ 100000) (q : Q (.ref h.n) (h.push (.lst ((sortT fs).map tupI)))) : Ok (biP .sorted [.ref a] h) Q := by
  have e1 : setOf (.ref a) h = none := by
    unfold setOf
    dsimp only
    rw [e]
  have e2 : seqL (.ref a) h = some (fs.map tupI) := seqL_lst e
  unfold biP
  dsimp only
  rw [e1]
  dsimp only
  cases fs with
  | nil =>
    have e3 : intsOf (.ref a) h = some [] := by
      unfold intsOf
      rw [seqOf_lst e]
      rfl
    rw [e3]
    exact q
  | cons f r =>
    have e3 : intsOf (.ref a) h = none := by
      unfold intsOf
      rw [seqOf_lst e]
      rfl
    have e4 : tupsOfL (.ref a) h = some (f :: r) := by
      unfold tupsOfL
      rw [e2]
      exact tupsP_of hn
    rw [e3]
    dsimp only
    rw [e4]
    dsimp only
    unfold okL small
    have hl : ((sortT (f :: r)).map tupI).length ≤ 100000 := by
      rw [List.length_map, (sortT_perm _).length_eq]
      exact z
    rw [Nat.ble_eq_true_of_le hl]
    exact q
theorem ix_last {h : PH} {a : Nat} {xs : List PV} {v : PV} (e : h.get a = some (.lst (xs ++ [v]))) : ixP (.ref a) (.int (-1)) h = some v := by
  unfold ixP
  dsimp only
  rw [seqOf_lst e]
  exact atI_last xs v
theorem strI_step {n : Int} (k : Int) (m : Nat) : ((List.range (m + 1 + 2)).map fun i => (k - 1 + ((i : Nat) : Int)) % n) = ((List.range (m + 2)).map fun i => (k - 1 + ((i : Nat) : Int)) % n) ++ [(k + m + 1) % n] := by
  rw [show m + 1 + 2 = (m + 2) + 1 by omega, List.range_succ, List.map_append]
  refine congrArg _ (congrArg (fun x => [x % n]) ?_)
  omega
theorem strI_last {n : Int} (k : Int) (m : Nat) : ((List.range (m + 2)).map fun i => (k - 1 + ((i : Nat) : Int)) % n) = ((List.range (m + 1)).map fun i => (k - 1 + ((i : Nat) : Int)) % n) ++ [(k + m) % n] := by
  rw [show m + 2 = (m + 1) + 1 by omega, List.range_succ, List.map_append]
  refine congrArg _ (congrArg (fun x => [x % n]) ?_)
  omega
section
variable {P : Prg} {ix : Nat → Nat} {d : Nat} {h : PH} {Q : PV → PH → Prop}
theorem f_stretches_in (H4 : Has P ix 4 cf_held_in) (H5 : Has P ix 5 cf_flanks) (H6 : Has P ix 6 cf_is_flanked) (H7 : Has P ix 7 cf_ready_in) (H : Has P ix 13 cf_stretches_in) {L : Ln} (G : Good1 L) (w : Wf h) (q : ∀ i h', Le none h h' → h.n ≤ i → h'.get i = some (.lst ((sortT L.strs).map tupI)) → Q (.ref i) h') :
    Ok (callP P 1000 (d + 4) (ix 13) [L.v] h) Q := by
  have h40 := G.most
  have h0 := G.one
  have hm : (0 : Int) < (L.cells.length : Nat) := by
    have : 1 ≤ L.cells.length := h0
    omega
  refine ok_def H rfl ?_
  repeat walk_at "px"
  refine f_ready_in H4 H5 H6 H7 G w fun i h1 l1 hi g1 => ?_
  repeat walk_at "px"
  refine ⟨_, rfl, ?_⟩
  repeat walk_at "px"
  refine ok_len (xs := iL L.cells) (by rfl) ?_
  rw [List.length_map]
  repeat walk_at "px"
  have hi1 := get_lt g1
  have gn : h1.get i = some (.lst (nL L.readyN)) := by rw [← ready_nL]; exact g1
  refine .inl ⟨i, nL L.readyN, rfl, seqL_lst (get_old gn), ?_⟩
  have rl := ready_len (L := L)
  refine os_forL (fun j st h' => j ≤ L.readyN.length ∧ Le none h1 h' ∧ h'.get h1.n = some (.lst (((L.preN j).map fun k => L.strI ((k : Nat) : Int)).map tupI)) ∧ ∃ s4 s5, st = [some L.v, some (.ref i), some (.int ((L.cells.length : Nat) : Int)), some (.ref h1.n), s4, s5]) L.readyN.length (fun j st h' ⟨i1, i2, i3, s4, s5, i4⟩ => ⟨i1, ?_⟩) _ 0 _ _ (by omega)
    ⟨Nat.zero_le _, Le.push l1.wf, get_new, none, none, rfl⟩
  subst i4
  rw [iv_lst (p := none) gn (by intro z; cases z) j h' i2]
  have gi := i2.get _ _ (by intro z; cases z) g1
  have plen : (L.preN j).length ≤ 40 := by
    unfold Ln.preN
    refine Nat.le_trans (List.length_filter_le _ _) ?_
    rw [List.length_take]
    omega
  cases e : L.readyN[j]? with
  | none =>
    have e2 : (nL L.readyN)[j]? = none := by
      unfold nL
      rw [List.getElem?_map, e]
      rfl
    rw [e2]
    refine .inl ⟨rfl, ?_⟩
    have ej : L.readyN.take j = L.readyN := List.take_of_length_le (List.getElem?_eq_none_iff.mp e)
    have es : (L.preN j).map (fun k => L.strI ((k : Nat) : Int)) = L.strs := by
      unfold Ln.preN Ln.strs
      rw [ej]
    rw [es] at i3
    repeat walk_at "px"
    refine ok_sortedT i3 (fun f hf => ?_) (by rw [← es, List.length_map]; omega) ?_
    · obtain ⟨k, _, rfl⟩ := List.mem_map.mp hf
      unfold Ln.strI
      intro z
      have := congrArg List.length z
      rw [List.length_map, List.length_range] at this
      cases this
    · exact q _ _ ((l1.trans i2).p) (by have := (l1.trans i2).n; exact this) get_new
  | some k =>
    have e2 : (nL L.readyN)[j]? = some (.int ((k : Nat) : Int)) := by
      unfold nL
      rw [List.getElem?_map, e]
      rfl
    rw [e2]
    refine .inr ⟨_, _, rfl, rfl, ?_⟩
    have hk := Ln.readyN_mem.mp (List.mem_of_getElem? e)
    have hj : j < L.readyN.length := (List.getElem?_eq_some_iff.mp e).1
    have tk : L.readyN.take (j + 1) = L.readyN.take j ++ [k] := by
      rw [List.take_add_one, e]
      rfl
    repeat walk_at "px"
    refine ok_mod hm ?_
    repeat walk_at "px"
    refine ⟨_, in_ints (seqOf_lst gi), ?_⟩
    have em : decide ((((k : Nat) : Int) - 1) % ((L.cells.length : Nat) : Int) ∈ L.ready) = decide (L.rd ((k : Int) - 1)) := decide_eq_decide.mpr (Ln.ready_mod h0 _)
    rw [em]
    repeat walk_at "px"
    refine ⟨fun e1 => ?_, fun e1 => ?_⟩
    · have e1 : (!decide (L.rd ((k : Int) - 1))) = true := e1
      have nr : ¬ L.rd ((k : Int) - 1) := by
        rw [Bool.not_eq_true'] at e1
        exact of_decide_eq_false e1
      have R := Ln.run_at h0 nr
      have rle := Ln.rl_le (L := L) L.many (k : Int)
      repeat walk_at "px"
      refine ok_mod hm ?_
      repeat walk_at "px"
      refine os_whL (fun m st h2 => ∃ c : Nat, c + m = L.rl L.many (k : Int) ∧ Le none h' h2 ∧ h2.get h'.n = some (.lst (iL ((List.range (c + 2)).map fun i => ((k : Int) - 1 + ((i : Nat) : Int)) % ((L.cells.length : Nat) : Int)))) ∧ st = [some L.v, some (.ref i), some (.int ((L.cells.length : Nat) : Int)), some (.ref h1.n), some (.int (k : Int)), some (.ref h'.n)])
        (fun m st h2 ⟨c, j1, j2, j3, j4⟩ => ?_) _ (L.rl L.many (k : Int)) _ _ (by omega) ⟨0, by omega, Le.push i2.wf, ?_, rfl⟩
      · subst j4
        have j3' := j3
        rw [strI_last, ← iL_app] at j3'
        have gi2 := j2.get _ _ (by intro z; cases z) gi
        repeat walk_at "px"
        refine ⟨_, ix_last j3', ?_⟩
        repeat walk_at "px"
        refine ⟨_, in_ints (seqOf_lst gi2), ?_⟩
        have em2 : decide (((k : Int) + (c : Int)) % ((L.cells.length : Nat) : Int) ∈ L.ready) = decide (L.rd ((k : Int) + c)) := decide_eq_decide.mpr (Ln.ready_mod h0 _)
        rw [em2]
        repeat walk_at "px"
        refine ⟨fun e3 => ?_, fun e3 => ?_⟩
        · have e3 : decide (L.rd ((k : Int) + c)) = false := e3
          have cm : m = 0 := by
            refine Nat.eq_zero_of_not_pos fun z => of_decide_eq_false e3 (R.mid c (by omega))
          subst cm
          have cr : c = L.rl L.many (k : Int) := by omega
          refine os_cons (os_expr (ok_mt (ok_var rfl ⟨⟨_, seqL_lst (j2.get _ _ (by intro z; cases z) i3)⟩, ?_⟩)))
          repeat walk_at "px"
          refine ok_tupleOf (seqOf_lst j3) (by rw [List.length_map, List.length_map, List.length_range]; omega) ?_
          repeat walk_at "px"
          have i3' := j2.get _ _ (by intro z; cases z) i3
          have i3' : h2.get h1.n = some (.lst (((L.preN j).map fun k => L.strI ((k : Nat) : Int)).map tupI)) := i3'
          refine ok_append i3' (by rw [List.length_map, List.length_map]; omega) ?_
          repeat walk_at "px"
          have l2 := i2.trans j2
          refine ⟨hj, Le.set l2 (Nat.le_refl _) i3', ?_, _, _, rfl⟩
          rw [get_at_set l2.wf i3']
          have ep : L.preN (j + 1) = L.preN j ++ [k] := by
            unfold Ln.preN
            rw [tk, List.filter_append]
            refine congrArg _ ?_
            rw [List.filter_cons, e1]
            rfl
          rw [ep, List.map_append, List.map_append]
          refine congrArg (fun x => some (PO.lst (_ ++ [x]))) ?_
          show _ = tupI (L.strI (k : Int))
          unfold Ln.strI tupI
          rw [← cr]
          rfl
        · have e3 : decide (L.rd ((k : Int) + c)) = true := e3
          have cm : 0 < m := by
            refine Nat.pos_of_ne_zero fun z => ?_
            have cr : c = L.rl L.many (k : Int) := by omega
            have := R.post
            rw [← cr] at this
            exact this (of_decide_eq_true e3)
          refine ⟨cm, ?_⟩
          refine os_cons (os_expr (ok_mt (ok_var rfl ⟨⟨_, seqL_lst j3⟩, ?_⟩)))
          repeat walk_at "px"
          refine ⟨_, ix_last j3', ?_⟩
          repeat walk_at "px"
          refine ok_mod hm ?_
          repeat walk_at "px"
          refine ok_append j3 (by rw [List.length_map, List.length_map, List.length_range]; omega) ?_
          repeat walk_at "px"
          refine ⟨c + 1, by omega, Le.set j2 (Nat.le_refl _) j3, ?_, rfl⟩
          rw [get_at_set j2.wf j3, strI_step, ← iL_app]
          refine congrArg (fun x => some (PO.lst (_ ++ [PV.int x]))) ?_
          have q1 : ((k : Int) + c) % ((L.cells.length : Nat) : Int) % ((L.cells.length : Nat) : Int) = ((k : Int) + c) % ((L.cells.length : Nat) : Int) := Int.emod_emod_of_dvd _ (Int.dvd_refl _)
          exact emod_add_one q1 1
      · rw [get_new]
        refine congrArg (fun x => some (PO.lst x)) ?_
        have k1 : ((k : Int) - 1 + ((1 : Nat) : Int)) % ((L.cells.length : Nat) : Int) = k := by
          rw [show (k : Int) - 1 + ((1 : Nat) : Int) = k by omega]
          have : k < L.cells.length := hk.1
          exact Int.emod_eq_of_lt (by omega) (by omega)
        have k0 : ((k : Int) - 1 + ((0 : Nat) : Int)) % ((L.cells.length : Nat) : Int) = ((k : Int) - 1) % ((L.cells.length : Nat) : Int) := by
          rw [show (k : Int) - 1 + ((0 : Nat) : Int) = (k : Int) - 1 by omega]
        show [PV.int (((k : Int) - 1) % ((L.cells.length : Nat) : Int)), PV.int (k : Int)] = [PV.int (((k : Int) - 1 + ((0 : Nat) : Int)) % ((L.cells.length : Nat) : Int)), PV.int (((k : Int) - 1 + ((1 : Nat) : Int)) % ((L.cells.length : Nat) : Int))]
        rw [k1, k0]
    · have e1 : (!decide (L.rd ((k : Int) - 1))) = false := e1
      repeat walk_at "px"
      refine ⟨hj, i2, ?_, _, _, rfl⟩
      have ep : L.preN (j + 1) = L.preN j := by
        unfold Ln.preN
        rw [tk, List.filter_append]
        have : [k].filter (fun (k : Nat) => !decide (L.rd ((k : Int) - 1))) = [] := by
          rw [List.filter_cons, e1]
          rfl
        rw [this, List.append_nil]
      rw [ep]
      exact i3
end
end Pyx

namespace Pyx
open PySem L2
theorem rep_one {α : Type} : ∀ (n : Nat) (x : α), (List.replicate n [x]).flatten = List.replicate n x
  | 0, _ => rfl
  | n + 1, x => by
    rw [List.replicate_succ, List.flatten_cons, rep_one n x, List.replicate_succ]
    rfl
theorem ok_mulZ {h : PH} {Q : PV → PH → Prop} {a n : Nat} {x : PV} (e : h.get a = some (.lst [x])) (z : n ≤ 1000) (q : Q (.ref h.n) (h.push (.lst (List.replicate n x)))) : Ok (binP .mul (.ref a) (.int (n : Int)) h) Q := by
  unfold binP lstAt
  dsimp only
  rw [e]
  dsimp only
  rw [decide_eq_true (by omega : (0 : Int) ≤ (n : Int)), decide_eq_true (by omega : (n : Int) ≤ 1000), Int.toNat_natCast]
  have e1 : (List.replicate n [x]).flatten = List.replicate n x := rep_one n x
  show Ok (okL (List.replicate n [x]).flatten h) Q
  rw [e1]
  unfold okL small
  rw [Nat.ble_eq_true_of_le (by rw [List.length_replicate]; omega : (List.replicate n x).length ≤ 100000)]
  exact q
theorem ok_min2 {h : PH} {Q : PV → PH → Prop} {i j : Int} (q : Q (.int (if j < i then j else i)) h) : Ok (biP .min [.int i, .int j] h) Q := q
theorem Ln.dp_congr {L : Ln} {a b : Int} (e : a % (L.many : Int) = b % (L.many : Int)) : ∀ T, L.dp T a = L.dp T b
  | 0 => rfl
  | T + 1 => by
    show L.dp T a + _ = L.dp T b + _
    have e1 : (L.aft T).rd a ↔ (L.aft T).rd b := Ln.rd_congr (by rw [Ln.aft_many]; exact e)
    rw [Ln.dp_congr e T]
    by_cases z : (L.aft T).rd a
    · rw [if_pos z, if_pos (e1.mp z)]
    · rw [if_neg z, if_neg (fun y => z (e1.mpr y))]
def Ln.dV (L : Ln) (V : List Nat) : List Int := (List.range L.many).map fun j => if j ∈ V then ((L.dp L.many (j : Int) : Nat) : Int) else 0
def Ln.deps (L : Ln) : List Int := (List.range L.many).map fun (j : Nat) => ((L.dp L.many (j : Int) : Nat) : Int)
theorem dV_len {L : Ln} {V : List Nat} : (L.dV V).length = L.many := by
  unfold Ln.dV
  rw [List.length_map, List.length_range]
theorem dV_nil {L : Ln} : L.dV [] = List.replicate L.many 0 := by
  refine List.ext_getElem (by rw [dV_len, List.length_replicate]) fun i h1 h2 => ?_
  simp [Ln.dV]
theorem dV_step {L : Ln} {V : List Nat} {j : Nat} : (L.dV V).set j ((L.dp L.many (j : Int) : Nat) : Int) = L.dV (V ++ [j]) := by
  refine List.ext_getElem (by rw [List.length_set, dV_len, dV_len]) fun i h1 h2 => ?_
  rw [List.getElem_set]
  simp only [Ln.dV, List.getElem_map, List.getElem_range, List.mem_append, List.mem_singleton]
  by_cases e : j = i
  · subst e
    rw [if_pos rfl, if_pos (.inr rfl)]
  · rw [if_neg e]
    have e' : ¬ i = j := fun z => e z.symm
    by_cases m : i ∈ V
    · rw [if_pos m, if_pos (.inl m)]
    · rw [if_neg m, if_neg (fun z => by rcases z with z | z; exact m z; exact e' z)]
theorem strI_get {L : Ln} {k : Int} {a : Nat} (h : a < (L.strI k).length) : (L.strI k)[a] = (k - 1 + (a : Nat)) % (L.many : Int) := by
  simp only [Ln.strI, List.getElem_map, List.getElem_range]
theorem strI_len {L : Ln} {k : Int} : (L.strI k).length = L.rl L.many k + 2 := by
  unfold Ln.strI
  rw [List.length_map, List.length_range]
theorem strs_mem {L : Ln} {f : List Int} (h : f ∈ L.strs) : ∃ k : Nat, k < L.many ∧ ¬ L.rd ((k : Int) - 1) ∧ f = L.strI (k : Int) := by
  unfold Ln.strs at h
  obtain ⟨k, hk, rfl⟩ := List.mem_map.mp h
  rw [List.mem_filter, Bool.not_eq_true'] at hk
  exact ⟨k, (Ln.readyN_mem.mp hk.1).1, of_decide_eq_false hk.2, rfl⟩
theorem strs_all {L : Ln} (h0 : 1 ≤ L.many) (hS : ¬ L.Swing) {j : Nat} (hj : j < L.many) (r : L.rd j) : ∃ f ∈ L.strs, ∃ a, 1 ≤ a ∧ a + 1 < f.length ∧ f[a]? = some ((j : Nat) : Int) := by
  obtain ⟨b, hb⟩ : ∃ b, ¬ L.rd b := Classical.byContradiction fun z => hS fun k => Classical.byContradiction fun y => z ⟨k, y⟩
  obtain ⟨i, i1, i2, i3⟩ := Ln.in_run r hb h0
  have hp : (0 : Int) < L.many := by omega
  have n1 := Int.emod_nonneg ((j : Int) - i + 1) (by omega : (L.many : Int) ≠ 0)
  have n2 := Int.emod_lt_of_pos ((j : Int) - i + 1) hp
  have ec : (((((j : Int) - i + 1) % (L.many : Int)).toNat : Nat) : Int) = ((j : Int) - i + 1) % (L.many : Int) := Int.toNat_of_nonneg n1
  have em : (((((j : Int) - i + 1) % (L.many : Int)).toNat : Nat) : Int) % (L.many : Int) = ((j : Int) - i + 1) % (L.many : Int) := by
    rw [ec]
    exact Int.emod_emod_of_dvd _ (Int.dvd_refl _)
  generalize ((((j : Int) - i + 1) % (L.many : Int)).toNat) = k at ec em
  have hk : k < L.many := by omega
  have rdk : ∀ x : Int, L.rd ((k : Int) + x) ↔ L.rd ((j : Int) - i + 1 + x) := fun x => Ln.rd_congr (emod_add_one em x)
  have pre : ¬ L.rd ((k : Int) - 1) := fun z => i2 (by
    have := (rdk (-1)).mp (by rw [show (k : Int) + -1 = k - 1 by omega]; exact z)
    rw [show (j : Int) - i + 1 + -1 = j - i by omega] at this
    exact this)
  have kr : L.rd k := by
    have := (rdk 0).mpr (by
      have := i3 (i - 1) (by omega)
      rw [show (j : Int) - ((i - 1 : Nat) : Int) = j - i + 1 + 0 by omega] at this
      exact this)
    rw [Int.add_zero] at this
    exact this
  have R := Ln.run_at h0 pre
  have il : i ≤ L.rl L.many (k : Int) := by
    refine Nat.le_of_not_lt fun z => R.post ((rdk _).mpr ?_)
    have := i3 (i - 1 - L.rl L.many (k : Int)) (by omega)
    rw [show (j : Int) - ((i - 1 - L.rl L.many (k : Int) : Nat) : Int) = j - i + 1 + (L.rl L.many (k : Int) : Nat) by omega] at this
    exact this
  refine ⟨L.strI k, ?_, i, i1, by rw [strI_len]; omega, ?_⟩
  · unfold Ln.strs
    refine List.mem_map.mpr ⟨k, ?_, rfl⟩
    rw [List.mem_filter, Bool.not_eq_true']
    exact ⟨Ln.readyN_mem.mpr ⟨hk, kr⟩, decide_eq_false pre⟩
  · have hl : i < (L.strI (k : Int)).length := by rw [strI_len]; omega
    rw [List.getElem?_eq_getElem hl, strI_get]
    refine congrArg some ?_
    have e1 := emod_add_one (emod_sub_one em 1) (i : Int)
    rw [e1, show (j : Int) - i + 1 - 1 + i = j by omega]
    exact Int.emod_eq_of_lt (by omega) (by omega)
theorem strI_val {L : Ln} (h0 : 1 ≤ L.many) {k : Int} (pre : ¬ L.rd (k - 1)) {a : Nat} (h1 : 1 ≤ a) (h2 : a + 1 < (L.strI k).length) : ((L.dp L.many ((k - 1 + (a : Nat)) % (L.many : Int)) : Nat) : Int) = (if ((L.strI k).length : Int) - 1 - (a : Int) < (a : Int) then ((L.strI k).length : Int) - 1 - (a : Int) else (a : Int)) := by
  have R := Ln.run_at h0 pre
  have rle := Ln.rl_le (L := L) L.many k
  rw [strI_len] at h2 ⊢
  rw [Ln.dp_congr (Int.emod_emod_of_dvd _ (Int.dvd_refl _)), Ln.run_dp h0 R h1 (by omega)]
  split <;> omega
section
variable {P : Prg} {ix : Nat → Nat} {d : Nat} {h : PH} {Q : PV → PH → Prop}
theorem f_depths_in (H4 : Has P ix 4 cf_held_in) (H5 : Has P ix 5 cf_flanks) (H6 : Has P ix 6 cf_is_flanked) (H7 : Has P ix 7 cf_ready_in) (H13 : Has P ix 13 cf_stretches_in) (H : Has P ix 16 cf_depths_in) {L : Ln} (G : Good1 L) (s : L.swB = false) (w : Wf h)
    (q : ∀ i h', Le none h h' → h.n ≤ i → h'.get i = some (.lst (iL L.deps)) → Q (.ref i) h') : Ok (callP P 1000 (d + 5) (ix 16) [L.v] h) Q := by
  have h40 := G.most
  have h0 := G.one
  have hS : ¬ L.Swing := fun z => by rw [(Ln.swB_is G).mpr z] at s; cases s
  refine ok_def H rfl ?_
  repeat walk_at "px"
  refine ⟨_, rfl, ?_⟩
  repeat walk_at "px"
  refine ok_len (xs := iL L.cells) (by rfl) ?_
  rw [List.length_map]
  refine ok_mulZ get_new (Nat.le_trans h40 (by decide)) ?_
  have w1 := wf_push (o := PO.lst [.int 0]) w
  have w2 := wf_push (o := PO.lst (List.replicate L.cells.length (.int 0))) w1
  have l2 : Le none h ((h.push (.lst [.int 0])).push (.lst (List.replicate L.cells.length (.int 0)))) := (Le.push w).p
  have g2 : ((h.push (.lst [.int 0])).push (.lst (List.replicate L.cells.length (.int 0)))).get (h.push (.lst [.int 0])).n = some (.lst (iL (L.dV []))) := by
    rw [get_new, dV_nil, iL, List.map_replicate]
    rfl
  have fr : h.n ≤ (h.push (.lst [.int 0])).n := Nat.le_succ _
  generalize (h.push (.lst [.int 0])).push (.lst (List.replicate L.cells.length (.int 0))) = h2 at w2 l2 g2 ⊢
  generalize (h.push (.lst [.int 0])).n = D at g2 fr ⊢
  repeat walk_at "px"
  refine f_stretches_in H4 H5 H6 H7 H13 G w2 fun i h3 l3 hi g3 => ?_
  have dn := get_lt g2
  have g2' := l3.get _ _ (by intro z; cases z) g2
  have iD : i ≠ D := fun z => by omega
  refine .inl ⟨i, (sortT L.strs).map tupI, rfl, seqL_lst g3, ?_⟩
  have sl : (sortT L.strs).length ≤ 40 := by
    rw [(sortT_perm _).length_eq]
    unfold Ln.strs
    rw [List.length_map]
    exact Nat.le_trans (List.length_filter_le _ _) (Nat.le_trans ready_len h40)
  -- heaps: all but D stand; D's list is rewritten
  have keep : ∀ {h4 h5 : PH} {xs ys : List PV}, (Wf h4 ∧ h3.n ≤ h4.n ∧ (∀ j o, j ≠ D → h3.get j = some o → h4.get j = some o) ∧ h4.get D = some (.lst xs)) → h5 = h4.set D (.lst ys) → (Wf h5 ∧ h3.n ≤ h5.n ∧ (∀ j o, j ≠ D → h3.get j = some o → h5.get j = some o) ∧ h5.get D = some (.lst ys)) := fun ⟨a1, a2, a3, a4⟩ e => by
    subst e
    exact ⟨wf_set a1, a2, fun j o nj ej => get_of_set a1 a4 (a3 j o nj ej) nj, get_at_set a1 a4⟩
  refine os_forL (fun c st h4 => c ≤ (sortT L.strs).length ∧ ∃ V : List Nat, (Wf h4 ∧ h3.n ≤ h4.n ∧ (∀ j o, j ≠ D → h3.get j = some o → h4.get j = some o) ∧ h4.get D = some (.lst (iL (L.dV V)))) ∧ (∀ f ∈ (sortT L.strs).take c, ∀ a x, 1 ≤ a → a + 1 < f.length → f[a]? = some x → x.toNat ∈ V) ∧ ∃ s2 s3, st = [some L.v, some (.ref D), s2, s3]) (sortT L.strs).length (fun c st h4 ⟨i1, V, i2, i3, s2, s3, i4⟩ => ⟨i1, ?_⟩) _ 0 _ _ (by omega)
    ⟨Nat.zero_le _, [], ⟨l3.wf, Nat.le_refl _, fun _ _ _ e => e, g2'⟩, fun f hf => (nomatch hf), none, none, rfl⟩
  subst i4
  have gi := i2.2.2.1 i _ iD g3
  have ei : ivN (.lst i) c h4 = pick ((sortT L.strs).map tupI)[c]? := by
    unfold ivN
    dsimp only
    rw [seqL_lst gi]
  rw [ei, List.getElem?_map]
  cases e : (sortT L.strs)[c]? with
  | none =>
    refine .inl ⟨rfl, ?_⟩
    have ec : (sortT L.strs).take c = sortT L.strs := List.take_of_length_le (List.getElem?_eq_none_iff.mp e)
    rw [ec] at i3
    repeat walk_at "px"
    have ed : L.dV V = L.deps := by
      unfold Ln.dV Ln.deps
      refine List.map_congr_left fun j hj => ?_
      by_cases m : j ∈ V
      · rw [if_pos m]
      · rw [if_neg m]
        by_cases r : L.rd j
        · obtain ⟨f, hf, a, a1, a2, a3⟩ := strs_all h0 hS (List.mem_range.mp hj) r
          have := i3 f ((sortT_perm _).mem_iff.mpr hf) a _ a1 a2 a3
          rw [Int.toNat_natCast] at this
          exact absurd this m
        · rw [Ln.dp_none h0 r]
          rfl
    refine q D h4 ⟨i2.1, Nat.le_trans l2.n (Nat.le_trans l3.n i2.2.1), fun j o _ ej => ?_, fun j k => by cases k⟩ fr (by rw [← ed]; exact i2.2.2.2)
    exact i2.2.2.1 j o (fun z => by have := get_lt ej; omega) (l3.get _ _ (by intro z; cases z) (l2.get _ _ (by intro z; cases z) ej))
  | some f =>
    refine .inr ⟨_, _, rfl, rfl, ?_⟩
    have fm : f ∈ L.strs := (sortT_perm _).mem_iff.mp (List.mem_of_getElem? e)
    obtain ⟨k, hk, pre, rfl⟩ := strs_mem fm
    have hc : c < (sortT L.strs).length := (List.getElem?_eq_some_iff.mp e).1
    have tk : (sortT L.strs).take (c + 1) = (sortT L.strs).take c ++ [L.strI (k : Int)] := by
      rw [List.take_add_one, e]
      rfl
    have rle := Ln.rl_le (L := L) L.many (k : Int)
    have fl := strI_len (L := L) (k := (k : Int))
    unfold tupI
    repeat walk_at "px"
    refine ok_len (xs := iL (L.strI (k : Int))) (by rfl) ?_
    rw [List.length_map]
    repeat walk_at "px"
    refine ⟨⟨by decide, by decide, by omega, by omega⟩, ?_⟩
    have et : (((L.strI (k : Int)).length : Int) - 1 - 1).toNat = L.rl L.many (k : Int) := by omega
    rw [et]
    refine os_forL (fun b st h5 => b ≤ L.rl L.many (k : Int) ∧ ∃ V' : List Nat, (∀ x ∈ V, x ∈ V') ∧ (Wf h5 ∧ h3.n ≤ h5.n ∧ (∀ j o, j ≠ D → h3.get j = some o → h5.get j = some o) ∧ h5.get D = some (.lst (iL (L.dV V')))) ∧ (∀ a x, 1 ≤ a → a < b + 1 → (L.strI (k : Int))[a]? = some x → x.toNat ∈ V') ∧ ∃ s3, st = [some L.v, some (.ref D), some (.tup (iL (L.strI (k : Int)))), s3]) (L.rl L.many (k : Int)) (fun b st h5 ⟨j1, V', j2, j3, j4, s3, j5⟩ => ⟨j1, ?_⟩) _ 0 _ _ (by omega)
      ⟨Nat.zero_le _, V, fun _ z => z, i2, fun a x a1 a2 => by omega, s3, rfl⟩
    subst j5
    rw [iv_rng]
    by_cases hb : b < L.rl L.many (k : Int)
    · have e5 : (rng 1 (L.rl L.many (k : Int)))[b]? = some (.int (1 + (b : Nat))) := by
        unfold rng
        rw [List.getElem?_map, List.getElem?_range hb]
        rfl
      rw [e5]
      refine .inr ⟨_, _, rfl, rfl, ?_⟩
      have hb2 : b + 1 < (L.strI (k : Int)).length := by omega
      have eb : (1 : Int) + (b : Nat) = ((b + 1 : Nat) : Int) := by omega
      rw [eb]
      repeat walk_at "px"
      refine ok_len (xs := iL (L.strI (k : Int))) (by rfl) ?_
      rw [List.length_map]
      repeat walk_at "px"
      refine ok_min2 ?_
      have hp : (0 : Int) < L.many := by omega
      have n1 := Int.emod_nonneg ((k : Int) - 1 + ((b + 1 : Nat) : Int)) (by omega : (L.many : Int) ≠ 0)
      have n2 := Int.emod_lt_of_pos ((k : Int) - 1 + ((b + 1 : Nat) : Int)) hp
      have eg : (L.strI (k : Int))[b + 1]? = some (((k : Int) - 1 + ((b + 1 : Nat) : Int)) % (L.many : Int)) := by
        rw [List.getElem?_eq_getElem hb2, strI_get]
      have ev := strI_val h0 pre (a := b + 1) (by omega) (by omega)
      rw [← ev]
      repeat walk_at "px"
      refine ⟨_, tup_ix (by rw [List.getElem?_map, eg]; rfl), ?_⟩
      have ec : (((((k : Int) - 1 + ((b + 1 : Nat) : Int)) % (L.many : Int)).toNat : Nat) : Int) = ((k : Int) - 1 + ((b + 1 : Nat) : Int)) % (L.many : Int) := Int.toNat_of_nonneg n1
      generalize ((k : Int) - 1 + ((b + 1 : Nat) : Int)) % (L.many : Int) = x at n1 n2 eg ec ⊢
      rw [← ec]
      refine ⟨_, set_lst j3.2.2.2 (by rw [List.length_map, dV_len]; omega), ?_⟩
      repeat walk_at "px"
      refine ⟨by omega, V' ++ [x.toNat], fun y hy => List.mem_append_left _ (j2 y hy), ?_, fun a y a1 a2 a3 => ?_, _, rfl⟩
      · have es : (iL (L.dV V')).set x.toNat (.int ((L.dp L.many ((x.toNat : Nat) : Int) : Nat) : Int)) = iL (L.dV (V' ++ [x.toNat])) := by
          rw [← dV_step]
          exact (List.map_set ..).symm
        rw [es]
        exact keep j3 rfl
      · by_cases q1 : a < b + 1
        · exact List.mem_append_left _ (j4 a y a1 q1 a3)
        · have : a = b + 1 := by omega
          subst this
          rw [eg] at a3
          cases a3
          exact List.mem_append_right _ (List.mem_singleton.mpr rfl)
    · have eb : b = L.rl L.many (k : Int) := by omega
      have e5 : (rng 1 (L.rl L.many (k : Int)))[b]? = none := List.getElem?_eq_none (by rw [rng_len]; omega)
      rw [e5]
      refine .inl ⟨rfl, ?_⟩
      repeat walk_at "px"
      refine ⟨hc, V', j3, fun g hg a x a1 a2 a3 => ?_, _, _, rfl⟩
      rw [tk] at hg
      rcases List.mem_append.mp hg with hg | hg
      · exact j2 _ (i3 g hg a x a1 a2 a3)
      · rw [List.mem_singleton.mp hg] at a2 a3
        exact j4 a x a1 (by omega) a3
end
end Pyx

namespace Pyx
open PySem L2
theorem Ln.dp_le {L : Ln} (k : Int) : ∀ T, L.dp T k ≤ T
  | 0 => Nat.le_refl _
  | T + 1 => by
    have := Ln.dp_le (L := L) k T
    show L.dp T k + _ ≤ T + 1
    split <;> omega
theorem Ln.dp_stop {L : Ln} (h0 : 1 ≤ L.many) {k : Int} {s : Nat} (h : ¬ (L.aft s).rd k) : ∀ T, L.dp (s + T) k = L.dp s k
  | 0 => rfl
  | T + 1 => by
    have y : ¬ (L.aft (s + T)).rd k := fun z => h (Ln.rd_less h0 (s := s) (t := s + T) z (by omega) (by omega))
    show L.dp (s + T) k + (if (L.aft (s + T)).rd k then 1 else 0) = _
    rw [Ln.dp_stop h0 h T, if_neg y]
    rfl
theorem Ln.rest_many {L : Ln} (h0 : 1 ≤ L.many) (hS : ¬ L.Swing) (t : Nat) (ht : L.many ≤ t) (k : Int) : ¬ (L.aft t).rd k := by
  intro z
  obtain ⟨b, hb⟩ : ∃ b, ¬ L.rd b := Classical.byContradiction fun z => hS fun k => Classical.byContradiction fun y => z ⟨k, y⟩
  have hp : (0 : Int) < L.many := by omega
  have n1 := Int.emod_nonneg (b - k) (by omega : (L.many : Int) ≠ 0)
  have n2 := Int.emod_lt_of_pos (b - k) hp
  have := (Ln.rd_aft h0 t k).mp z ((b - k) % (L.many : Int)) (by omega) (by omega)
  refine hb ((Ln.rd_congr ?_).mp this)
  have e := Int.emod_add_mul_ediv (b - k) (L.many : Int)
  have : k + (b - k) % (L.many : Int) = b + (L.many : Int) * (-((b - k) / (L.many : Int))) := by
    rw [Int.mul_neg]
    omega
  rw [this, Int.add_mul_emod_self_left]
theorem Ln.rd_dp {L : Ln} (h0 : 1 ≤ L.many) (hS : ¬ L.Swing) (k : Int) (t : Nat) : (L.aft t).rd k ↔ t < L.dp L.many k := by
  by_cases ht : L.many ≤ t
  · have := Ln.dp_le (L := L) k L.many
    exact ⟨fun z => absurd z (Ln.rest_many h0 hS t ht k), fun z => by omega⟩
  · refine ⟨fun z => ?_, fun z => Classical.byContradiction fun y => ?_⟩
    · have e1 : L.dp (t + 1) k = t + 1 := Ln.dp_full h0 (t + 1) k fun s hs => Ln.rd_less h0 z (by omega) (by omega)
      have mono : ∀ n, L.dp (t + 1) k ≤ L.dp (t + 1 + n) k := fun n => by
        induction n with
        | zero => exact Nat.le_refl _
        | succ n ih => exact Nat.le_trans ih (Nat.le_add_right _ _)
      have := mono (L.many - (t + 1))
      rw [show t + 1 + (L.many - (t + 1)) = L.many by omega] at this
      omega
    · have e1 := Ln.dp_stop h0 y (L.many - t)
      rw [show t + (L.many - t) = L.many by omega] at e1
      have := Ln.dp_le (L := L) k t
      omega
theorem Ln.dp_of {L : Ln} (h0 : 1 ≤ L.many) (hS : ¬ L.Swing) (k : Int) (T : Nat) : L.dp T k = min T (L.dp L.many k) := Ln.dp_min (Ln.rd_dp h0 hS k) T
theorem Ln.dp_swing {L : Ln} (h0 : 1 ≤ L.many) (S : L.Swing) (k : Int) (T : Nat) : L.dp T k = T := Ln.dp_full h0 T k fun s _ => Ln.swing_aft h0 S s k
def Ln.dps (L : Ln) (t : Nat) : List Int := (List.range L.many).map fun (j : Nat) => ((L.dp t (j : Int) : Nat) : Int)
theorem aft_cells {L : Ln} (t : Nat) : (L.aft t).cells = (List.range L.many).map fun (j : Nat) => (L.aft t).at (j : Int) := by
  have hm : (L.aft t).cells.length = L.many := Ln.aft_many t
  refine List.ext_getElem (by rw [List.length_map, List.length_range]; exact hm) fun i h1 h2 => ?_
  rw [List.getElem_map, List.getElem_range]
  exact (at_cells h1).symm
section
variable {P : Prg} {ix : Nat → Nat} {d : Nat} {h : PH} {Q : PV → PH → Prop}
theorem f_turns_in (H4 : Has P ix 4 cf_held_in) (H5 : Has P ix 5 cf_flanks) (H6 : Has P ix 6 cf_is_flanked) (H7 : Has P ix 7 cf_ready_in) (H11 : Has P ix 11 cf_swings_in) (H13 : Has P ix 13 cf_stretches_in) (H16 : Has P ix 16 cf_depths_in) (H : Has P ix 21 cf_turns_in) {L : Ln} (G : Good1 L) {t : Nat} (w : Wf h)
    (q : ∀ i h', Le none h h' → h.n ≤ i → h'.get i = some (.lst (iL (L.dps t))) → Q (.ref i) h') : Ok (callP P 1000 (d + 6) (ix 21) [L.v, .int t] h) Q := by
  have h40 := G.most
  have h0 := G.one
  refine ok_def H rfl ?_
  repeat walk_at "px"
  refine f_swings_in H4 H5 H6 H7 H11 G w fun h1 l1 => ?_
  refine ⟨_, truth_bl, fun e => ?_, fun e => ?_⟩
  · repeat walk_at "px"
    refine ⟨_, rfl, ?_⟩
    repeat walk_at "px"
    refine ok_len (xs := iL L.cells) (by rfl) ?_
    rw [List.length_map]
    refine ok_mulZ get_new (Nat.le_trans h40 (by decide)) ?_
    refine q _ _ l1.p.p (Nat.le_succ_of_le l1.n) ?_
    rw [get_new]
    refine congrArg (fun x => some (PO.lst x)) ?_
    refine List.ext_getElem (by rw [List.length_replicate, List.length_map, Ln.dps, List.length_map, List.length_range]; rfl) fun i h1 h2 => ?_
    simp [Ln.dps, Ln.dp_swing h0 ((Ln.swB_is G).mp e)]
  · have hS : ¬ L.Swing := fun z => by rw [(Ln.swB_is G).mpr z] at e; cases e
    repeat walk_at "px"
    refine f_depths_in H4 H5 H6 H7 H13 H16 G e l1.wf fun i h2 l2 hi g2 => ?_
    refine .inl ⟨i, iL L.deps, rfl, seqL_lst g2, ?_⟩
    have dl : (iL L.deps).length = L.many := by
      rw [List.length_map, Ln.deps, List.length_map, List.length_range]
    have dg : ∀ k, k < L.many → (iL L.deps)[k]? = some (.int ((L.dp L.many (k : Int) : Nat) : Int)) := fun k hk => by
      rw [List.getElem?_map, Ln.deps, List.getElem?_map, List.getElem?_range hk]
      rfl
    refine ok_lcI none (iL L.deps) h2 l2.wf (fun i e => by cases e) (fun k h' l => iv_lst (p := none) g2 (by intro z; cases z) k h' l) (by rw [dl]; omega) (fun k acc => acc = iL ((List.range k).map fun (j : Nat) => ((L.dp t (j : Int) : Nat) : Int))) rfl (fun k v acc h3 e3 i3 l3 => ?_) (fun acc h' i3 _ l g => ?_) (by rw [dl]; omega)
    · have hk : k < L.many := by
        rw [← dl]
        exact (List.getElem?_eq_some_iff.mp e3).1
      rw [dg k hk] at e3
      cases e3
      refine ⟨_, rfl, ?_⟩
      repeat walk_at "px"
      refine ⟨Le.refl l3.wf, fun e => (nomatch (e : true = false)), fun _ => ?_⟩
      repeat walk_at "px"
      refine ok_min2 ⟨Le.refl l3.wf, ?_⟩
      have e9 : (if ((L.dp L.many (k : Int) : Nat) : Int) < (t : Int) then ((L.dp L.many (k : Int) : Nat) : Int) else (t : Int)) = ((L.dp t (k : Int) : Nat) : Int) := by
        rw [Ln.dp_of h0 hS (k : Int) t]
        split <;> omega
      rw [i3, List.range_succ, List.map_append, ← iL_app, e9]
      rfl
    · rw [dl] at i3
      refine q _ h' ((l1.trans l2).trans l) (l1.trans l2).n ?_
      rw [g, i3]
      rfl
theorem f_cells_after (H4 : Has P ix 4 cf_held_in) (H5 : Has P ix 5 cf_flanks) (H6 : Has P ix 6 cf_is_flanked) (H7 : Has P ix 7 cf_ready_in) (H11 : Has P ix 11 cf_swings_in) (H13 : Has P ix 13 cf_stretches_in) (H16 : Has P ix 16 cf_depths_in) (H21 : Has P ix 21 cf_turns_in) (H : Has P ix 22 cf_cells_after) {L : Ln} (G : Good1 L) {t : Nat} (w : Wf h)
    (q : ∀ i h', Le none h h' → h.n ≤ i → h'.get i = some (.lst (iL (L.aft t).cells)) → Q (.ref i) h') : Ok (callP P 1000 (d + 7) (ix 22) [L.v, .int t] h) Q := by
  have h40 := G.most
  have h0 := G.one
  refine ok_def H rfl ?_
  repeat walk_at "px"
  refine ⟨_, rfl, ?_⟩
  repeat walk_at "px"
  refine f_turns_in H4 H5 H6 H7 H11 H13 H16 H21 G w fun i h2 l2 hi g2 => ?_
  refine .inl ⟨i, iL (L.dps t), rfl, seqL_lst g2, ?_⟩
  have dl : (iL (L.dps t)).length = L.many := by
    rw [List.length_map, Ln.dps, List.length_map, List.length_range]
  have dg : ∀ k, k < L.many → (iL (L.dps t))[k]? = some (.int ((L.dp t (k : Int) : Nat) : Int)) := fun k hk => by
    rw [List.getElem?_map, Ln.dps, List.getElem?_map, List.getElem?_range hk]
    rfl
  refine ok_lcI none ((List.range L.many).map fun (k : Nat) => .tup [.int (k : Int), .int ((L.dp t (k : Int) : Nat) : Int)]) h2 l2.wf (fun i e => by cases e) (fun k h' l => ?_) (by rw [List.length_map, List.length_range]; omega) (fun k acc => acc = iL ((List.range k).map fun (j : Nat) => (L.aft t).at (j : Int))) rfl (fun k v acc h3 e3 i3 l3 => ?_) (fun acc h' i3 _ l g => ?_) (by rw [List.length_map, List.length_range]; omega)
  · unfold ivN
    dsimp only
    rw [seqL_lst (l.get _ _ (by intro z; cases z) g2)]
    dsimp only
    by_cases hk : k < L.many
    · rw [dg k hk, List.getElem?_map, List.getElem?_range hk]
      rfl
    · rw [List.getElem?_eq_none (by rw [dl]; omega), List.getElem?_eq_none (by rw [List.length_map, List.length_range]; omega)]
      rfl
  · have hk : k < L.many := by
      have := (List.getElem?_eq_some_iff.mp e3).1
      rw [List.length_map, List.length_range] at this
      exact this
    rw [List.getElem?_map, List.getElem?_range hk] at e3
    cases e3
    refine ⟨_, rfl, ?_⟩
    repeat walk_at "px"
    refine ⟨Le.refl l3.wf, fun e => (nomatch (e : true = false)), fun _ => ?_⟩
    repeat walk_at "px"
    refine ok_mod (by decide) ?_
    repeat walk_at "px"
    have ea := Ln.at_aft h0 t (k : Int)
    refine ⟨fun e => ?_, fun e => ?_⟩
    · have e := of_decide_eq_true e
      rw [if_pos (by omega)] at ea
      repeat walk_at "px"
      refine ⟨_, at_pred hk, Le.refl l3.wf, ?_⟩
      rw [i3, List.range_succ, List.map_append, ← iL_app, ← ea]
      rfl
    · have e := of_decide_eq_false e
      rw [if_neg (by omega)] at ea
      repeat walk_at "px"
      refine ⟨_, at_small hk, Le.refl l3.wf, ?_⟩
      rw [i3, List.range_succ, List.map_append, ← iL_app, ← ea]
      rfl
  · rw [List.length_map, List.length_range] at i3
    refine q _ h' (l2.trans l) l2.n ?_
    rw [g, i3, aft_cells]
end
end Pyx

namespace Pyx
open PySem L2
theorem Ln.stp_good {L : Ln} (G : Good1 L) : Good1 L.stp := by
  refine ⟨by rw [Ln.stp_many]; exact G.one, fun z => by rw [Ln.stp_many]; exact G.three z, by rw [Ln.stp_many]; exact G.most, fun c hc => ?_, G.srt, fun x hx => by rw [Ln.stp_many]; exact G.hin x hx⟩
  obtain ⟨j, hj, rfl⟩ := List.mem_map.mp (show c ∈ (List.range L.many).map _ from hc)
  have q := fun k => G.col _ (L.at_mem G.one k)
  by_cases hjk : j ∈ L.readyN
  · rw [if_pos hjk]; exact q _
  · rw [if_neg hjk]; exact q _
theorem Ln.aft_good {L : Ln} (G : Good1 L) : ∀ t, Good1 (L.aft t)
  | 0 => G
  | t + 1 => Ln.stp_good (Ln.aft_good G t)
theorem Ln.aft_held {L : Ln} : ∀ t, (L.aft t).held = L.held
  | 0 => rfl
  | t + 1 => Ln.aft_held t
theorem Ln.aft_ring {L : Ln} : ∀ t, (L.aft t).ring = L.ring
  | 0 => rfl
  | t + 1 => Ln.aft_ring t
theorem Ln.aft_v {L : Ln} (t : Nat) : (L.aft t).v = .tup [.tup (iL (L.aft t).cells), .tup (iL L.held), .bl L.ring] := by
  unfold Ln.v
  rw [Ln.aft_held, Ln.aft_ring]
section
variable {P : Prg} {ix : Nat → Nat} {d : Nat} {h : PH} {Q : PV → PH → Prop}
theorem f_need_time (H0 : Has P ix 0 cf_is_in) (H : Has P ix 18 cf_need_time) {t : Nat} (ht : t ≤ 1000000) (q : Q .non h) : Ok (callP P 1000 (d + 2) (ix 18) [.int t] h) Q := by
  refine ok_def H rfl ?_
  repeat walk_at "px"
  refine f_is_in H0 (by omega) (by omega) ?_
  repeat walk_at "px"
  exact q
theorem f_with_cells (H : Has P ix 19 cf_with_cells) {L : Ln} {v : PV} {cs : List Int} (e : seqOf v h = some (iL cs)) (z : cs.length ≤ 900) (q : Q (Ln.v ⟨cs, L.held, L.ring⟩) h) : Ok (callP P 1000 (d + 1) (ix 19) [L.v, v] h) Q := by
  refine ok_def H rfl ?_
  repeat walk_at "px"
  refine ok_tupleOf e (by rw [List.length_map]; omega) ?_
  repeat walk_at "px"
  refine ⟨_, rfl, ?_⟩
  repeat walk_at "px"
  refine ⟨_, rfl, ?_⟩
  repeat walk_at "px"
  exact q
theorem f_after (H0 : Has P ix 0 cf_is_in) (H2 : Has P ix 2 cf_is_cells) (H1 : Has P ix 1 cf_need_line) (H4 : Has P ix 4 cf_held_in) (H5 : Has P ix 5 cf_flanks) (H6 : Has P ix 6 cf_is_flanked) (H7 : Has P ix 7 cf_ready_in) (H11 : Has P ix 11 cf_swings_in) (H13 : Has P ix 13 cf_stretches_in) (H16 : Has P ix 16 cf_depths_in) (H18 : Has P ix 18 cf_need_time) (H19 : Has P ix 19 cf_with_cells) (H21 : Has P ix 21 cf_turns_in) (H22 : Has P ix 22 cf_cells_after) (H : Has P ix 23 cf_after)
    {L : Ln} (G : Good1 L) {t : Nat} (ht : t ≤ 1000000) (w : Wf h) (q : ∀ h', Le none h h' → Q (L.aft t).v h') : Ok (callP P 1000 (d + 8) (ix 23) [L.v, .int t] h) Q := by
  refine ok_def H rfl ?_
  repeat walk_at "px"
  refine f_need_line H0 H2 H1 G w fun h1 l1 => ?_
  repeat walk_at "px"
  refine f_need_time H0 H18 ht ?_
  repeat walk_at "px"
  refine f_cells_after H4 H5 H6 H7 H11 H13 H16 H21 H22 G l1.wf fun i h2 l2 _ g2 => ?_
  repeat walk_at "px"
  have hz : (L.aft t).cells.length ≤ 900 := by
    have : (L.aft t).cells.length = L.many := Ln.aft_many t
    have := G.most
    omega
  refine f_with_cells (L := L) H19 (seqOf_lst g2) hz ?_
  have := q _ (l1.trans l2)
  rw [Ln.aft_v] at this
  exact this
theorem f_step (H0 : Has P ix 0 cf_is_in) (H2 : Has P ix 2 cf_is_cells) (H1 : Has P ix 1 cf_need_line) (H4 : Has P ix 4 cf_held_in) (H5 : Has P ix 5 cf_flanks) (H6 : Has P ix 6 cf_is_flanked) (H7 : Has P ix 7 cf_ready_in) (H9 : Has P ix 9 cf_with_turned) (H19 : Has P ix 19 cf_with_cells) (H : Has P ix 20 cf_step) {L : Ln} (G : Good1 L) (w : Wf h) (q : ∀ h', Le none h h' → Q L.stp.v h') :
    Ok (callP P 1000 (d + 4) (ix 20) [L.v] h) Q := by
  have h40 := G.most
  refine ok_def H rfl ?_
  repeat walk_at "px"
  refine f_need_line H0 H2 H1 G w fun h1 l1 => ?_
  repeat walk_at "px"
  refine ⟨_, rfl, ?_⟩
  repeat walk_at "px"
  refine f_ready_in H4 H5 H6 H7 G l1.wf fun i h2 l2 _ g2 => ?_
  rw [ready_nL] at g2
  repeat walk_at "px"
  refine f_with_turned (ks := L.readyN) H9 G g2 (fun k hk => (Ln.readyN_mem.mp hk).1) (Nat.le_trans ready_len (by omega)) l2.wf fun h3 l3 => ?_
  repeat walk_at "px"
  exact f_with_cells (L := L) (cs := L.turn L.readyN) H19 rfl (by rw [turn_len]; omega) (q _ ((l1.trans l2).trans l3))
theorem g_step (H41 : Has P ix 41 cf__law_held) (H42 : Has P ix 42 cf__law_ready) (H : Has P ix 43 cf__law_step) {L : Ln} (G : Good1 L) (w : Wf h) (q : ∀ h', Le none h h' → Q L.stp.v h') : Ok (callP P 1000 (d + 3) (ix 43) [L.v] h) Q := by
  have h40 := G.most
  refine ok_def H rfl ?_
  repeat walk_at "px"
  refine g_ready H41 H42 G w fun i h1 l1 _ g1 => ?_
  repeat walk_at "px"
  refine ⟨_, rfl, ?_⟩
  repeat walk_at "px"
  refine ok_len (xs := iL L.cells) (by rfl) ?_
  rw [List.length_map]
  repeat walk_at "px"
  refine ⟨⟨by omega, by show (L.many : Int) ≤ _; omega⟩, ?_⟩
  rw [show ((L.cells.length : Nat) : Int).toNat = L.many from Int.toNat_natCast _]
  refine ok_lcI none (rng 0 L.many) h1 l1.wf (fun i e => by cases e) (fun k h' _ => iv_rng k h') (by rw [rng_len]; omega) (fun k acc => acc = iL ((List.range k).map fun (j : Nat) => if j ∈ L.readyN then L.at ((j : Int) - 1) else L.at j)) rfl (fun k v acc h2 e i2 l2 => ?_) (fun acc h' i2 _ l g => ?_) (by rw [rng_len]; omega)
  · obtain ⟨hk, rfl⟩ := rng_at e
    rw [Int.zero_add] at e ⊢
    refine ⟨_, rfl, ?_⟩
    have g2 := l2.get _ _ (by intro z; cases z) g1
    repeat walk_at "px"
    refine ⟨Le.refl l2.wf, fun e => (nomatch (e : true = false)), fun _ => ?_⟩
    repeat walk_at "px"
    refine ⟨_, in_nL (seqOf_lst g2), ?_⟩
    repeat walk_at "px"
    refine ⟨fun e1 => ?_, fun e1 => ?_⟩
    · have e1 := of_decide_eq_true e1
      repeat walk_at "px"
      refine ⟨_, rfl, ?_⟩
      repeat walk_at "px"
      refine ⟨_, at_pred hk, Le.refl l2.wf, ?_⟩
      have e9 : (if k ∈ L.readyN then L.at ((k : Int) - 1) else L.at k) = L.at ((k : Int) - 1) := if_pos e1
      rw [i2, List.range_succ, List.map_append, ← iL_app, ← e9]
      rfl
    · have e1 := of_decide_eq_false e1
      repeat walk_at "px"
      refine ⟨_, rfl, ?_⟩
      repeat walk_at "px"
      refine ⟨_, at_small hk, Le.refl l2.wf, ?_⟩
      have e9 : (if k ∈ L.readyN then L.at ((k : Int) - 1) else L.at k) = L.at (k : Int) := if_neg e1
      rw [i2, List.range_succ, List.map_append, ← iL_app, ← e9]
      rfl
  · rw [rng_len] at i2
    subst i2
    repeat walk_at "px"
    refine ok_tupleOf (seqOf_lst g) (by rw [List.length_map, List.length_map, List.length_range]; omega) ?_
    repeat walk_at "px"
    refine ⟨_, rfl, ?_⟩
    repeat walk_at "px"
    refine ⟨_, rfl, ?_⟩
    repeat walk_at "px"
    exact q _ (l1.trans l)
end
end Pyx

namespace Pyx
open PySem L2
theorem Ln.rest_iff {L : Ln} (h0 : 1 ≤ L.many) : L.readyN = [] ↔ ∀ k : Int, ¬ L.rd k := by
  refine ⟨fun e k z => ?_, fun z => List.eq_nil_iff_forall_not_mem.mpr fun j hj => z j (Ln.readyN_mem.mp hj).2⟩
  have n1 := Int.emod_nonneg k (by omega : (L.many : Int) ≠ 0)
  have n2 := Int.emod_lt_of_pos k (by omega : (0 : Int) < L.many)
  have ec : (((k % (L.many : Int)).toNat : Nat) : Int) = k % (L.many : Int) := Int.toNat_of_nonneg n1
  have hm : (k % (L.many : Int)).toNat ∈ L.readyN := Ln.readyN_mem.mpr ⟨by omega, by
    rw [ec]
    exact (Ln.rd_congr (Int.emod_emod_of_dvd _ (Int.dvd_refl _))).mpr z⟩
  rw [e] at hm
  cases hm
section
variable {P : Prg} {ix : Nat → Nat} {d : Nat} {h : PH} {Q : PV → PH → Prop}
theorem g_run (H41 : Has P ix 41 cf__law_held) (H42 : Has P ix 42 cf__law_ready) (H43 : Has P ix 43 cf__law_step) (H : Has P ix 44 cf__law_run) {L : Ln} (G : Good1 L) (w : Wf h)
    (q1 : ∀ (i : Nat) (h' : PH) (T : Nat), ¬ L.Swing → T ≤ L.many → (∀ k, ¬ (L.aft T).rd k) → (∀ t, t < T → ∃ k, (L.aft t).rd k) → Le none h h' → h.n ≤ i → h'.get i = some (.lst ((List.range (T + 1)).map fun (t : Nat) => (L.aft t).v)) → Q (.ref i) h')
    (q2 : ∀ h', L.Swing → Le none h h' → Q .non h') : Ok (callP P 1000 (d + 4) (ix 44) [L.v] h) Q := by
  have h40 := G.most
  have h0 := G.one
  refine ok_def H rfl ?_
  repeat walk_at "px"
  refine ⟨_, rfl, ?_⟩
  repeat walk_at "px"
  refine ok_len (xs := iL L.cells) (by rfl) ?_
  rw [List.length_map]
  repeat walk_at "px"
  refine ⟨⟨by omega, by show (L.many : Int) + 2 ≤ _; omega⟩, ?_⟩
  rw [show (((L.cells.length : Nat) : Int) + 2).toNat = L.many + 2 from by show ((L.many : Int) + 2).toNat = _; omega]
  refine os_forL (fun t st h' => t ≤ L.many + 2 ∧ (∀ s, s < t → ∃ k, (L.aft s).rd k) ∧ Le none h h' ∧ h'.get h.n = some (.lst ((List.range (t + 1)).map fun (s : Nat) => (L.aft s).v)) ∧ ∃ s2, st = [some L.v, some (.ref h.n), s2]) (L.many + 2) (fun t st h' ⟨i1, i2, i3, i4, s2, i5⟩ => ⟨i1, ?_⟩) _ 0 _ _ (by omega)
    ⟨Nat.zero_le _, fun s hs => absurd hs (Nat.not_lt_zero _), Le.push w, get_new, none, rfl⟩
  subst i5
  rw [iv_rng]
  have i4' := i4
  rw [List.range_succ, List.map_append] at i4'
  have Gt := Ln.aft_good G t
  by_cases ht : t < L.many + 2
  · have e : (rng 0 (L.many + 2))[t]? = some (.int (0 + (t : Nat))) := by
      unfold rng
      rw [List.getElem?_map, List.getElem?_range ht]
      rfl
    rw [e]
    refine .inr ⟨_, _, rfl, rfl, ?_⟩
    repeat walk_at "px"
    refine ⟨_, ix_last i4', ?_⟩
    repeat walk_at "px"
    refine g_ready H41 H42 Gt i3.wf fun i h2 l2 hi g2 => ?_
    have gf := l2.get _ _ (by intro z; cases z) i4
    have l3 := i3.trans l2
    repeat walk_at "px"
    have g2' := g2
    rw [nL_ints] at g2'
    refine ⟨_, eq_lsts (ms := []) (get_old g2') get_new, ?_⟩
    repeat walk_at "px"
    have gf2 := get_old (o := PO.lst []) gf
    have l4 := l3.p (o := PO.lst [])
    have et : (L.aft t).readyN.map (fun k => ((k : Nat) : Int)) = [] ↔ ∀ k : Int, ¬ (L.aft t).rd k := by
      rw [← Ln.rest_iff Gt.one]
      exact List.map_eq_nil_iff
    refine ⟨fun e1 => ?_, fun e1 => ?_⟩
    · have e1 := et.mp (of_decide_eq_true e1)
      repeat walk_at "px"
      have hS : ¬ L.Swing := fun z => e1 0 (Ln.swing_aft h0 z t 0)
      refine q1 h.n _ t hS ?_ e1 i2 l4 (Nat.le_refl _) gf2
      refine Nat.le_of_not_lt fun z => ?_
      obtain ⟨k, hk⟩ := i2 L.many z
      exact Ln.rest_many h0 hS L.many (Nat.le_refl _) k hk
    · have e1 : ¬ ∀ k : Int, ¬ (L.aft t).rd k := fun z => of_decide_eq_false e1 (et.mpr z)
      have ex : ∃ k, (L.aft t).rd k := Classical.byContradiction fun z => e1 fun k y => z ⟨k, y⟩
      have gf3 := gf2
      rw [List.range_succ, List.map_append] at gf3
      refine os_nil (os_cons (os_expr (ok_mt (ok_var rfl ⟨⟨_, seqL_lst gf2⟩, ?_⟩))))
      repeat walk_at "px"
      refine ⟨_, ix_last gf3, ?_⟩
      repeat walk_at "px"
      refine g_step H41 H42 H43 Gt l4.wf fun h5 l5 => ?_
      have gf5 := l5.get _ _ (by intro z; cases z) gf2
      repeat walk_at "px"
      refine ok_append gf5 (by rw [List.length_map, List.length_range]; omega) ?_
      repeat walk_at "px"
      have l6 := l4.trans l5
      refine ⟨ht, fun s hs => ?_, Le.set l6 (Nat.le_refl _) gf5, ?_, _, rfl⟩
      · by_cases q : s < t
        · exact i2 s q
        · have : s = t := by omega
          subst this
          exact ex
      · rw [get_at_set l6.wf gf5, List.range_succ (n := t + 1), List.map_append]
        rfl
  · have et : t = L.many + 2 := by omega
    have e : (rng 0 (L.many + 2))[t]? = none := List.getElem?_eq_none (by rw [rng_len]; omega)
    rw [e]
    refine .inl ⟨rfl, ?_⟩
    repeat walk_at "px"
    refine q2 _ (Classical.byContradiction fun hS => ?_) i3
    obtain ⟨k, hk⟩ := i2 L.many (by omega)
    exact Ln.rest_many h0 hS L.many (Nat.le_refl _) k hk
end
end Pyx

namespace Pyx
open PySem L2
theorem maxI_mem (m : Int) (is : List Int) : maxI m is ∈ m :: is := (maxI_is is m).1
section
variable {P : Prg} {ix : Nat → Nat} {d : Nat} {h : PH} {Q : PV → PH → Prop}
theorem ok_maxL {a : Nat} {i : Int} {is : List Int} (e : h.get a = some (.lst (iL (i :: is)))) (q : Q (.int (maxI i is)) h) : Ok (biP .max [.ref a] h) Q := by
  have e1 : intsOfL (.ref a) h = some (i :: is) := by
    unfold intsOfL
    rw [seqL_lst e]
    exact intsP_ints _
  unfold biP
  dsimp only
  rw [e1]
  exact q
def Ln.top (L : Ln) : Int := match L.deps with
  | [] => 0
  | i :: is => maxI i is
theorem deps_len {L : Ln} : L.deps.length = L.many := by rw [Ln.deps, List.length_map, List.length_range]
theorem deps_cons {L : Ln} (h0 : 1 ≤ L.many) : ∃ i is, L.deps = i :: is ∧ L.top = maxI i is := by
  unfold Ln.top
  cases e : L.deps with
  | nil =>
    have := deps_len (L := L)
    rw [e, List.length_nil] at this
    omega
  | cons i is => exact ⟨i, is, rfl, rfl⟩
theorem top_le {L : Ln} (h0 : 1 ≤ L.many) {j : Nat} (hj : j < L.many) : ((L.dp L.many (j : Int) : Nat) : Int) ≤ L.top := by
  obtain ⟨i, is, e1, e2⟩ := deps_cons h0
  rw [e2]
  refine (maxI_is is i).2 _ ?_
  rw [← e1]
  unfold Ln.deps
  exact List.mem_map.mpr ⟨j, List.mem_range.mpr hj, rfl⟩
theorem top_at {L : Ln} (h0 : 1 ≤ L.many) : ∃ j : Nat, j < L.many ∧ L.top = ((L.dp L.many (j : Int) : Nat) : Int) := by
  obtain ⟨i, is, e1, e2⟩ := deps_cons h0
  have := maxI_mem i is
  rw [← e1, ← e2] at this
  unfold Ln.deps at this
  obtain ⟨j, hj, e⟩ := List.mem_map.mp this
  exact ⟨j, List.mem_range.mp hj, e.symm⟩
theorem top_is {L : Ln} (h0 : 1 ≤ L.many) (hS : ¬ L.Swing) {T : Nat} (h1 : ∀ k, ¬ (L.aft T).rd k) (h2 : ∀ t, t < T → ∃ k, (L.aft t).rd k) : L.top = (T : Int) := by
  obtain ⟨j, hj, e⟩ := top_at (L := L) h0
  have a : L.dp L.many (j : Int) ≤ T := Nat.le_of_not_lt fun z => h1 j ((Ln.rd_dp h0 hS j T).mpr z)
  have b : T ≤ L.dp L.many (j : Int) := by
    refine Nat.le_of_not_lt fun z => ?_
    obtain ⟨k, hk⟩ := h2 _ z
    have n1 := Int.emod_nonneg k (by omega : (L.many : Int) ≠ 0)
    have n2 := Int.emod_lt_of_pos k (by omega : (0 : Int) < L.many)
    have ec : (((k % (L.many : Int)).toNat : Nat) : Int) = k % (L.many : Int) := Int.toNat_of_nonneg n1
    have q := (Ln.rd_dp h0 hS k _).mp hk
    have q2 := top_le (L := L) h0 (j := (k % (L.many : Int)).toNat) (by omega)
    rw [ec, Ln.dp_congr (Int.emod_emod_of_dvd _ (Int.dvd_refl _)), e] at q2
    omega
  omega
theorem f_rest_cells (H4 : Has P ix 4 cf_held_in) (H5 : Has P ix 5 cf_flanks) (H6 : Has P ix 6 cf_is_flanked) (H7 : Has P ix 7 cf_ready_in) (H11 : Has P ix 11 cf_swings_in) (H13 : Has P ix 13 cf_stretches_in) (H16 : Has P ix 16 cf_depths_in) (H21 : Has P ix 21 cf_turns_in) (H22 : Has P ix 22 cf_cells_after) (H : Has P ix 24 cf_rest_cells) {L : Ln} (G : Good1 L) (w : Wf h)
    (q : ∀ i h', Le none h h' → h.n ≤ i → h'.get i = some (.lst (iL (L.aft L.many).cells)) → Q (.ref i) h') : Ok (callP P 1000 (d + 8) (ix 24) [L.v] h) Q := by
  refine ok_def H rfl ?_
  repeat walk_at "px"
  refine ⟨_, rfl, ?_⟩
  repeat walk_at "px"
  refine ok_len (xs := iL L.cells) (by rfl) ?_
  rw [List.length_map]
  repeat walk_at "px"
  exact f_cells_after (t := L.many) H4 H5 H6 H7 H11 H13 H16 H21 H22 G w fun i h2 l2 hi g2 => q i h2 l2 hi g2
theorem f_rest (H0 : Has P ix 0 cf_is_in) (H2 : Has P ix 2 cf_is_cells) (H1 : Has P ix 1 cf_need_line) (H4 : Has P ix 4 cf_held_in) (H5 : Has P ix 5 cf_flanks) (H6 : Has P ix 6 cf_is_flanked) (H7 : Has P ix 7 cf_ready_in) (H11 : Has P ix 11 cf_swings_in) (H13 : Has P ix 13 cf_stretches_in) (H15 : Has P ix 15 cf_need_resting) (H16 : Has P ix 16 cf_depths_in) (H19 : Has P ix 19 cf_with_cells) (H21 : Has P ix 21 cf_turns_in) (H22 : Has P ix 22 cf_cells_after) (H24 : Has P ix 24 cf_rest_cells) (H : Has P ix 25 cf_rest)
    {L : Ln} (G : Good1 L) (s : L.swB = false) (w : Wf h) (q : ∀ h', Le none h h' → Q (L.aft L.many).v h') : Ok (callP P 1000 (d + 9) (ix 25) [L.v] h) Q := by
  refine ok_def H rfl ?_
  repeat walk_at "px"
  refine f_need_resting H0 H2 H1 H4 H5 H6 H7 H11 H15 G s w fun h1 l1 => ?_
  repeat walk_at "px"
  refine f_rest_cells H4 H5 H6 H7 H11 H13 H16 H21 H22 H24 G l1.wf fun i h2 l2 _ g2 => ?_
  repeat walk_at "px"
  have hz : (L.aft L.many).cells.length ≤ 900 := by
    have : (L.aft L.many).cells.length = L.many := Ln.aft_many L.many
    have := G.most
    omega
  refine f_with_cells (L := L) H19 (seqOf_lst g2) hz ?_
  have := q _ (l1.trans l2)
  rw [Ln.aft_v] at this
  exact this
theorem f_rest_time (H0 : Has P ix 0 cf_is_in) (H2 : Has P ix 2 cf_is_cells) (H1 : Has P ix 1 cf_need_line) (H4 : Has P ix 4 cf_held_in) (H5 : Has P ix 5 cf_flanks) (H6 : Has P ix 6 cf_is_flanked) (H7 : Has P ix 7 cf_ready_in) (H11 : Has P ix 11 cf_swings_in) (H13 : Has P ix 13 cf_stretches_in) (H15 : Has P ix 15 cf_need_resting) (H16 : Has P ix 16 cf_depths_in) (H : Has P ix 26 cf_rest_time)
    {L : Ln} (G : Good1 L) (s : L.swB = false) (w : Wf h) (q : ∀ h', Le none h h' → Q (.int L.top) h') : Ok (callP P 1000 (d + 6) (ix 26) [L.v] h) Q := by
  refine ok_def H rfl ?_
  repeat walk_at "px"
  refine f_need_resting H0 H2 H1 H4 H5 H6 H7 H11 H15 G s w fun h1 l1 => ?_
  repeat walk_at "px"
  refine f_depths_in H4 H5 H6 H7 H13 H16 G s l1.wf fun i h2 l2 _ g2 => ?_
  repeat walk_at "px"
  obtain ⟨x, xs, e1, e2⟩ := deps_cons (L := L) G.one
  rw [e1] at g2
  have := q _ (l1.trans l2)
  rw [e2] at this
  exact ok_maxL g2 this
end
end Pyx

namespace Pyx
open PySem L2
section
variable {P : Prg} {ix : Nat → Nat} {d : Nat} {h : PH} {Q : PV → PH → Prop}
end
end Pyx

namespace Pyx
open PySem L2
section
variable {h : PH} {Q : PV → PH → Prop}
end
end Pyx

namespace Pyx
open PySem L2
section
variable {P : Prg} {ix : Nat → Nat} {d : Nat} {h : PH} {Q : PV → PH → Prop}
end
end Pyx

namespace Pyx
open PySem L2
section
variable {P : Prg} {ix : Nat → Nat} {d : Nat} {h : PH} {Q : PV → PH → Prop}
end
end Pyx

namespace Pyx
open PySem L2
section
variable {P : Prg} {ix : Nat → Nat} {d : Nat} {h : PH} {Q : PV → PH → Prop}
end
end Pyx

namespace Pyx
theorem aft_add (L : Ln) (a : Nat) : ∀ b : Nat, (L.aft a).aft b = L.aft (a + b)
  | 0 => rfl
  | b + 1 => by
    show ((L.aft a).aft b).stp = (L.aft (a + b)).stp
    rw [aft_add L a b]
theorem Ln.ext' {L M : Ln} (h1 : L.cells = M.cells) (h2 : L.held = M.held) (h3 : L.ring = M.ring) : L = M := by
  cases L
  cases M
  cases h1
  cases h2
  cases h3
  rfl
theorem aft_same {L : Ln} {s t : Nat} (h : ∀ k : Int, (L.aft s).at k = (L.aft t).at k) : L.aft s = L.aft t := by
  refine Ln.ext' ?_ ((Ln.aft_held s).trans (Ln.aft_held t).symm) ((Ln.aft_ring s).trans (Ln.aft_ring t).symm)
  rw [aft_cells, aft_cells]
  exact congrArg (fun f => (List.range L.many).map f) (funext fun j => h _)
theorem aft_swing {L : Ln} (h0 : 1 ≤ L.many) (S : L.Swing) (m : Nat) : L.aft (m + m) = L := by
  refine aft_same (t := 0) fun k => ?_
  rw [Ln.at_aft h0, Ln.dp_swing h0 S, if_neg (by omega)]
  rfl
theorem aft_rest {L : Ln} (h0 : 1 ≤ L.many) (hS : ¬ L.Swing) {t : Nat} (ht : L.many ≤ t) : L.aft t = L.aft L.many := by
  refine aft_same fun k => ?_
  rw [Ln.at_aft h0, Ln.at_aft h0, Ln.dp_of h0 hS k t, Nat.min_eq_right (Nat.le_trans (Ln.dp_le k _) ht)]
def Ln.sts (L : Ln) : List Nat := L.readyN.filter fun (k : Nat) => !decide (L.rd ((k : Int) - 1))
end Pyx

namespace Pyx
open PySem L2
section
variable {h : PH} {Q : PV → PH → Prop}
theorem toDs_two {n : Nat} {a b : PV} {d e : PyData} (h1 : toD n h a = some d) (h2 : toD n h b = some e) : toDs (toD n h) [a, b] = some [d, e] := by
  unfold toDs
  rw [h1]
  dsimp only
  unfold toDs
  rw [h2]
  rfl
theorem toD_tup {n : Nat} {ns : List Int} : toD (n + 2) h (.tup (iL ns)) = some (.tuple (ns.map PyData.int)) := by
  unfold toD
  dsimp only
  rw [toDs_ints]
theorem dat_v {L : Ln} : toDat h L.v = some (.tuple [.tuple (L.cells.map PyData.int), .tuple (L.held.map PyData.int), .bool L.ring]) := by
  have e : toD 20 h L.v = some (.tuple [.tuple (L.cells.map PyData.int), .tuple (L.held.map PyData.int), .bool L.ring]) := by
    show (match toDs (toD 19 h) [.tup (iL L.cells), .tup (iL L.held), .bl L.ring] with | some ds => some (PyData.tuple ds) | none => none) = _
    have e2 : toDs (toD 19 h) [.tup (iL L.cells), .tup (iL L.held), .bl L.ring] = some [.tuple (L.cells.map PyData.int), .tuple (L.held.map PyData.int), .bool L.ring] := by
      unfold toDs
      rw [toD_tup (n := 17)]
      dsimp only
      rw [toDs_two (d := .tuple (L.held.map PyData.int)) (e := .bool L.ring) (toD_tup (n := 17)) rfl]
    rw [e2]
  unfold toDat
  rw [e]
  dsimp only
  have s : SeqAt.shaped (.tuple [.tuple (L.cells.map PyData.int), .tuple (L.held.map PyData.int), .bool L.ring]) = true := by
    unfold SeqAt.shaped
    rw [PyData.canLay0, PyData.canLayAll0, PyData.canLayAll0, PyData.canLayAll0, PyData.canLayAll0, PyData.canLay0, PyData.canLay0, PyData.canLay0, lay_ints, lay_ints]
    rw [PyData.depth, PyData.depthAll, PyData.depthAll, PyData.depthAll, PyData.depthAll, PyData.depth, PyData.depth, PyData.depth, dep_ints, dep_ints]
    rfl
  rw [s]
theorem eq_v {L M : Ln} : cmpP .eq L.v M.v h = some (decide (L.cells = M.cells) && (decide (L.held = M.held) && (L.ring == M.ring))) := by
  show eqP h L.v M.v = _
  unfold eqP
  rw [dat_v, dat_v]
  dsimp only
  rw [PyData.eqv, PyData.eqvAll, PyData.eqvAll, PyData.eqvAll, PyData.eqvAll, PyData.eqv, PyData.eqv, PyData.eqv, eqv_ints, eqv_ints, Bool.and_true]
theorem eq_same {L M : Ln} (e : L = M) : cmpP .eq L.v M.v h = some true := by
  subst e
  rw [eq_v, decide_eq_true rfl, decide_eq_true rfl]
  cases L.ring <;> rfl
end
section
variable {rec : CE → PSt → PH → R PV} {a b : CE} {st : PSt} {h : PH} {QI : IV → PH → Prop}
end
section
variable {P : Prg} {ix : Nat → Nat} {d : Nat} {h : PH} {Q : PV → PH → Prop}
end
end Pyx

namespace Pyx
section
open PySem L2
variable {call : Nat → List PV → PH → R PV} {n : Nat} {a b : CE} {st : PSt} {h : PH} {Q : PV → PH → Prop}
theorem no_tf {c : Prop} (e : true = false) : c := nomatch e
theorem no_ft {c : Prop} (e : false = true) : c := nomatch e
end
end Pyx

namespace Pyx
def Ln.inB (L : Ln) (b s : Nat) : Bool := (List.range (s - 2)).all fun (i : Nat) => decide (L.rd ((b : Int) + 1 + (i : Nat)))
theorem row_rd {L : Ln} (hr : L.ring = false) {k : Nat} (hk : k < L.many) (h : L.rd (k : Int)) : 1 ≤ k ∧ k + 1 < L.many := by
  obtain ⟨a, _, _⟩ := h
  rw [Int.emod_eq_of_lt (by omega) (by omega), heldI_mem] at a
  have n1 : ¬ (k : Int) = 0 := fun z => a (.inr ⟨hr, .inl z⟩)
  have n2 : ¬ (k : Int) = (L.many : Int) - 1 := fun z => a (.inr ⟨hr, .inr z⟩)
  omega
end Pyx

namespace Pyx
theorem heldI_same {L M : Ln} (h1 : L.many = M.many) (h2 : L.held = M.held) (h3 : L.ring = M.ring) : L.heldI = M.heldI := by
  unfold Ln.heldI Ln.ends
  rw [h1, h2, h3]
end Pyx

namespace Pyx
structure IsMex (l : List Nat) (m : Nat) : Prop where
  out : m ∉ l
  low : ∀ x, x < m → x ∈ l
theorem IsMex.one {l : List Nat} {m n : Nat} (a : IsMex l m) (b : IsMex l n) : m = n := by
  have h1 : ¬ m < n := fun z => a.out (b.low _ z)
  have h2 : ¬ n < m := fun z => b.out (a.low _ z)
  omega
theorem IsMex.le {l : List Nat} {m : Nat} (a : IsMex l m) : m ≤ l.length := by
  have nd : (List.range m).Nodup := List.nodup_range
  have sub : ∀ x ∈ List.range m, x ∈ l := fun x hx => a.low x (List.mem_range.mp hx)
  have key : ∀ (s t : List Nat), s.Nodup → (∀ x ∈ s, x ∈ t) → s.length ≤ t.length := by
    intro s
    induction s with
    | nil => intro t _ _; exact Nat.zero_le _
    | cons x s ih =>
      intro t hn hs
      obtain ⟨h1, h2⟩ := List.nodup_cons.mp hn
      have hx := hs x List.mem_cons_self
      have := ih (t.erase x) h2 fun y hy => (List.mem_erase_of_ne (fun e => h1 (by rw [← e]; exact hy))).mpr (hs y (List.mem_cons_of_mem _ hy))
      rw [List.length_erase_of_mem hx] at this
      have : 0 < t.length := List.length_pos_of_mem hx
      rw [List.length_cons]
      omega
  have := key _ l nd sub
  rw [List.length_range] at this
  exact this
end Pyx

namespace Pyx
section
variable {n : Nat} {held : List Int}
end
open PySem L2
end Pyx

namespace Pyx
section
variable {L : Ln} {cs : List Int}
theorem aft_still {M : Ln} (h0 : 1 ≤ M.many) (h : ∀ k, ¬ M.rd k) (t : Nat) : M.aft t = M := by
  refine aft_same (t := 0) fun k => ?_
  rw [Ln.at_aft h0, Ln.dp_none h0 (h k), if_neg (by decide)]
  rfl
end
end Pyx

namespace Pyx
end Pyx

namespace Pyx
open PySem L2
theorem Le.g {h h' : PH} {i : Nat} {o : PO} (l : Le none h h') (e : h.get i = some o) : h'.get i = some o := l.get _ _ (by intro z; cases z) e
def addP (a b : List Int) : List Int := (List.range (max a.length b.length)).map fun k => a.getD k 0 + b.getD k 0
def addAt (f : List Int) (k : Nat) (x : Int) : List Int := f.set k (f.getD k 0 + x)
def mulI (f : List Int) (k : Nat) (a : Int) (bs : List Int) : Nat → List Int
  | 0 => f
  | j + 1 => addAt (mulI f k a bs j) (k + j) (a * bs.getD j 0)
def mulO (f as bs : List Int) : Nat → List Int
  | 0 => f
  | k + 1 => mulI (mulO f as bs k) k (as.getD k 0) bs bs.length
def mulP (as bs : List Int) : List Int := mulO (List.replicate (as.length + bs.length - 1) 0) as bs as.length
theorem addAt_len {f : List Int} {k : Nat} {x : Int} : (addAt f k x).length = f.length := by
  unfold addAt
  rw [List.length_set]
theorem mulI_len {f : List Int} {k : Nat} {a : Int} {bs : List Int} : ∀ j, (mulI f k a bs j).length = f.length
  | 0 => rfl
  | j + 1 => addAt_len.trans (mulI_len j)
theorem mulO_len {f as bs : List Int} : ∀ k, (mulO f as bs k).length = f.length
  | 0 => rfl
  | k + 1 => (mulI_len _).trans (mulO_len k)
theorem addP_at {a b : List Int} (k : Nat) : (addP a b).getD k 0 = a.getD k 0 + b.getD k 0 := by
  unfold addP
  rw [List.getD_eq_getElem?_getD, List.getElem?_map]
  by_cases hk : k < max a.length b.length
  · rw [List.getElem?_range hk]
    rfl
  · rw [List.getElem?_eq_none (by rw [List.length_range]; omega)]
    have ha : a.getD k 0 = 0 := by rw [List.getD_eq_getElem?_getD, List.getElem?_eq_none (by omega)]; rfl
    have hb : b.getD k 0 = 0 := by rw [List.getD_eq_getElem?_getD, List.getElem?_eq_none (by omega)]; rfl
    rw [ha, hb]
    rfl
def InR (m : Int) (a : List Int) : Prop := ∀ x ∈ a, 0 ≤ x ∧ x ≤ m
theorem InR.at {m : Int} {a : List Int} (h : InR m a) (hm : 0 ≤ m) (k : Nat) : 0 ≤ a.getD k 0 ∧ a.getD k 0 ≤ m := by
  rw [List.getD_eq_getElem?_getD]
  cases e : a[k]? with
  | none => exact ⟨Int.le_refl _, hm⟩
  | some x => exact h x (List.mem_of_getElem? e)
theorem InR.add {m n : Int} {a b : List Int} (ha : InR m a) (hb : InR n b) (hm : 0 ≤ m) (hn : 0 ≤ n) : InR (m + n) (addP a b) := by
  intro x hx
  obtain ⟨k, _, rfl⟩ := List.mem_map.mp hx
  have h1 := ha.at hm k
  have h2 := hb.at hn k
  omega
theorem InR.mono {m n : Int} {a : List Int} (ha : InR m a) (h : m ≤ n) : InR n a := fun x hx => by
  have := ha x hx
  omega
end Pyx

namespace Pyx
open PySem L2
end Pyx

end
section
open Pyx PySem L2
local macro_rules | `(tactic| walk_at "px") => `(tactic| first
  | (with_reducible refine ok_var (v := ?_) (by with_unfolding_all exact rfl) ?_)
  | with_reducible refine os_nil ?_
  | with_reducible refine os_cons ?_
  | with_reducible refine os_pass ?_
  | with_reducible refine os_retN ?_
  | with_reducible refine os_brk ?_
  | with_reducible refine os_cont ?_
  | with_reducible refine os_ret ?_
  | with_reducible refine os_expr ?_
  | with_reducible refine os_set ?_
  | with_reducible refine os_asg ?_
  | with_reducible refine os_par ?_
  | with_reducible refine os_par3 ?_
  | with_reducible refine os_setix ?_
  | with_reducible refine os_ite ?_
  | with_reducible refine os_for ?_
  | with_reducible refine os_while ?_
  | with_reducible refine ok_val ?_
  | with_reducible refine ok_bin ?_
  | with_reducible refine ok_neg ?_
  | with_reducible refine ok_cmp ?_
  | with_reducible refine ok_chain ?_
  | with_reducible refine ok_isin ?_
  | with_reducible refine ok_and ?_
  | with_reducible refine ok_or ?_
  | with_reducible refine ok_not ?_
  | with_reducible refine ok_ite ?_
  | with_reducible refine ok_tup ?_
  | with_reducible refine ok_lst ?_
  | with_reducible refine ok_call ?_
  | with_reducible refine ok_bi ?_
  | with_reducible refine ok_isi ?_
  | with_reducible refine ok_isis ?_
  | with_reducible refine ok_ix ?_
  | with_reducible refine ok_sl ?_
  | with_reducible refine ok_oN ?_
  | with_reducible refine ok_oS ?_
  | with_reducible refine ok_nil ?_
  | with_reducible refine ok_cons ?_
  | with_reducible refine ok_bval ?_
  | with_reducible refine ok_bbl ?_
  | with_reducible refine ok_bnot ?_
  | with_reducible refine ok_band ?_
  | with_reducible refine ok_bor ?_
  | with_reducible refine ok_ifN ?_
  | with_reducible refine ok_ifS ?_
  | with_reducible refine ok_rng1 ?_
  | with_reducible refine ok_rng2 ?_
  | with_reducible refine ok_over ?_
  | with_reducible refine ok_enum ?_
  | with_reducible refine ok_add ?_
  | with_reducible refine ok_sub ?_
  | (with_reducible refine ok_lc (by with_unfolding_all exact rfl) ?_)
  | with_reducible refine ⟨_, eq_int, ?_⟩
  | with_reducible refine ⟨_, ne_int, ?_⟩
  | with_reducible refine ⟨_, lt_int', ?_⟩
  | with_reducible refine ⟨_, le_int', ?_⟩
  | with_reducible refine ⟨_, gt_int', ?_⟩
  | with_reducible refine ⟨_, ge_int', ?_⟩
  | with_reducible refine ⟨_, eq_bl, ?_⟩
  | with_reducible refine ⟨_, ne_bl, ?_⟩
  | with_reducible refine ⟨_, ty_ii, ?_⟩
  | with_reducible refine ⟨_, ty_ib, ?_⟩
  | with_reducible refine ⟨_, ty_tt, ?_⟩
  | with_reducible refine ⟨_, ty_tl, ?_⟩
  | with_reducible refine ⟨_, ty_bb, ?_⟩
  | with_reducible refine ⟨_, ty_bi, ?_⟩
  | with_reducible refine ⟨_, truth_bl, ?_⟩
  | with_reducible refine ⟨_, (rfl : PV.bl _ = PV.bl _), ?_⟩
  | with_reducible refine ⟨_, (rfl : PV.int _ = PV.int _), ?_⟩
  | (with_reducible refine And.intro (Nat.le_of_ble_eq_true (by with_unfolding_all exact rfl)) ?_)
  | refine ⟨fun _ => ?_, fun e => nomatch (e : true = false)⟩
  | refine ⟨fun e => (nomatch (e : false = true)), fun _ => ?_⟩
  | refine ⟨fun e => (nomatch (e : true = false)), fun _ => ?_⟩
  | refine ⟨fun _ => ?_, fun e => nomatch (e : false = true)⟩)
local macro_rules | `(tactic| walk_at "py") => `(tactic| first
  | (with_reducible refine ok_var (v := ?_) (by with_unfolding_all exact rfl) ?_)
  | with_reducible refine os_nil ?_
  | with_reducible refine os_cons ?_
  | with_reducible refine os_pass ?_
  | with_reducible refine os_retN ?_
  | with_reducible refine os_brk ?_
  | with_reducible refine os_cont ?_
  | with_reducible refine os_ret ?_
  | with_reducible refine os_expr ?_
  | with_reducible refine os_set ?_
  | with_reducible refine os_asg ?_
  | with_reducible refine os_par ?_
  | with_reducible refine os_par3 ?_
  | with_reducible refine os_setix ?_
  | with_reducible refine os_ite ?_
  | with_reducible refine os_for ?_
  | with_reducible refine os_while ?_
  | with_reducible refine ok_val ?_
  | with_reducible refine ok_bin ?_
  | with_reducible refine ok_neg ?_
  | with_reducible refine ok_cmp ?_
  | with_reducible refine ok_chain ?_
  | with_reducible refine ok_isin ?_
  | with_reducible refine ok_and ?_
  | with_reducible refine ok_or ?_
  | with_reducible refine ok_not ?_
  | with_reducible refine ok_ite ?_
  | with_reducible refine ok_tup ?_
  | with_reducible refine ok_call ?_
  | with_reducible refine ok_bi ?_
  | with_reducible refine ok_isi ?_
  | with_reducible refine ok_isis ?_
  | with_reducible refine ok_ix ?_
  | with_reducible refine ok_sl ?_
  | with_reducible refine ok_oN ?_
  | with_reducible refine ok_oS ?_
  | with_reducible refine ok_nil ?_
  | with_reducible refine ok_cons ?_
  | with_reducible refine ok_bval ?_
  | with_reducible refine ok_bbl ?_
  | with_reducible refine ok_bnot ?_
  | with_reducible refine ok_band ?_
  | with_reducible refine ok_bor ?_
  | with_reducible refine ok_ifN ?_
  | with_reducible refine ok_ifS ?_
  | with_reducible refine ok_rng1 ?_
  | with_reducible refine ok_rng2 ?_
  | with_reducible refine ok_over ?_
  | with_reducible refine ok_enum ?_
  | with_reducible refine ok_add ?_
  | with_reducible refine ok_sub ?_
  | (with_reducible refine ok_lc (by with_unfolding_all exact rfl) ?_)
  | with_reducible refine ⟨_, eq_int, ?_⟩
  | with_reducible refine ⟨_, ne_int, ?_⟩
  | with_reducible refine ⟨_, lt_int', ?_⟩
  | with_reducible refine ⟨_, le_int', ?_⟩
  | with_reducible refine ⟨_, gt_int', ?_⟩
  | with_reducible refine ⟨_, ge_int', ?_⟩
  | with_reducible refine ⟨_, eq_bl, ?_⟩
  | with_reducible refine ⟨_, ne_bl, ?_⟩
  | with_reducible refine ⟨_, ty_ii, ?_⟩
  | with_reducible refine ⟨_, ty_ib, ?_⟩
  | with_reducible refine ⟨_, ty_tt, ?_⟩
  | with_reducible refine ⟨_, ty_tl, ?_⟩
  | with_reducible refine ⟨_, ty_bb, ?_⟩
  | with_reducible refine ⟨_, ty_bi, ?_⟩
  | with_reducible refine ⟨_, truth_bl, ?_⟩
  | with_reducible refine ⟨_, (rfl : PV.bl _ = PV.bl _), ?_⟩
  | with_reducible refine ⟨_, (rfl : PV.int _ = PV.int _), ?_⟩
  | (with_reducible refine And.intro (Nat.le_of_ble_eq_true (by with_unfolding_all exact rfl)) ?_)
  | refine ⟨fun _ => ?_, fun e => nomatch (e : true = false)⟩
  | refine ⟨fun e => (nomatch (e : false = true)), fun _ => ?_⟩
  | refine ⟨fun e => (nomatch (e : true = false)), fun _ => ?_⟩
  | refine ⟨fun _ => ?_, fun e => nomatch (e : false = true)⟩)
local macro_rules | `(tactic| walk_at "wf") => `(tactic| first
  | assumption
  | exact Le.wf (by assumption)
  | (with_reducible refine wf_push ?_; walk_at "wf")
  | (with_reducible refine wf_set ?_; walk_at "wf"))
local macro_rules | `(tactic| walk_at "gt") => `(tactic| first
  | assumption
  | with_reducible exact get_new
  | (with_reducible refine get_old ?_; walk_at "gt")
  | (with_reducible refine Le.g (by assumption) ?_; walk_at "gt"))
local macro_rules | `(tactic| walk_at "le") => `(tactic| first
  | assumption
  | with_reducible exact Le.refl (by walk_at "wf")
  | (with_reducible refine Le.p ?_; walk_at "le")
  | (with_reducible refine Le.trans ?_ (by assumption); walk_at "le"))
set_option Elab.async false
set_option linter.all false
set_option maxRecDepth 100000
set_option maxHeartbeats 400000
namespace Pyx
open PySem L2
section
variable {P : Prg} {ix : Nat → Nat} {d : Nat} {h : PH} {Q : PV → PH → Prop}
theorem ix_neg {a k m : Nat} {xs : List PV} {v : PV} {i : Int} (e : h.get a = some (.lst xs)) (hl : xs.length = m) (ei : i = -(k : Int)) (h1 : 1 ≤ k) (h2 : k ≤ m) (g : xs[m - k]? = some v) : ixP (.ref a) (.int i) h = some v := by
  unfold ixP
  dsimp only
  rw [seqOf_lst e]
  dsimp only
  unfold atI
  have e1 : ixN xs.length i = some (m - k) := by
    unfold ixN
    rw [hl, if_neg (by omega), if_pos (by omega)]
    congr 1
    omega
  rw [e1]
  exact g
end
end Pyx

namespace Pyx
open PySem L2
section
variable {P : Prg} {ix : Nat → Nat} {d : Nat} {h : PH} {Q : PV → PH → Prop}
def Rows (h0 h : PH) (R : Nat) (g : Nat → List Int) (m : Nat) (rs : List Nat) : Prop := rs.length = m ∧ h.get R = some (.lst (rs.map PV.ref)) ∧ ∀ j, j < m → ∃ r, rs[j]? = some r ∧ r ≠ R ∧ h0.n ≤ r ∧ h.get r = some (.lst (iL (g j)))
theorem Rows.le {h0 h1 h2 : PH} {R m : Nat} {g : Nat → List Int} {rs : List Nat} (a : Rows h0 h1 R g m rs) (l : Le none h1 h2) : Rows h0 h2 R g m rs := ⟨a.1, l.g a.2.1, fun j hj => let ⟨r, e1, e2, e3, e4⟩ := a.2.2 j hj; ⟨r, e1, e2, e3, l.g e4⟩⟩
theorem Rows.more {h0 h1 : PH} {R m i : Nat} {g : Nat → List Int} {rs : List Nat} (a : Rows h0 h1 R g m rs) (w : Wf h1) (ni : i ≠ R) (hi : h0.n ≤ i) (gi : h1.get i = some (.lst (iL (g m)))) : Rows h0 (h1.set R (.lst (rs.map PV.ref ++ [.ref i]))) R g (m + 1) (rs ++ [i]) := by
  refine ⟨by rw [List.length_append, a.1]; rfl, ?_, fun j hj => ?_⟩
  · rw [get_at_set w a.2.1, List.map_append]
    rfl
  · by_cases hm : j < m
    · obtain ⟨r, e1, e2, e3, e4⟩ := a.2.2 j hm
      refine ⟨r, ?_, e2, e3, get_of_set w a.2.1 e4 e2⟩
      rw [List.getElem?_append_left (by rw [a.1]; exact hm)]
      exact e1
    · have e : j = m := by omega
      subst e
      refine ⟨i, ?_, ni, hi, get_of_set w a.2.1 gi ni⟩
      rw [List.getElem?_append_right (by rw [a.1]; omega), a.1, Nat.sub_self]
      rfl
theorem Rows.last {h0 h1 : PH} {R m k : Nat} {g : Nat → List Int} {rs : List Nat} {i : Int} (a : Rows h0 h1 R g m rs) (ei : i = -(k : Int)) (h1' : 1 ≤ k) (h2 : k ≤ m) : ∃ r, ixP (.ref R) (.int i) h1 = some (.ref r) ∧ h1.get r = some (.lst (iL (g (m - k)))) := by
  obtain ⟨r, e1, e2, e3, e4⟩ := a.2.2 (m - k) (by omega)
  refine ⟨r, ix_neg a.2.1 (by rw [List.length_map, a.1]) ei h1' h2 ?_, e4⟩
  rw [List.getElem?_map, e1]
  rfl
end
end Pyx

namespace Pyx
open PySem L2
def LLc (h : PH) (i : Nat) (fs : List (List Int)) : Prop := ∃ rs : List Nat, h.get i = some (.lst (rs.map PV.ref)) ∧ rs.length = fs.length ∧ ∀ (j : Nat) (f : List Int), fs[j]? = some f → ∃ a, rs[j]? = some a ∧ h.get a = some (.lst (iL f))
theorem LLc.le {h1 h2 : PH} {i : Nat} {fs : List (List Int)} (a : LLc h1 i fs) (l : Le none h1 h2) : LLc h2 i fs := let ⟨rs, e1, e2, e3⟩ := a; ⟨rs, l.g e1, e2, fun j f e => let ⟨b, c1, c2⟩ := e3 j f e; ⟨b, c1, l.g c2⟩⟩
section
variable {P : Prg} {ix : Nat → Nat} {d : Nat} {h : PH} {Q : PV → PH → Prop}
end
end Pyx

namespace Pyx
open PySem L2
def Ln.lfN (L : Ln) (k : Nat) : Nat := (((k : Int) - 1) % (L.many : Int)).toNat
def Ln.chd (L : Ln) (cs : List Int) : List Nat := (List.range L.many).filter fun k => decide (¬ cs.getD k 0 = L.at k)
def Ln.ap (L : Ln) (ks : List Nat) : Bool := ks.all fun k => !decide (L.lfN k ∈ ks)
def factN : Nat → Int
  | 0 => 1
  | n + 1 => factN n * ((n : Int) + 1)
section
variable {P : Prg} {ix : Nat → Nat} {d : Nat} {h : PH} {Q : PV → PH → Prop}
end
end Pyx

namespace Pyx
open PySem L2
section
variable {P : Prg} {ix : Nat → Nat} {d : Nat} {h : PH} {Q : PV → PH → Prop}
theorem is_ref {i : Nat} : cmpP .is (.ref i) .non h = some false := rfl
theorem is_non : cmpP .is .non .non h = some true := rfl
end
end Pyx

namespace Pyx
open PySem L2
theorem cell_at {L : Ln} {k : Nat} (hk : k < L.many) : L.cells.getD k 0 = L.at (k : Int) := by
  rw [at_cells hk, List.getD_eq_getElem?_getD, List.getElem?_eq_getElem hk]
  rfl
theorem rd_ne {L : Ln} {k : Int} (r : L.rd k) : ¬ L.at (k - 1) = L.at k := fun z => r.2.2 (r.2.1.symm.trans z)
theorem rd_nat {L : Ln} (h0 : 1 ≤ L.many) {k : Int} (r : L.rd k) : ∃ j : Nat, j ∈ L.readyN ∧ (j : Int) = k % (L.many : Int) := by
  have e : ((((k % (L.many : Int)).toNat : Nat)) : Int) = k % (L.many : Int) := Int.toNat_of_nonneg (Int.emod_nonneg _ (by omega))
  have := Int.emod_lt_of_pos k (show (0 : Int) < L.many by omega)
  refine ⟨(k % (L.many : Int)).toNat, Ln.readyN_mem.mpr ⟨by omega, ?_⟩, e⟩
  rw [e]
  exact (Ln.rd_congr (Int.emod_emod_of_dvd k (Int.dvd_refl _))).mpr r
section
variable {L : Ln} (h0 : 1 ≤ L.many) (A : ∀ k : Int, L.rd k → ¬ L.rd (k + 1))
include h0 A
end
end Pyx

namespace Pyx
open PySem L2
theorem getD_zero {a : List Int} {k : Nat} (h : a.length ≤ k) : a.getD k 0 = 0 := by
  rw [List.getD_eq_getElem?_getD, List.getElem?_eq_none h]
  rfl
end Pyx

namespace Pyx
open PySem L2
section
variable {call : Nat → List PV → PH → R PV} {n : Nat} {st : PSt} {h : PH} {Q : PV → PH → Prop}
theorem valG_putG {κ : Type} [DecidableEq κ] {k j : κ} {v : PV} : ∀ kvs : List (κ × PV), valG j (putG k v kvs) = if k = j then some v else valG j kvs
  | [] => by
    show (match decide (k = j) with | true => some v | false => none) = _
    by_cases e : k = j
    · rw [decide_eq_true e, if_pos e]
    · rw [decide_eq_false e, if_neg e]
      rfl
  | p :: r => by
    by_cases e : p.1 = k
    · have e1 : putG k v (p :: r) = (p.1, v) :: r := by
        show (match decide (p.1 = k) with | true => (p.1, v) :: r | false => p :: putG k v r) = _
        rw [decide_eq_true e]
      rw [e1]
      show (match decide (p.1 = j) with | true => some v | false => valG j r) = if k = j then some v else (match decide (p.1 = j) with | true => some p.2 | false => valG j r)
      rw [e]
      by_cases z : k = j
      · rw [decide_eq_true z, if_pos z]
      · rw [decide_eq_false z, if_neg z]
    · have e1 : putG k v (p :: r) = p :: putG k v r := by
        show (match decide (p.1 = k) with | true => (p.1, v) :: r | false => p :: putG k v r) = _
        rw [decide_eq_false e]
      rw [e1]
      show (match decide (p.1 = j) with | true => some p.2 | false => valG j (putG k v r)) = if k = j then some v else (match decide (p.1 = j) with | true => some p.2 | false => valG j r)
      rw [valG_putG r]
      by_cases z : p.1 = j
      · have hkj : ¬ k = j := fun y => e (z.trans y.symm)
        rw [decide_eq_true z, if_neg hkj, if_neg hkj]
      · rw [decide_eq_false z]
end
section
variable {P : Prg} {ix : Nat → Nat} {d : Nat} {h : PH} {Q : PV → PH → Prop}
def RowsD (h0 h : PH) (D : Nat) (g : Nat → List Int) (m : Nat) : Prop := ∃ kvs : List (Int × PV), h.get D = some (.dK kvs) ∧ kvs.length ≤ m ∧ ∀ j : Nat, 3 ≤ j → j < m → ∃ r, valG (j : Int) kvs = some (.ref r) ∧ r ≠ D ∧ h0.n ≤ r ∧ h.get r = some (.lst (iL (g j)))
theorem RowsD.le {h0 h1 h2 : PH} {D m : Nat} {g : Nat → List Int} (a : RowsD h0 h1 D g m) (l : Le none h1 h2) : RowsD h0 h2 D g m := let ⟨kvs, e1, e2, e3⟩ := a; ⟨kvs, l.g e1, e2, fun j j1 j2 => let ⟨r, r1, r2, r3, r4⟩ := e3 j j1 j2; ⟨r, r1, r2, r3, l.g r4⟩⟩
end
end Pyx

namespace Pyx
open PySem L2
section
variable {P : Prg} {ix : Nat → Nat} {d : Nat} {h : PH} {Q : PV → PH → Prop}
def Cut (f : List Int) (m : Nat) : Prop := 1 ≤ m ∧ m ≤ f.length ∧ f.getD (m - 1) 0 ≠ 0 ∧ ∀ j, m ≤ j → f.getD j 0 = 0
end
end Pyx

namespace Pyx
open PySem L2
theorem getD_set (f : List Int) (k : Nat) (x : Int) (m : Nat) : (f.set k x).getD m 0 = if k = m ∧ m < f.length then x else f.getD m 0 := by
  rw [List.getD_eq_getElem?_getD, List.getD_eq_getElem?_getD, List.getElem?_set]
  by_cases e : k = m
  · rw [if_pos e]
    by_cases z : k < f.length
    · rw [if_pos z, if_pos ⟨e, by omega⟩]; rfl
    · rw [if_neg z, if_neg (by omega), List.getElem?_eq_none (by omega)]
  · rw [if_neg e, if_neg (by omega)]
theorem addAt_at (f : List Int) (k : Nat) (x : Int) (m : Nat) (hk : k < f.length) : (addAt f k x).getD m 0 = f.getD m 0 + (if k = m then x else 0) := by
  unfold addAt
  rw [getD_set]
  by_cases e : k = m
  · subst e
    rw [if_pos ⟨rfl, hk⟩, if_pos rfl]
  · rw [if_neg (by omega), if_neg e]
    omega
theorem mulI_at {f : List Int} {k : Nat} {a : Int} {bs : List Int} (m : Nat) : ∀ j, k + j ≤ f.length → (mulI f k a bs j).getD m 0 = f.getD m 0 + (if k ≤ m ∧ m < k + j then a * bs.getD (m - k) 0 else 0)
  | 0, _ => by
    rw [if_neg (by omega)]
    show f.getD m 0 = _
    omega
  | j + 1, h => by
    show (addAt (mulI f k a bs j) (k + j) (a * bs.getD j 0)).getD m 0 = _
    rw [addAt_at _ _ _ _ (by rw [mulI_len]; omega), mulI_at m j (by omega)]
    by_cases e : k + j = m
    · subst e
      rw [if_neg (by omega), if_pos rfl, if_pos (by omega), show k + j - k = j by omega]
      omega
    · rw [if_neg e]
      by_cases z : k ≤ m ∧ m < k + j
      · rw [if_pos z, if_pos (by omega)]
        omega
      · rw [if_neg z, if_neg (by omega)]
        omega
def cvN (as bs : List Int) (m : Nat) : Nat → Int
  | 0 => 0
  | i + 1 => cvN as bs m i + (if i ≤ m then as.getD i 0 * bs.getD (m - i) 0 else 0)
theorem mulO_at {f as bs : List Int} (m : Nat) : ∀ k, k + bs.length ≤ f.length + 1 → (mulO f as bs k).getD m 0 = f.getD m 0 + cvN as bs m k
  | 0, _ => by
    show f.getD m 0 = f.getD m 0 + 0
    omega
  | k + 1, h => by
    show (mulI (mulO f as bs k) k (as.getD k 0) bs bs.length).getD m 0 = f.getD m 0 + (cvN as bs m k + _)
    rw [mulI_at m _ (by rw [mulO_len]; omega), mulO_at m k (by omega)]
    by_cases e : k ≤ m
    · rw [if_pos e]
      by_cases z : m < k + bs.length
      · rw [if_pos ⟨e, z⟩]
        omega
      · rw [if_neg (by omega), getD_zero (a := bs) (k := m - k) (by omega), Int.mul_zero]
        omega
    · rw [if_neg e, if_neg (by omega)]
      omega
theorem rep_at (n m : Nat) : (List.replicate n (0 : Int)).getD m 0 = 0 := by
  rw [List.getD_eq_getElem?_getD, List.getElem?_replicate]
  by_cases z : m < n
  · rw [if_pos z]; rfl
  · rw [if_neg z]; rfl
theorem mulP_at {as bs : List Int} (hb : bs ≠ []) (m : Nat) : (mulP as bs).getD m 0 = cvN as bs m as.length := by
  unfold mulP
  have : 1 ≤ bs.length := by cases bs with | nil => exact absurd rfl hb | cons _ _ => rw [List.length_cons]; omega
  rw [mulO_at m _ (by rw [List.length_replicate]; omega), rep_at]
  omega
structure Top (f : List Int) (d : Nat) (v : Int) : Prop where
  at_d : f.getD d 0 = v
  over : ∀ j, d < j → f.getD j 0 = 0
theorem Top.len {f : List Int} {d : Nat} {v : Int} (a : Top f d v) (hv : v ≠ 0) : d < f.length := Classical.byContradiction fun z => hv (a.at_d.symm.trans (getD_zero (by omega)))
theorem cv_after {as bs : List Int} {a b m : Nat} {u v : Int} (A : Top as a u) (B : Top bs b v) (hm : a + b ≤ m) : ∀ i, cvN as bs m i = if a < i ∧ m = a + b then u * v else 0
  | 0 => by
    rw [if_neg (by omega)]; rfl
  | i + 1 => by
    show cvN as bs m i + _ = _
    rw [cv_after A B hm i]
    by_cases q : i < a
    · have z0 : (if i ≤ m then as.getD i 0 * bs.getD (m - i) 0 else 0) = 0 := by
        by_cases q2 : i ≤ m
        · rw [if_pos q2, B.over (m - i) (by omega), Int.mul_zero]
        · rw [if_neg q2]
      rw [z0, if_neg (by omega), if_neg (by omega)]
      rfl
    · by_cases q1 : i = a
      · subst q1
        rw [if_neg (by omega), if_pos (by omega), A.at_d]
        by_cases q2 : m = i + b
        · rw [if_pos ⟨by omega, q2⟩, q2, show i + b - i = b by omega, B.at_d]
          omega
        · rw [if_neg (by omega), B.over (m - i) (by omega), Int.mul_zero]
          rfl
      · have z0 : (if i ≤ m then as.getD i 0 * bs.getD (m - i) 0 else 0) = 0 := by
          rw [A.over i (by omega), Int.zero_mul, ite_self]
        rw [z0]
        by_cases q2 : m = a + b
        · rw [if_pos ⟨by omega, q2⟩, if_pos ⟨by omega, q2⟩]
          omega
        · rw [if_neg (by omega), if_neg (by omega)]
          rfl
theorem Top.mul {as bs : List Int} {a b : Nat} {u v : Int} (A : Top as a u) (B : Top bs b v) (hu : u ≠ 0) (hv : v ≠ 0) : Top (mulP as bs) (a + b) (u * v) := by
  have la := A.len hu
  have lb := B.len hv
  have hb : bs ≠ [] := fun z => by rw [z] at lb; exact absurd lb (Nat.not_lt_zero _)
  refine ⟨?_, fun j hj => ?_⟩
  · rw [mulP_at hb, cv_after A B (Nat.le_refl _), if_pos ⟨la, rfl⟩]
  · rw [mulP_at hb, cv_after A B (by omega), if_neg (by omega)]
theorem Top.add {f g : List Int} {d : Nat} {u v : Int} (A : Top f d u) (B : Top g d v) : Top (addP f g) d (u + v) :=
  ⟨by rw [addP_at, A.at_d, B.at_d], fun j hj => by rw [addP_at, A.over j hj, B.over j hj]; rfl⟩
theorem Top.cons {f : List Int} {d : Nat} {u : Int} (A : Top f d u) : Top (0 :: f) (d + 1) u := by
  refine ⟨by rw [List.getD_cons_succ, A.at_d], fun j hj => ?_⟩
  cases j with
  | zero => omega
  | succ j => rw [List.getD_cons_succ, A.over j (by omega)]
theorem Top.up {f : List Int} {d e : Nat} {u : Int} (A : Top f d u) (h : d < e) : Top f e 0 := ⟨A.over e h, fun j hj => A.over j (by omega)⟩
end Pyx

namespace Pyx
open PySem L2
end Pyx

namespace Pyx
open PySem L2
section
variable {P : Prg} {ix : Nat → Nat} {d : Nat} {h : PH} {Q : PV → PH → Prop}
theorem Top.cut {f : List Int} {d m : Nat} {v : Int} (T : Top f d v) (hv : v ≠ 0) (C : Cut f m) : m = d + 1 := by
  obtain ⟨c1, c2, c3, c4⟩ := C
  by_cases z : d < m - 1
  · exact absurd (T.over _ z) c3
  · by_cases z2 : m - 1 < d
    · exact absurd (T.at_d.symm.trans (c4 d (by omega))) hv
    · omega
theorem Top.some {f : List Int} {d : Nat} {v : Int} (T : Top f d v) (hv : v ≠ 0) : ∃ j, f.getD j 0 ≠ 0 := ⟨d, fun z => hv (T.at_d.symm.trans z)⟩
end
end Pyx

namespace Pyx
open PySem L2
def LEc (f g : List Int) : Prop := ∀ k, 0 ≤ f.getD k 0 ∧ f.getD k 0 ≤ g.getD k 0
theorem cvN_le {as bs cs ds : List Int} (A : LEc as cs) (B : LEc bs ds) (m : Nat) : ∀ i, 0 ≤ cvN as bs m i ∧ cvN as bs m i ≤ cvN cs ds m i
  | 0 => ⟨Int.le_refl _, Int.le_refl _⟩
  | i + 1 => by
    have ih := cvN_le A B m i
    show 0 ≤ cvN as bs m i + _ ∧ cvN as bs m i + _ ≤ cvN cs ds m i + _
    by_cases z : i ≤ m
    · rw [if_pos z, if_pos z]
      have a := A i
      have b := B (m - i)
      have c := Int.mul_nonneg a.1 b.1
      have d := Int.mul_le_mul a.2 b.2 b.1 (by omega)
      omega
    · rw [if_neg z, if_neg z]
      omega
theorem cvN_long {as bs : List Int} (m : Nat) : ∀ i, as.length ≤ i → cvN as bs m i = cvN as bs m as.length
  | 0, h => by rw [show as.length = 0 by omega]
  | i + 1, h => by
    by_cases z : as.length = i + 1
    · rw [z]
    · show cvN as bs m i + _ = _
      rw [cvN_long m i (by omega), getD_zero (a := as) (k := i) (by omega), Int.zero_mul, ite_self]
      omega
theorem LEc.mul {as bs cs ds : List Int} (A : LEc as cs) (B : LEc bs ds) (hb : bs ≠ []) (hd : ds ≠ []) : LEc (mulP as bs) (mulP cs ds) := fun m => by
  rw [mulP_at hb, mulP_at hd]
  have h := cvN_le A B m (max as.length cs.length)
  rw [cvN_long m _ (Nat.le_max_left ..), cvN_long m _ (Nat.le_max_right ..)] at h
  exact h
theorem LEc.refl {f g : List Int} (h : LEc f g) : LEc f f := fun k => ⟨(h k).1, Int.le_refl _⟩
theorem LEc.top {f g : List Int} (h : LEc f g) : LEc g g := fun k => ⟨Int.le_trans (h k).1 (h k).2, Int.le_refl _⟩
end Pyx

namespace Pyx
open PySem L2
section
variable {P : Prg} {ix : Nat → Nat} {d : Nat} {h : PH} {Q : PV → PH → Prop}
end
end Pyx

namespace Pyx
open PySem L2
end Pyx

namespace Pyx
open PySem L2
theorem Top.nil {f : List Int} {d : Nat} {v : Int} (T : Top f d v) : ∀ j, d + 1 ≤ j → f.getD j 0 = 0 := fun j hj => T.over j (by omega)
section
variable {P : Prg} {ix : Nat → Nat} {d : Nat} {h : PH} {Q : PV → PH → Prop}
end
end Pyx

namespace Pyx
open PySem L2
structure Cutk (L M : Ln) (k : Int) (a : Nat) : Prop where
  many : M.many = L.many
  rd : ∀ j : Int, M.rd j ↔ L.rd j ∧ ∀ d : Int, -(a : Int) ≤ d → d ≤ a → ¬ (j - (k + d)) % (L.many : Int) = 0
theorem small_mod {n x : Int} (h1 : 0 < x) (h2 : x < n) : ¬ x % n = 0 := by
  rw [Int.emod_eq_of_lt (by omega) h2]
  omega
theorem mod_same {n x y : Int} (h : (x - y) % n = 0) : x % n = y % n := Int.emod_emod_of_dvd x (Int.dvd_refl n) ▸ by
  have := Int.emod_emod_of_dvd x (Int.dvd_refl n)
  have e := (Int.emod_eq_emod_iff_emod_sub_eq_zero (m := x) (n := n) (k := y)).mpr h
  rw [this]
  exact e
theorem same_mod {n x y : Int} (h : x % n = y % n) : (x - y) % n = 0 := (Int.emod_eq_emod_iff_emod_sub_eq_zero (m := x) (n := n) (k := y)).mp h
section
variable {L M : Ln} (h0 : 1 ≤ L.many) (hS : ¬ L.Swing) {k : Int} {a s i : Nat} (C : Cutk L M k a) (ha : a ≤ 1) (hs : s ∈ L.sts) (hi : i < L.rl L.many (s : Int)) (ek : k % (L.many : Int) = ((s : Int) + (i : Nat)) % (L.many : Int))
include h0 hS C ha hs hi ek
end
end Pyx

namespace Pyx
open PySem L2
theorem rd_three {L : Ln} (G : Good1 L) {k : Int} (r : L.rd k) : 3 ≤ L.many := by
  have h0 := G.one
  cases hr : L.ring with
  | true => exact G.three hr
  | false =>
    obtain ⟨j, hj, e⟩ := rd_nat h0 r
    have hj2 := Ln.readyN_mem.mp hj
    have := row_rd hr hj2.1 hj2.2
    omega
theorem toNat_mod {n : Nat} (h0 : 1 ≤ n) {j : Int} {k : Nat} (hk : k < n) : (j % (n : Int)).toNat = k ↔ (j - (k : Int)) % (n : Int) = 0 := by
  have n0 := Int.emod_nonneg j (by omega : (n : Int) ≠ 0)
  constructor
  · intro e
    refine same_mod ?_
    rw [Int.emod_eq_of_lt (a := (k : Int)) (by omega) (by omega)]
    omega
  · intro e
    have := mod_same e
    rw [Int.emod_eq_of_lt (a := (k : Int)) (by omega) (by omega)] at this
    omega
theorem one_cut {L : Ln} (G : Good1 L) {k : Nat} (hk : k < L.many) (r : L.rd (k : Int)) : Cutk L (L.one k) (k : Int) 1 := by
  have h0 := G.one
  have h3 := rd_three G r
  have at' : ∀ x : Int, (L.one k).at x = if (x - (k : Int)) % (L.many : Int) = 0 then L.at ((k : Int) - 1) else L.at x := fun x => by
    rw [Ln.one_at hk]
    by_cases z : (x - (k : Int)) % (L.many : Int) = 0
    · rw [if_pos z, if_pos ((toNat_mod h0 hk).mpr z)]
    · rw [if_neg z, if_neg fun y => z ((toNat_mod h0 hk).mp y)]
  have hI : (L.one k).heldI = L.heldI := heldI_same Ln.one_many rfl rfl
  have cong : ∀ {x : Int} {c : Int}, (x - ((k : Int) + c)) % (L.many : Int) = 0 → L.at x = L.at ((k : Int) + c) := fun h => Ln.at_congr (mod_same h)
  refine ⟨Ln.one_many, fun j => ?_⟩
  unfold Ln.rd
  rw [hI, Ln.one_many, at', at', at']
  by_cases z0 : (j - (k : Int)) % (L.many : Int) = 0
  · -- the cell itself
    rw [if_pos z0, if_neg (fun y => small_mod (n := L.many) (x := 1) (by omega) (by omega) (by
      have := Int.sub_emod (j - (k : Int)) (j - 1 - (k : Int)) (L.many : Int)
      rw [z0, y, show j - (k : Int) - (j - 1 - (k : Int)) = 1 by omega] at this
      rw [this]; rfl)), if_neg (fun y => small_mod (n := L.many) (x := 1) (by omega) (by omega) (by
      have := Int.sub_emod (j + 1 - (k : Int)) (j - (k : Int)) (L.many : Int)
      rw [z0, y, show j + 1 - (k : Int) - (j - (k : Int)) = 1 by omega] at this
      rw [this]; rfl))]
    constructor
    · rintro ⟨_, _, a⟩
      refine absurd ?_ a
      have e := Ln.at_congr (mod_same (x := j + 1) (y := (k : Int) + 1) (n := L.many) (by rw [← z0]; congr 1; omega))
      rw [e]
      exact r.2.1.symm
    · rintro ⟨_, a⟩
      exact absurd (by rw [← z0]; congr 1; omega) (a 0 (by omega) (by omega))
  · by_cases z1 : (j - 1 - (k : Int)) % (L.many : Int) = 0
    · -- the cell behind
      rw [if_pos z1, if_neg z0]
      constructor
      · rintro ⟨_, a, b⟩
        refine absurd ?_ b
        rw [← a, r.2.1]
        exact (Ln.at_congr (mod_same (x := j) (y := (k : Int) + 1) (by rw [← z1]; congr 1; omega))).symm
      · rintro ⟨_, a⟩
        exact absurd (by rw [← z1]; congr 1; omega) (a 1 (by omega) (by omega))
    · by_cases z2 : (j + 1 - (k : Int)) % (L.many : Int) = 0
      · -- the cell before
        rw [if_pos z2, if_neg z0]
        constructor
        · rintro ⟨_, a, b⟩
          refine absurd ?_ b
          exact (Ln.at_congr (mod_same (x := j) (y := (k : Int) - 1) (by rw [← z2]; congr 1; omega))).symm
        · rintro ⟨_, a⟩
          exact absurd (by rw [← z2]; congr 1; omega) (a (-1) (by omega) (by omega))
      · rw [if_neg z0, if_neg z1, if_neg z2]
        refine (and_iff_left fun d d1 d2 y => ?_).symm
        have : d = 0 ∨ d = 1 ∨ d = -1 := by omega
        rcases this with e | e | e
        · subst e; exact z0 (by rw [← y, Int.add_zero])
        · subst e; exact z1 (by rw [← y]; congr 1; omega)
        · subst e; exact z2 (by rw [← y]; congr 1; omega)
end Pyx

namespace Pyx
open PySem L2
section
variable {P : Prg}
end
end Pyx

namespace Pyx
open PySem L2
section
variable {P : Prg} {ix : Nat → Nat} {d : Nat} {h : PH} {Q : PV → PH → Prop}
end
end Pyx

namespace Pyx
open PySem L2
section
variable {L : Ln} (G : Good1 L)
include G
end
end Pyx

namespace Pyx
open PySem L2
section
variable {h : PH}
end
theorem putG_keys {k : List Int} {v : PV} : ∀ kvs : List (List Int × PV), (putG k v kvs).map Prod.fst = if k ∈ kvs.map Prod.fst then kvs.map Prod.fst else kvs.map Prod.fst ++ [k]
  | [] => rfl
  | r :: kvs => by
    by_cases e : r.1 = k
    · have e1 : putG k v (r :: kvs) = (r.1, v) :: kvs := by
        show (match decide (r.1 = k) with | true => (r.1, v) :: kvs | false => r :: putG k v kvs) = _
        rw [decide_eq_true e]
      rw [e1, List.map_cons, List.map_cons, if_pos (by rw [e]; exact List.mem_cons_self ..)]
    · have e1 : putG k v (r :: kvs) = r :: putG k v kvs := by
        show (match decide (r.1 = k) with | true => (r.1, v) :: kvs | false => r :: putG k v kvs) = _
        rw [decide_eq_false e]
      rw [e1, List.map_cons, List.map_cons, putG_keys kvs]
      by_cases z : k ∈ kvs.map Prod.fst
      · rw [if_pos z, if_pos (List.mem_cons_of_mem _ z)]
      · rw [if_neg z, if_neg fun y => by
          rcases List.mem_cons.mp y with q | q
          · exact e q.symm
          · exact z q]
        rfl
structure Memo (T : List Int → Prop) (V : List Int → PV → Prop) (kvs : List (List Int × PV)) : Prop where
  nodup : (kvs.map Prod.fst).Nodup
  key : ∀ k ∈ kvs.map Prod.fst, T k
  val : ∀ k v, valG k kvs = some v → V k v
theorem Memo.nil {T : List Int → Prop} {V : List Int → PV → Prop} : Memo T V [] := ⟨List.nodup_nil, (fun k h => nomatch h), (fun k v h => nomatch (h : (none : Option PV) = some v))⟩
theorem Memo.put {T : List Int → Prop} {V : List Int → PV → Prop} {kvs : List (List Int × PV)} (m : Memo T V kvs) {k : List Int} {v : PV} (ht : T k) (hv : V k v) : Memo T V (putG k v kvs) := by
  refine ⟨?_, fun j hj => ?_, fun j u hu => ?_⟩
  · rw [putG_keys]
    split
    · exact m.nodup
    · rename_i z
      exact List.nodup_append.mpr ⟨m.nodup, by simp, fun x hx y hy e => z (by rw [List.mem_singleton.mp hy] at e; exact e ▸ hx)⟩
  · rw [putG_keys] at hj
    split at hj
    · exact m.key j hj
    · rcases List.mem_append.mp hj with z | z
      · exact m.key j z
      · rw [List.mem_singleton.mp z]
        exact ht
  · rw [valG_putG] at hu
    by_cases e : k = j
    · rw [if_pos e] at hu
      cases hu
      exact e ▸ hv
    · rw [if_neg e] at hu
      exact m.val j u hu
structure Sub (L M : Ln) : Prop where
  good : Good1 M
  many : M.many = L.many
  held : M.held = L.held
  ring : M.ring = L.ring
  at' : ∀ k : Int, M.at k = L.at k ∨ (M.at k = L.at (k - 1) ∧ ¬ M.rd (k - 1) ∧ ¬ M.rd k ∧ ¬ M.rd (k + 1))
theorem Sub.refl {L : Ln} (G : Good1 L) : Sub L L := ⟨G, rfl, rfl, rfl, fun _ => .inl rfl⟩
theorem Sub.one {L M : Ln} (S : Sub L M) {k : Nat} (hk : k ∈ M.readyN) : Sub L (M.one k) := by
  obtain ⟨k1, k2⟩ := Ln.readyN_mem.mp hk
  have C := one_cut S.good k1 k2
  have h0 := S.good.one
  refine ⟨Ln.one_good S.good k, Ln.one_many.trans S.many, S.held, S.ring, fun j => ?_⟩
  have no : ∀ {x : Int}, ¬ M.rd x → ¬ (M.one k).rd x := fun n z => n ((C.rd _).mp z).1
  rw [Ln.one_at k1]
  by_cases e : (j % (M.many : Int)).toNat = k
  · have ej := (toNat_mod h0 k1).mp e
    rw [if_pos e]
    refine .inr ⟨?_, fun z => ((C.rd _).mp z).2 (-1) (by omega) (by omega) (by rw [← ej]; congr 1; omega), fun z => ((C.rd _).mp z).2 0 (by omega) (by omega) (by rw [Int.add_zero]; exact ej), fun z => ((C.rd _).mp z).2 1 (by omega) (by omega) (by rw [← ej]; congr 1; omega)⟩
    have e1 : L.at (j - 1) = L.at ((k : Int) - 1) := Ln.at_congr (by rw [← S.many]; exact mod_same (by rw [← ej]; congr 1; omega))
    rw [e1]
    rcases S.at' ((k : Int) - 1) with q | ⟨_, _, _, q⟩
    · exact q
    · rw [show (k : Int) - 1 + 1 = k by omega] at q
      exact absurd k2 q
  · rw [if_neg e]
    rcases S.at' j with q | ⟨q1, q2, q3, q4⟩
    · exact .inl q
    · exact .inr ⟨q1, no q2, no q3, no q4⟩
end Pyx

namespace Pyx
open PySem L2
section
variable {h : PH}
theorem Le.dict {D : Nat} {kvs kvs' : List (List Int × PV)} (w : Wf h) (e : h.get D = some (.dT kvs)) : Le (some D) h (h.set D (.dT kvs')) := by
  have nr : ¬ RowAt h D := fun ⟨_, _, _, _, _, z, _⟩ => by rw [e] at z; cases z
  refine ⟨wf_set w, Nat.le_refl _, fun i o ne g => ?_, fun i z r => ?_⟩
  · exact get_of_set w e g fun y => ne (by rw [y])
  · cases z
    exact absurd r nr
end
end Pyx

namespace Pyx
open PySem L2
structure Mir (L M : Ln) : Prop where
  many : M.many = L.many
  at' : ∀ k : Int, M.at k = L.at ((L.many : Int) - 1 - k)
  rd : ∀ k : Int, M.rd k ↔ L.rd ((L.many : Int) - 1 - k)
section
variable {L M : Ln} (h0 : 1 ≤ L.many) (X : Mir L M)
include h0 X
end
theorem Mir.symm {L M : Ln} (X : Mir L M) : Mir M L := by
  refine ⟨X.many.symm, fun k => ?_, fun k => ?_⟩
  · rw [X.at', X.many]
    congr 1
    omega
  · rw [X.rd, X.many, show (L.many : Int) - 1 - ((L.many : Int) - 1 - k) = k by omega]
end Pyx

namespace Pyx
open PySem L2
end Pyx

namespace Pyx
open PySem L2
structure Jn (A B J : Ln) : Prop where
  many : J.many = A.many + B.many
  atA : ∀ k : Nat, k < A.many → J.at (k : Int) = A.at (k : Int)
  atB : ∀ k : Nat, k < B.many → J.at ((A.many + k : Nat) : Int) = B.at (k : Int)
  rdA : ∀ k : Nat, k < A.many → (J.rd (k : Int) ↔ A.rd (k : Int))
  rdB : ∀ k : Nat, k < B.many → (J.rd ((A.many + k : Nat) : Int) ↔ B.rd (k : Int))
  inA : ∀ k : Nat, k < A.many → A.rd (k : Int) → 1 ≤ k ∧ k + 1 < A.many
  inB : ∀ k : Nat, k < B.many → B.rd (k : Int) → 1 ≤ k ∧ k + 1 < B.many
section
variable {A B J : Ln} (a0 : 1 ≤ A.many) (b0 : 1 ≤ B.many)
include a0 b0
theorem Jn.stp (X : Jn A B J) : Jn A.stp B.stp J.stp := by
  have j0 : 1 ≤ J.many := by rw [X.many]; omega
  refine ⟨by rw [Ln.stp_many, Ln.stp_many, Ln.stp_many]; exact X.many, fun k hk => ?_, fun k hk => ?_, fun k hk => ?_, fun k hk => ?_, fun k hk r => ?_, fun k hk r => ?_⟩
  · rw [Ln.stp_many] at hk
    rw [Ln.stp_at j0, Ln.stp_at a0]
    by_cases z : A.rd (k : Int)
    · have := X.inA k hk z
      rw [if_pos ((X.rdA k hk).mpr z), if_pos z, show (k : Int) - 1 = ((k - 1 : Nat) : Int) by omega, X.atA _ (by omega)]
    · rw [if_neg fun y => z ((X.rdA k hk).mp y), if_neg z, X.atA k hk]
  · rw [Ln.stp_many] at hk
    rw [Ln.stp_many, Ln.stp_at j0, Ln.stp_at b0]
    by_cases z : B.rd (k : Int)
    · have := X.inB k hk z
      rw [if_pos ((X.rdB k hk).mpr z), if_pos z, show ((A.many + k : Nat) : Int) - 1 = ((A.many + (k - 1) : Nat) : Int) by omega, X.atB _ (by omega), show (k : Int) - 1 = ((k - 1 : Nat) : Int) by omega]
    · rw [if_neg fun y => z ((X.rdB k hk).mp y), if_neg z, X.atB k hk]
  · rw [Ln.stp_many] at hk
    rw [Ln.rd_stp j0, Ln.rd_stp a0]
    constructor
    · rintro ⟨p, q, r⟩
      have q2 := (X.rdA k hk).mp q
      have := X.inA k hk q2
      rw [show (k : Int) - 1 = ((k - 1 : Nat) : Int) by omega] at p ⊢
      rw [show (k : Int) + 1 = ((k + 1 : Nat) : Int) by omega] at r ⊢
      exact ⟨(X.rdA _ (by omega)).mp p, q2, (X.rdA _ (by omega)).mp r⟩
    · rintro ⟨p, q, r⟩
      have := X.inA k hk q
      rw [show (k : Int) - 1 = ((k - 1 : Nat) : Int) by omega] at p ⊢
      rw [show (k : Int) + 1 = ((k + 1 : Nat) : Int) by omega] at r ⊢
      exact ⟨(X.rdA _ (by omega)).mpr p, (X.rdA k hk).mpr q, (X.rdA _ (by omega)).mpr r⟩
  · rw [Ln.stp_many] at hk
    rw [Ln.stp_many, Ln.rd_stp j0, Ln.rd_stp b0]
    constructor
    · rintro ⟨p, q, r⟩
      have q2 := (X.rdB k hk).mp q
      have := X.inB k hk q2
      rw [show ((A.many + k : Nat) : Int) - 1 = ((A.many + (k - 1) : Nat) : Int) by omega] at p
      rw [show ((A.many + k : Nat) : Int) + 1 = ((A.many + (k + 1) : Nat) : Int) by omega] at r
      rw [show (k : Int) - 1 = ((k - 1 : Nat) : Int) by omega, show (k : Int) + 1 = ((k + 1 : Nat) : Int) by omega]
      exact ⟨(X.rdB _ (by omega)).mp p, q2, (X.rdB _ (by omega)).mp r⟩
    · rintro ⟨p, q, r⟩
      have := X.inB k hk q
      rw [show (k : Int) - 1 = ((k - 1 : Nat) : Int) by omega] at p
      rw [show (k : Int) + 1 = ((k + 1 : Nat) : Int) by omega] at r
      rw [show ((A.many + k : Nat) : Int) - 1 = ((A.many + (k - 1) : Nat) : Int) by omega, show ((A.many + k : Nat) : Int) + 1 = ((A.many + (k + 1) : Nat) : Int) by omega]
      exact ⟨(X.rdB _ (by omega)).mpr p, (X.rdB k hk).mpr q, (X.rdB _ (by omega)).mpr r⟩
  · rw [Ln.stp_many] at hk ⊢
    exact X.inA k hk ((Ln.rd_stp a0 _).mp r).2.1
  · rw [Ln.stp_many] at hk ⊢
    exact X.inB k hk ((Ln.rd_stp b0 _).mp r).2.1
theorem Jn.aft (X : Jn A B J) : ∀ t : Nat, Jn (A.aft t) (B.aft t) (J.aft t)
  | 0 => X
  | t + 1 => (X.aft t).stp (by rw [Ln.aft_many]; exact a0) (by rw [Ln.aft_many]; exact b0)
theorem Jn.cells (X : Jn A B J) : J.cells = A.cells ++ B.cells := by
  have l1 : J.cells.length = A.many + B.many := X.many
  have l2 : A.cells.length = A.many := rfl
  have l3 : B.cells.length = B.many := rfl
  refine List.ext_getElem (by rw [List.length_append, l1, l2, l3]) fun k h1 h2 => ?_
  have e : ∀ {l : List Int} {i : Nat} (h : i < l.length), l[i] = l.getD i 0 := fun h => by rw [List.getD_eq_getElem?_getD, List.getElem?_eq_getElem h]; rfl
  rw [e h1, cell_at (by rw [X.many]; omega)]
  by_cases z : k < A.many
  · rw [List.getElem_append_left (by omega), e (by omega), cell_at z, X.atA k z]
  · rw [List.getElem_append_right (by omega), e (by omega), cell_at (L := B) (by omega)]
    have := X.atB (k - A.many) (by omega)
    rw [show A.many + (k - A.many) = k by omega] at this
    rw [this, l2]
end
end Pyx

namespace Pyx
open PySem L2
section
variable {A B J : Ln} (a0 : 1 ≤ A.many) (b0 : 1 ≤ B.many) (X : Jn A B J)
include a0 b0 X
theorem Jn.dpA {k : Nat} (hk : k < A.many) : ∀ t : Nat, J.dp t (k : Int) = A.dp t (k : Int)
  | 0 => rfl
  | t + 1 => by
    show J.dp t _ + (if (J.aft t).rd _ then 1 else 0) = A.dp t _ + (if (A.aft t).rd _ then 1 else 0)
    have := (X.aft a0 b0 t).rdA k (by rw [Ln.aft_many]; exact hk)
    rw [Jn.dpA hk t]
    by_cases z : (A.aft t).rd (k : Int)
    · rw [if_pos z, if_pos (this.mpr z)]
    · rw [if_neg z, if_neg fun y => z (this.mp y)]
theorem Jn.dpB {k : Nat} (hk : k < B.many) : ∀ t : Nat, J.dp t ((A.many + k : Nat) : Int) = B.dp t (k : Int)
  | 0 => rfl
  | t + 1 => by
    show J.dp t _ + (if (J.aft t).rd _ then 1 else 0) = B.dp t _ + (if (B.aft t).rd _ then 1 else 0)
    have := (X.aft a0 b0 t).rdB k (by rw [Ln.aft_many]; exact hk)
    rw [Ln.aft_many] at this
    rw [Jn.dpB hk t]
    by_cases z : (B.aft t).rd (k : Int)
    · rw [if_pos z, if_pos (this.mpr z)]
    · rw [if_neg z, if_neg fun y => z (this.mp y)]
theorem Jn.top (sA : ¬ A.Swing) (sB : ¬ B.Swing) : J.top = if B.top > A.top then B.top else A.top := by
  have j0 : 1 ≤ J.many := by rw [X.many]; omega
  have la : ∀ k : Nat, k < A.many → ((J.dp J.many (k : Int) : Nat) : Int) = ((A.dp A.many (k : Int) : Nat) : Int) := fun k hk => by
    rw [X.dpA a0 b0 hk, Ln.dp_of a0 sA]
    have := Ln.dp_le (L := A) (k : Int) A.many
    rw [Nat.min_eq_right (by rw [X.many]; omega)]
  have lb : ∀ k : Nat, k < B.many → ((J.dp J.many ((A.many + k : Nat) : Int) : Nat) : Int) = ((B.dp B.many (k : Int) : Nat) : Int) := fun k hk => by
    rw [X.dpB a0 b0 hk, Ln.dp_of b0 sB]
    have := Ln.dp_le (L := B) (k : Int) B.many
    rw [Nat.min_eq_right (by rw [X.many]; omega)]
  obtain ⟨j, hj, ej⟩ := top_at j0
  obtain ⟨p, hp, ep⟩ := top_at a0
  obtain ⟨q, hq, eq⟩ := top_at b0
  have h1 := top_le j0 (j := p) (by rw [X.many]; omega)
  have h2 := top_le j0 (j := A.many + q) (by rw [X.many]; omega)
  rw [la p hp] at h1
  rw [lb q hq] at h2
  have h3 : J.top ≤ A.top ∨ J.top ≤ B.top := by
    by_cases z : j < A.many
    · rw [la j z] at ej
      have := top_le a0 z
      exact .inl (by omega)
    · have hb : j - A.many < B.many := by rw [X.many] at hj; omega
      have e := lb (j - A.many) hb
      rw [show A.many + (j - A.many) = j by omega] at e
      rw [e] at ej
      have := top_le b0 hb
      exact .inr (by omega)
  split <;> omega
theorem Jn.rest (sA : ¬ A.Swing) (sB : ¬ B.Swing) : (J.aft J.many).cells = (A.aft A.many).cells ++ (B.aft B.many).cells := by
  have := (X.aft a0 b0 J.many).cells (by rw [Ln.aft_many]; exact a0) (by rw [Ln.aft_many]; exact b0)
  rw [this, aft_rest a0 sA (t := J.many) (by rw [X.many]; omega), aft_rest b0 sB (t := J.many) (by rw [X.many]; omega)]
end
end Pyx

namespace Pyx
open PySem L2
section
variable {P : Prg} {ix : Nat → Nat} {d : Nat} {h : PH} {Q : PV → PH → Prop}
end
end Pyx

namespace Pyx
open PySem L2
section
variable {L : Ln} (G : Good1 L) (hr : L.ring = true) {b : Nat} (hb : b < L.many)
include G hr hb
end
end Pyx

namespace Pyx
end Pyx

namespace Pyx
open PySem L2
def Ln.wc (L : Ln) (X : List Int) : Ln := ⟨X, L.held, L.ring⟩
structure Tc (L : Ln) (X : List Int) : Prop where
  len : X.length = L.many
  ok : ∀ j : Int, (L.wc X).at j = L.at j ∨ (L.rd j ∧ (L.wc X).at j = L.at (j - 1))
  ap : ∀ j : Int, (L.wc X).at j = L.at j ∨ (L.wc X).at (j + 1) = L.at (j + 1)
section
variable {L : Ln} {X Y : List Int}
theorem wc_many (hl : X.length = L.many) : (L.wc X).many = L.many := hl
theorem nat_of {n : Nat} (h0 : 1 ≤ n) (j : Int) : ∃ k : Nat, k < n ∧ (k : Int) = j % (n : Int) := by
  have n0 := Int.emod_nonneg j (by omega : (n : Int) ≠ 0)
  have n1 := Int.emod_lt_of_pos j (by omega : (0 : Int) < n)
  exact ⟨(j % (n : Int)).toNat, by omega, Int.toNat_of_nonneg n0⟩
theorem chd_mem (hl : X.length = L.many) {k : Nat} : k ∈ L.chd X ↔ k < L.many ∧ ¬ (L.wc X).at (k : Int) = L.at (k : Int) := by
  unfold Ln.chd
  rw [List.mem_filter, List.mem_range, decide_eq_true_eq]
  refine and_congr_right fun hk => ?_
  rw [show X.getD k 0 = (L.wc X).at (k : Int) from cell_at (L := L.wc X) (by rw [wc_many hl]; exact hk)]
theorem Tc.good (T : Tc L X) (G : Good1 L) : Good1 (L.wc X) := by
  have wm : (L.wc X).many = L.many := wc_many T.len
  refine ⟨by rw [wm]; exact G.one, fun z => by rw [wm]; exact G.three z, by rw [wm]; exact G.most, fun c hc => ?_, G.srt, fun x hx => by rw [wm]; exact G.hin x hx⟩
  obtain ⟨k, hk, rfl⟩ := List.getElem_of_mem hc
  have e : (L.wc X).cells[k] = (L.wc X).at (k : Int) := (at_cells (L := L.wc X) hk).symm
  rw [e]
  rcases T.ok (k : Int) with q | ⟨_, q⟩
  · rw [q]; exact G.col _ (L.at_mem G.one _)
  · rw [q]; exact G.col _ (L.at_mem G.one _)
theorem wc_heldI (hl : X.length = L.many) : (L.wc X).heldI = L.heldI := heldI_same (wc_many hl) rfl rfl
theorem Tc.rd (T : Tc L X) (G : Good1 L) (j : Int) : (L.wc X).rd j ↔ L.rd j ∧ (L.wc X).at (j - 1) = L.at (j - 1) ∧ (L.wc X).at j = L.at j ∧ (L.wc X).at (j + 1) = L.at (j + 1) := by
  have wm : (L.wc X).many = L.many := wc_many T.len
  constructor
  · rintro ⟨r1, r2, r3⟩
    rw [wm, wc_heldI T.len] at r1
    have e0 : (L.wc X).at j = L.at j := by
      rcases T.ok j with q | ⟨q1, q2⟩
      · exact q
      · have nq : ¬ (L.wc X).at j = L.at j := by
          rw [q2]
          exact rd_ne q1
        rcases T.ap j with z | z
        · exact z
        · rw [z] at r2 r3
          rw [q2] at r3
          exact absurd q1.2.1.symm r3
    have e1 : (L.wc X).at (j + 1) = L.at (j + 1) := by
      rcases T.ok (j + 1) with q | ⟨q1, q2⟩
      · exact q
      · rw [show j + 1 - 1 = j by omega, ← e0] at q2
        exact absurd q2 r3
    have e2 : (L.wc X).at (j - 1) = L.at (j - 1) := by
      rcases T.ok (j - 1) with q | ⟨q1, q2⟩
      · exact q
      · have e3 : L.at (j - 1 - 1) = L.at j := by
          have := q1.2.1
          rw [show j - 1 + 1 = j by omega] at this
          exact this
        rw [e3, ← e0] at q2
        rw [q2] at r2
        exact absurd r2.symm r3
    refine ⟨⟨r1, ?_, ?_⟩, e2, e0, e1⟩
    · rw [← e2, ← e1]; exact r2
    · rw [← e0, ← e1]; exact r3
  · rintro ⟨⟨r1, r2, r3⟩, e2, e0, e1⟩
    refine ⟨by rw [wm, wc_heldI T.len]; exact r1, by rw [e2, e1]; exact r2, by rw [e1, e0]; exact r3⟩
theorem Tc.nil (h0 : 1 ≤ L.many) : Tc L L.cells := ⟨rfl, fun _ => .inl rfl, fun _ => .inl rfl⟩
theorem chd_nil : L.chd L.cells = [] := by
  unfold Ln.chd
  rw [List.filter_eq_nil_iff]
  intro k hk
  rw [List.mem_range] at hk
  rw [decide_eq_true_eq, cell_at hk]
  exact fun z => z rfl
theorem one_atz {M : Ln} {k : Nat} (h0 : 1 ≤ M.many) (hk : k < M.many) (x : Int) : (M.one k).at x = if (x - (k : Int)) % (M.many : Int) = 0 then M.at ((k : Int) - 1) else M.at x := by
  rw [Ln.one_at hk]
  by_cases z : (x - (k : Int)) % (M.many : Int) = 0
  · rw [if_pos z, if_pos ((toNat_mod h0 hk).mpr z)]
  · rw [if_neg z, if_neg fun y => z ((toNat_mod h0 hk).mp y)]
theorem wc_one {k : Nat} : (L.wc X).one k = L.wc ((L.wc X).one k).cells := rfl
theorem Tc.one (T : Tc L X) (G : Good1 L) {k : Nat} (hk : k < L.many) (r : (L.wc X).rd (k : Int)) : Tc L ((L.wc X).one k).cells := by
  have wm : (L.wc X).many = L.many := wc_many T.len
  have h0 := G.one
  have hk2 : k < (L.wc X).many := by rw [wm]; exact hk
  obtain ⟨r1, r2, r3, r4⟩ := (T.rd G _).mp r
  have at' : ∀ x : Int, (L.wc ((L.wc X).one k).cells).at x = if (x - (k : Int)) % (L.many : Int) = 0 then L.at ((k : Int) - 1) else (L.wc X).at x := fun x => by
    rw [← wc_one, one_atz (by rw [wm]; exact h0) hk2, wm, r2]
  have cg : ∀ {x c : Int}, (x - (k : Int)) % (L.many : Int) = 0 → (L.wc X).at (x + c) = (L.wc X).at ((k : Int) + c) ∧ L.at (x + c) = L.at ((k : Int) + c) := fun {x c} z => by
    have e : (x + c) % (L.many : Int) = ((k : Int) + c) % (L.many : Int) := mod_same (by rw [← z]; congr 1; omega)
    exact ⟨Ln.at_congr (by rw [wm]; exact e), Ln.at_congr e⟩
  refine ⟨?_, fun j => ?_, fun j => ?_⟩
  · show ((L.wc X).one k).many = L.many
    rw [Ln.one_many, wm]
  · rw [at']
    by_cases z : (j - (k : Int)) % (L.many : Int) = 0
    · rw [if_pos z]
      have q := (cg (x := j) (c := -1) z).2
      rw [← Int.sub_eq_add_neg, ← Int.sub_eq_add_neg] at q
      exact .inr ⟨(Ln.rd_congr (mod_same z)).mpr r1, q.symm⟩
    · rw [if_neg z]
      exact T.ok j
  · rw [at', at']
    by_cases z : (j - (k : Int)) % (L.many : Int) = 0
    · have q := cg (x := j) (c := 1) z
      right
      by_cases z2 : (j + 1 - (k : Int)) % (L.many : Int) = 0
      · have h3 := rd_three G r1
        exact absurd (by
          have := Int.sub_emod (j + 1 - (k : Int)) (j - (k : Int)) (L.many : Int)
          rw [z, z2, show j + 1 - (k : Int) - (j - (k : Int)) = 1 by omega] at this
          rw [this]; rfl) (small_mod (n := L.many) (x := 1) (by omega) (by omega))
      · rw [if_neg z2, q.1, q.2]
        exact r4
    · rw [if_neg z]
      by_cases z2 : (j + 1 - (k : Int)) % (L.many : Int) = 0
      · left
        have q := cg (x := j + 1) (c := -1) z2
        rw [show j + 1 + -1 = j by omega, ← Int.sub_eq_add_neg] at q
        rw [q.1, q.2]
        exact r2
      · rw [if_neg z2]
        exact T.ap j
theorem one_cells_at {M : Ln} {k i : Nat} (h0 : 1 ≤ M.many) (hk : k < M.many) (hi : i < M.many) : (M.one k).at (i : Int) = if i = k then M.at ((k : Int) - 1) else M.at (i : Int) := by
  rw [Ln.one_at hk, Int.emod_eq_of_lt (by omega) (by omega), Int.toNat_natCast]
def Ln.back (L : Ln) (Y : List Int) (k : Nat) : List Int := Y.set k (L.at (k : Int))
theorem back_at (T : Tc L Y) (h0 : 1 ≤ L.many) {k : Nat} (hk : k < L.many) (x : Int) : (L.wc (L.back Y k)).at x = if (x - (k : Int)) % (L.many : Int) = 0 then L.at (k : Int) else (L.wc Y).at x := by
  have bl : (L.back Y k).length = L.many := by rw [Ln.back, List.length_set, T.len]
  obtain ⟨i, hi, ei⟩ := nat_of h0 x
  have e1 : (L.wc (L.back Y k)).at x = (L.wc (L.back Y k)).at (i : Int) := Ln.at_congr (by rw [show (L.wc (L.back Y k)).many = L.many from bl, ei, Int.emod_emod_of_dvd _ (Int.dvd_refl _)])
  have e2 : (L.wc Y).at x = (L.wc Y).at (i : Int) := Ln.at_congr (by rw [show (L.wc Y).many = L.many from T.len, ei, Int.emod_emod_of_dvd _ (Int.dvd_refl _)])
  have e3 : (x - (k : Int)) % (L.many : Int) = 0 ↔ i = k := by
    rw [← toNat_mod h0 hk, ← ei, Int.toNat_natCast]
  rw [e1, e2, ← cell_at (L := L.wc (L.back Y k)) (by rw [show (L.wc (L.back Y k)).many = L.many from bl]; exact hi), ← cell_at (L := L.wc Y) (by rw [show (L.wc Y).many = L.many from T.len]; exact hi)]
  show (L.back Y k).getD i 0 = if _ then _ else Y.getD i 0
  unfold Ln.back
  rw [List.getD_eq_getElem?_getD, List.getD_eq_getElem?_getD]
  by_cases z : i = k
  · rw [if_pos (e3.mpr z), z, List.getElem?_set_self (by rw [T.len]; exact hk)]
    rfl
  · rw [if_neg (fun y => z (e3.mp y)), List.getElem?_set_ne (fun y => z y.symm)]
theorem Tc.back (T : Tc L Y) (G : Good1 L) {k : Nat} (hk : k ∈ L.chd Y) : Tc L (L.back Y k) ∧ (L.wc (L.back Y k)).rd (k : Int) ∧ ((L.wc (L.back Y k)).one k).cells = Y := by
  have h0 := G.one
  obtain ⟨k1, k2⟩ := (chd_mem T.len).mp hk
  have at' := back_at T h0 k1
  have bl : (L.back Y k).length = L.many := by rw [Ln.back, List.length_set, T.len]
  have cg : ∀ {x : Int}, (x - (k : Int)) % (L.many : Int) = 0 → L.at x = L.at (k : Int) := fun z => Ln.at_congr (mod_same z)
  have TX : Tc L (L.back Y k) := by
    refine ⟨bl, fun j => ?_, fun j => ?_⟩
    · rw [at']
      by_cases z : (j - (k : Int)) % (L.many : Int) = 0
      · rw [if_pos z]; exact .inl (cg z).symm
      · rw [if_neg z]; exact T.ok j
    · rw [at', at']
      by_cases z : (j - (k : Int)) % (L.many : Int) = 0
      · rw [if_pos z]; exact .inl (cg z).symm
      · rw [if_neg z]
        by_cases z2 : (j + 1 - (k : Int)) % (L.many : Int) = 0
        · rw [if_pos z2]; exact .inr (cg z2).symm
        · rw [if_neg z2]; exact T.ap j
  have hr : L.rd (k : Int) ∧ (L.wc Y).at (k : Int) = L.at ((k : Int) - 1) := (T.ok (k : Int)).resolve_left k2
  have h3 := rd_three G hr.1
  have n1 : ¬ ((k : Int) - 1 - (k : Int)) % (L.many : Int) = 0 := by
    rw [show (k : Int) - 1 - (k : Int) = -1 by omega]
    intro z
    have := Int.emod_emod_of_dvd (-1 : Int) (Int.dvd_refl (L.many : Int))
    have e := Int.add_emod_right (-1) (L.many : Int)
    rw [z] at e
    rw [Int.emod_eq_of_lt (by omega) (by omega)] at e
    omega
  have n2 : ¬ ((k : Int) + 1 - (k : Int)) % (L.many : Int) = 0 := by
    rw [show (k : Int) + 1 - (k : Int) = 1 by omega]
    exact small_mod (by omega) (by omega)
  have a0 : ((k : Int) - (k : Int)) % (L.many : Int) = 0 := by rw [Int.sub_self]; rfl
  have y1 : (L.wc Y).at ((k : Int) - 1) = L.at ((k : Int) - 1) := by
    rcases T.ap ((k : Int) - 1) with q | q
    · exact q
    · rw [show (k : Int) - 1 + 1 = k by omega] at q
      exact absurd q k2
  have y2 : (L.wc Y).at ((k : Int) + 1) = L.at ((k : Int) + 1) := (T.ap (k : Int)).resolve_left k2
  have rX : (L.wc (L.back Y k)).rd (k : Int) := (TX.rd G _).mpr ⟨hr.1, by rw [at', if_neg n1]; exact y1, by rw [at', if_pos a0], by rw [at', if_neg n2]; exact y2⟩
  refine ⟨TX, rX, ?_⟩
  have wmX : (L.wc (L.back Y k)).many = L.many := bl
  have ol : ((L.wc (L.back Y k)).one k).cells.length = L.many := by
    show ((L.wc (L.back Y k)).one k).many = L.many
    rw [Ln.one_many, wmX]
  refine List.ext_getElem (by rw [ol, T.len]) fun i h1 h2 => ?_
  rw [ol] at h1
  have e1 := at_cells (L := (L.wc (L.back Y k)).one k) (k := i) (by rw [ol]; exact h1)
  have e2 := at_cells (L := L.wc Y) (k := i) (by show i < Y.length; rw [T.len]; exact h1)
  refine e1.symm.trans (Eq.trans ?_ e2)
  rw [one_cells_at (by rw [wmX]; exact h0) (by rw [wmX]; exact k1) (by rw [wmX]; exact h1)]
  by_cases z : i = k
  · rw [if_pos z, at', if_neg n1, y1, z, hr.2]
  · rw [if_neg z, at', if_neg]
    intro y
    rw [← toNat_mod h0 k1, Int.emod_eq_of_lt (by omega) (by omega), Int.toNat_natCast] at y
    exact z y
theorem Tc.only (T : Tc L X) (G : Good1 L) {k : Nat} (hk : k < L.many) (r : (L.wc X).rd (k : Int)) : X = L.back ((L.wc X).one k).cells k := by
  have wm : (L.wc X).many = L.many := wc_many T.len
  have h0 := G.one
  obtain ⟨r1, r2, r3, r4⟩ := (T.rd G _).mp r
  have T1 := T.one G hk r
  have bl : (L.back ((L.wc X).one k).cells k).length = L.many := by rw [Ln.back, List.length_set, T1.len]
  refine List.ext_getElem (by rw [T.len, bl]) fun i h1 h2 => ?_
  have hi : i < L.many := by rw [← T.len]; exact h1
  have e1 := at_cells (L := L.wc X) (k := i) h1
  have e2 := at_cells (L := L.wc (L.back ((L.wc X).one k).cells k)) (k := i) h2
  refine e1.symm.trans (Eq.trans ?_ e2)
  rw [back_at T1 h0 hk, ← wc_one]
  by_cases z : i = k
  · rw [if_pos (by rw [z, Int.sub_self]; rfl), z]
    exact r3
  · rw [if_neg, one_cells_at (by rw [wm]; exact h0) (by rw [wm]; exact hk) (by rw [wm]; exact hi), if_neg z]
    intro y
    rw [← toNat_mod h0 hk, Int.emod_eq_of_lt (by omega) (by omega), Int.toNat_natCast] at y
    exact z y
end
end Pyx

namespace Pyx
open PySem L2
def Ln.rowP (L : Ln) (t : Nat) (X : List Int) : Prop := Tc L X ∧ (L.chd X).length = t
section
variable {L : Ln} {X Y : List Int} {t : Nat}
theorem row0 (G : Good1 L) : L.rowP 0 X ↔ X = L.cells := by
  constructor
  · intro h
    have e := List.eq_nil_of_length_eq_zero h.2
    refine List.ext_getElem h.1.len fun i h1 h2 => ?_
    have q : ¬ i ∈ L.chd X := by rw [e]; simp
    rw [chd_mem h.1.len] at q
    have q2 : (L.wc X).at (i : Int) = L.at (i : Int) := Classical.byContradiction fun z => q ⟨h2, z⟩
    rw [at_cells (L := L.wc X) h1, at_cells h2] at q2
    exact q2
  · intro e
    subst e
    exact ⟨Tc.nil G.one, by rw [chd_nil]; rfl⟩
theorem valG_none {k : List Int} : ∀ {kvs : List (List Int × PV)}, k ∉ kvs.map Prod.fst → valG k kvs = none
  | [], _ => rfl
  | p :: r, h => by
    rw [List.map_cons, List.mem_cons, not_or] at h
    show (match decide (p.1 = k) with | true => some p.2 | false => valG k r) = none
    rw [decide_eq_false (fun z => h.1 z.symm)]
    exact valG_none h.2
structure Cnt (v : Int) (xs : List (List Int)) (D : List (List Int × PV)) : Prop where
  nd : (D.map Prod.fst).Nodup
  mem : ∀ X, X ∈ D.map Prod.fst ↔ X ∈ xs
  val : ∀ X, X ∈ xs → valG X D = some (.int (v * ((xs.count X : Nat) : Int)))
theorem Cnt.nil {v : Int} : Cnt v [] [] := ⟨List.nodup_nil, fun _ => Iff.rfl, fun X h => nomatch h⟩
theorem Cnt.look {v : Int} {xs : List (List Int)} {D : List (List Int × PV)} (C : Cnt v xs D) (X : List Int) : (valG X D).getD (.int 0) = .int (v * ((xs.count X : Nat) : Int)) := by
  by_cases h : X ∈ xs
  · rw [C.val X h]; rfl
  · rw [valG_none fun z => h ((C.mem X).mp z), List.count_eq_zero_of_not_mem h]
    show PV.int 0 = _
    rw [show ((0 : Nat) : Int) = 0 from rfl, Int.mul_zero]
theorem Cnt.put {v : Int} {xs : List (List Int)} {D : List (List Int × PV)} (C : Cnt v xs D) (X : List Int) : Cnt v (xs ++ [X]) (putG X (.int (v * ((xs.count X : Nat) : Int) + v)) D) := by
  have km : ∀ Z, Z ∈ (putG X (PV.int (v * ((xs.count X : Nat) : Int) + v)) D).map Prod.fst ↔ Z ∈ xs ++ [X] := fun Z => by
    rw [putG_keys, List.mem_append, List.mem_singleton, ← C.mem Z]
    split
    · rename_i h
      exact ⟨fun z => .inl z, fun z => z.elim id fun e => by rw [e]; exact h⟩
    · rw [List.mem_append, List.mem_singleton]
  refine ⟨?_, km, fun Z hZ => ?_⟩
  · rw [putG_keys]
    split
    · exact C.nd
    · rename_i z
      exact List.nodup_append.mpr ⟨C.nd, by simp, fun x hx y hy e => z (by rw [List.mem_singleton.mp hy] at e; exact e ▸ hx)⟩
  · rw [valG_putG, List.count_append]
    by_cases e : X = Z
    · subst e
      rw [if_pos rfl, List.count_singleton_self]
      congr 2
      rw [Int.natCast_add, Int.mul_add]
      simp
    · rw [if_neg e, List.count_singleton, if_neg (by simpa using e), Nat.add_zero]
      rcases List.mem_append.mp hZ with z | z
      · exact C.val Z z
      · exact absurd (List.mem_singleton.mp z).symm e
structure RowD (L : Ln) (t : Nat) (kvs : List (List Int × PV)) : Prop where
  nd : (kvs.map Prod.fst).Nodup
  mem : ∀ X, X ∈ kvs.map Prod.fst ↔ L.rowP t X
  val : ∀ X, L.rowP t X → valG X kvs = some (.int (factN t))
theorem RowD.zero (G : Good1 L) : RowD L 0 [(L.cells, .int 1)] := by
  refine ⟨by simp, fun X => ?_, fun X h => ?_⟩
  · rw [row0 G]
    simp
  · rw [(row0 G).mp h]
    show (match decide (L.cells = L.cells) with | true => some (PV.int 1) | false => none) = _
    rw [decide_eq_true rfl]
    rfl
end
end Pyx

namespace Pyx
open PySem L2
section
variable {call : Nat → List PV → PH → R PV} {n : Nat} {st : PSt} {h : PH} {Q : PV → PH → Prop} {N B C : PSt → PH → Prop} {T : PV → PH → Prop}
theorem Le.unlock {h1 : PH} {a : Nat} {kvs : List (List Int × PV)} (w : Wf h) (g : h.get a = some (.dT kvs)) (l : Le none (h.set a (.lT kvs)) h1) : h1.get a = some (.lT kvs) := l.get _ _ (by intro z; cases z) (get_at_set w g)
end
theorem Le.fresh {h h2 h3 : PH} {m : Nat} (a : Le none h h2) (b : Le (some m) h2 h3) (hm : h.n ≤ m) : Le none h h3 := by
  refine ⟨b.wf, Nat.le_trans a.n b.n, fun i o hp e => ?_, fun i hp => (by cases hp)⟩
  have hi := get_lt e
  exact b.get i o (fun z => by injection z with z; omega) (a.get i o hp e)
structure RowsAt (h : PH) (i : Nat) (L : Ln) (T : Nat) : Prop where
  at' : ∃ rs : List Nat, h.get i = some (.lst (rs.map PV.ref)) ∧ rs.length = T + 1 ∧ ∀ (t a : Nat), rs[t]? = some a → ∃ kvs, h.get a = some (.dT kvs) ∧ RowD L t kvs ∧ kvs ≠ []
  le : T ≤ L.many
  no : ∀ t X, T < t → ¬ L.rowP t X
section
variable {P : Prg} {ix : Nat → Nat} {d : Nat} {h : PH} {Q : PV → PH → Prop}
end
end Pyx

namespace Pyx
open PySem L2
section
variable {P : Prg} {ix : Nat → Nat} {d : Nat} {h : PH} {Q : PV → PH → Prop}
end
end Pyx

namespace Pyx
open PySem L2
theorem len0 : ([] : List PV).length ≤ 100000 := Nat.zero_le _
theorem len1 {a0 : PV} : ([a0] : List PV).length ≤ 100000 := by simp only [List.length_cons, List.length_nil]; omega
theorem len2 {a0 a1 : PV} : ([a0, a1] : List PV).length ≤ 100000 := by simp only [List.length_cons, List.length_nil]; omega
theorem len3 {a0 a1 a2 : PV} : ([a0, a1, a2] : List PV).length ≤ 100000 := by simp only [List.length_cons, List.length_nil]; omega
theorem len4 {a0 a1 a2 a3 : PV} : ([a0, a1, a2, a3] : List PV).length ≤ 100000 := by simp only [List.length_cons, List.length_nil]; omega
theorem len5 {a0 a1 a2 a3 a4 : PV} : ([a0, a1, a2, a3, a4] : List PV).length ≤ 100000 := by simp only [List.length_cons, List.length_nil]; omega
theorem len6 {a0 a1 a2 a3 a4 a5 : PV} : ([a0, a1, a2, a3, a4, a5] : List PV).length ≤ 100000 := by simp only [List.length_cons, List.length_nil]; omega
theorem len7 {a0 a1 a2 a3 a4 a5 a6 : PV} : ([a0, a1, a2, a3, a4, a5, a6] : List PV).length ≤ 100000 := by simp only [List.length_cons, List.length_nil]; omega
theorem len8 {a0 a1 a2 a3 a4 a5 a6 a7 : PV} : ([a0, a1, a2, a3, a4, a5, a6, a7] : List PV).length ≤ 100000 := by simp only [List.length_cons, List.length_nil]; omega
theorem len9 {a0 a1 a2 a3 a4 a5 a6 a7 a8 : PV} : ([a0, a1, a2, a3, a4, a5, a6, a7, a8] : List PV).length ≤ 100000 := by simp only [List.length_cons, List.length_nil]; omega
theorem len10 {a0 a1 a2 a3 a4 a5 a6 a7 a8 a9 : PV} : ([a0, a1, a2, a3, a4, a5, a6, a7, a8, a9] : List PV).length ≤ 100000 := by simp only [List.length_cons, List.length_nil]; omega
end Pyx

end
set_option Elab.async false
set_option linter.all false
set_option maxRecDepth 1000000
set_option maxHeartbeats 4000000
namespace Lk04
open PySem PySem.Spec PyProof.Rows L2 Pyx
def top (i : Nat) : Stmt := PySem.Challenge.pw_flankturns_k04_whole_steps.main.body.getD i (.Pass ⟨0, 0, 0, 0⟩)
abbrev s_is_in : Stmt := top 6
def d_is_in : DefR := { x := "is_in", st := s_is_in, N := ["value", "least", "most"], ps := ["value", "least", "most"] }
abbrev s_need_line : Stmt := top 11
def d_need_line : DefR := { x := "need_line", st := s_need_line, N := ["line", "cells", "held", "is_ring", "least", "index", "one"], ps := ["line"] }
abbrev s_is_cells : Stmt := top 12
def d_is_cells : DefR := { x := "is_cells", st := s_is_cells, N := ["many", "value", "x"], ps := ["many", "value"] }
abbrev s_held_in : Stmt := top 13
def d_held_in : DefR := { x := "held_in", st := s_held_in, N := ["line", "cells", "held", "is_ring", "ends"], ps := ["line"] }
abbrev s_flanks : Stmt := top 14
def d_flanks : DefR := { x := "flanks", st := s_flanks, N := ["many", "cell"], ps := ["many", "cell"] }
abbrev s_is_flanked : Stmt := top 15
def d_is_flanked : DefR := { x := "is_flanked", st := s_is_flanked, N := ["cells", "cell", "left", "right"], ps := ["cells", "cell"] }
abbrev s_ready_in : Stmt := top 16
def d_ready_in : DefR := { x := "ready_in", st := s_ready_in, N := ["line", "held", "k"], ps := ["line"] }
abbrev s_with_turned : Stmt := top 17
def d_with_turned : DefR := { x := "with_turned", st := s_with_turned, N := ["cells", "some", "found", "k"], ps := ["cells", "some"] }
abbrev s_swings_in : Stmt := top 18
def d_swings_in : DefR := { x := "swings_in", st := s_swings_in, N := ["line"], ps := ["line"] }
abbrev s_stretches_in : Stmt := top 19
def d_stretches_in : DefR := { x := "stretches_in", st := s_stretches_in, N := ["line", "ready", "many", "found", "k", "here"], ps := ["line"] }
abbrev s_need_resting : Stmt := top 20
def d_need_resting : DefR := { x := "need_resting", st := s_need_resting, N := ["line"], ps := ["line"] }
abbrev s_depths_in : Stmt := top 21
def d_depths_in : DefR := { x := "depths_in", st := s_depths_in, N := ["line", "found", "one", "at"], ps := ["line"] }
abbrev s_need_time : Stmt := top 24
def d_need_time : DefR := { x := "need_time", st := s_need_time, N := ["many"], ps := ["many"] }
abbrev s_with_cells : Stmt := top 25
def d_with_cells : DefR := { x := "with_cells", st := s_with_cells, N := ["line", "cells"], ps := ["line", "cells"] }
abbrev s_step : Stmt := top 26
def d_step : DefR := { x := "step", st := s_step, N := ["line"], ps := ["line"] }
abbrev s_turns_in : Stmt := top 27
def d_turns_in : DefR := { x := "turns_in", st := s_turns_in, N := ["line", "many", "depth"], ps := ["line", "many"] }
abbrev s_cells_after : Stmt := top 28
def d_cells_after : DefR := { x := "cells_after", st := s_cells_after, N := ["line", "many", "cells", "k", "count"], ps := ["line", "many"] }
abbrev s_after : Stmt := top 29
def d_after : DefR := { x := "after", st := s_after, N := ["line", "many"], ps := ["line", "many"] }
abbrev s_rest_cells : Stmt := top 30
def d_rest_cells : DefR := { x := "rest_cells", st := s_rest_cells, N := ["line"], ps := ["line"] }
abbrev s_rest : Stmt := top 31
def d_rest : DefR := { x := "rest", st := s_rest, N := ["line"], ps := ["line"] }
abbrev s_rest_time : Stmt := top 32
def d_rest_time : DefR := { x := "rest_time", st := s_rest_time, N := ["line"], ps := ["line"] }
abbrev s__law_taken : Stmt := top 34
def d__law_taken : DefR := { x := "_law_taken", st := s__law_taken, N := ["_law_row", "_law_many", "_law_found", "_law_cell"], ps := ["_law_row", "_law_many"] }
abbrev s__law_pick : Stmt := top 35
def d__law_pick : DefR := { x := "_law_pick", st := s__law_pick, N := ["_law_row", "_law_things"], ps := ["_law_row", "_law_things"] }
abbrev s__law_line : Stmt := top 36
def d__law_line : DefR := { x := "_law_line", st := s__law_line, N := ["_law_row", "_law_most", "_law_colours", "_law_is_ring", "_law_many", "_law_way", "_law_cells", "_law_k", "_law_free", "_law_thin", "_law_held_here"], ps := ["_law_row", "_law_most", "_law_colours"] }
abbrev s__law_alike : Stmt := top 37
def d__law_alike : DefR := { x := "_law_alike", st := s__law_alike, N := ["_law_found", "_law_due", "_law_k"], ps := ["_law_found", "_law_due"] }
abbrev s__law_held : Stmt := top 38
def d__law_held : DefR := { x := "_law_held", st := s__law_held, N := ["_law_line_here", "_law_many", "_law_k"], ps := ["_law_line_here"] }
abbrev s__law_ready : Stmt := top 39
def d__law_ready : DefR := { x := "_law_ready", st := s__law_ready, N := ["_law_line_here", "_law_cells", "_law_many", "_law_held_here", "_law_found", "_law_k", "_law_left", "_law_right"], ps := ["_law_line_here"] }
abbrev s__law_step : Stmt := top 40
def d__law_step : DefR := { x := "_law_step", st := s__law_step, N := ["_law_line_here", "_law_ready_here", "_law_k"], ps := ["_law_line_here"] }
abbrev s__law_run : Stmt := top 41
def d__law_run : DefR := { x := "_law_run", st := s__law_run, N := ["_law_line_here", "_law_found", "_law_turn"], ps := ["_law_line_here"] }
abbrev s__law_swings : Stmt := top 42
def d__law_swings : DefR := { x := "_law_swings", st := s__law_swings, N := ["_law_work", "error"], ps := ["_law_work"] }
abbrev s_law : Stmt := top 43
def d_law : DefR := { x := "law", st := s_law, N := ["_law_script", "_law_row", "_law_line_here", "_law_some", "_law_many", "_law_other", "_law_time"], ps := ["_law_script"] }
def txt : Txt := { defs := [d_is_in, d_need_line, d_is_cells, d_held_in, d_flanks, d_is_flanked, d_ready_in, d_with_turned, d_swings_in, d_stretches_in, d_need_resting, d_depths_in, d_need_time, d_with_cells, d_step, d_turns_in, d_cells_after, d_after, d_rest_cells, d_rest, d_rest_time, d__law_taken, d__law_pick, d__law_line, d__law_alike, d__law_held, d__law_ready, d__law_step, d__law_run, d__law_swings, d_law], consts := [("MOST_CELLS", .int 40), ("MOST_COLOUR", .int 9), ("LEAST_RING", .int 3), ("MOST_TIME", .int 1000000)], nob := ["int", "isinstance", "len", "range", "list", "tuple", "set", "sorted", "bool", "enumerate", "max", "min", "str"], dts := [], excs := [("Swings", 0)], exb := "FlankError", rsn := ["need_resting", "rest", "rest_time"], lamd := "law", tolds := ["_law_swings"] }
def ix : Nat → Nat := fun g => ([0, 1, 2, 0, 3, 4, 5, 6, 0, 7, 0, 8, 0, 9, 0, 10, 11, 0, 12, 13, 14, 15, 16, 17, 18, 19, 20, 0, 0, 0, 0, 0, 0, 0, 0, 0, 0, 0, 21, 22, 23, 25, 26, 27, 28, 24, 0, 0, 0, 0, 0, 0, 0, 0, 0, 0, 0, 0, 0, 0, 0, 0, 0, 0, 0, 0, 0, 0, 0, 0, 0, 0, 0, 0, 0, 0, 0, 0, 0, 0, 0, 0, 0, 0, 0, 0, 0, 0, 0, 0, 0, 0, 0, 0, 0, 0, 0, 0, 0, 0, 0, 0, 0, 0, 0, 0, 0, 0, 0, 0, 0, 0, 0, 0, 0, 0, 0, 0, 0, 0, 0, 0, 0, 0, 0, 0, 0, 0, 0, 0, 0, 0, 0, 0, 0, 0, 0, 0, 0, 0, 0, 0, 0, 0, 0, 0, 0, 0, 0, 0, 0, 0, 0, 0, 0, 0, 0, 0, 0, 0, 0, 0, 0, 0, 0, 0, 0, 0, 0] : List Nat).getD g 0
def c_is_in : Def := Pyx.cf_is_in ix
def c_need_line : Def := Pyx.cf_need_line ix
def c_is_cells : Def := Pyx.cf_is_cells ix
def c_held_in : Def := Pyx.cf_held_in ix
def c_flanks : Def := Pyx.cf_flanks ix
def c_is_flanked : Def := Pyx.cf_is_flanked ix
def c_ready_in : Def := Pyx.cf_ready_in ix
def c_with_turned : Def := Pyx.cf_with_turned ix
def c_swings_in : Def := Pyx.cf_swings_in ix
def c_stretches_in : Def := Pyx.cf_stretches_in ix
def c_need_resting : Def := { Pyx.cf_need_resting ix with xb := [.no, (.ite (.val (.call (ix 11) [(.var 0)])) [.stuck] [(.rz 0)] [] [])] }
def c_depths_in : Def := Pyx.cf_depths_in ix
def c_need_time : Def := Pyx.cf_need_time ix
def c_with_cells : Def := Pyx.cf_with_cells ix
def c_step : Def := Pyx.cf_step ix
def c_turns_in : Def := Pyx.cf_turns_in ix
def c_cells_after : Def := Pyx.cf_cells_after ix
def c_after : Def := Pyx.cf_after ix
def c_rest_cells : Def := Pyx.cf_rest_cells ix
def c_rest : Def := { Pyx.cf_rest ix with xb := [(.call (ix 15) [(.var 0)]), .no] }
def c_rest_time : Def := { Pyx.cf_rest_time ix with xb := [(.call (ix 15) [(.var 0)]), .no] }
def c__law_taken : Def := Pyx.cf__law_taken ix
def c__law_pick : Def := Pyx.cf__law_pick ix
def c__law_line : Def := Pyx.cf__law_line ix
def c__law_alike : Def := Pyx.cf__law_alike ix
def c__law_held : Def := Pyx.cf__law_held ix
def c__law_ready : Def := Pyx.cf__law_ready ix
def c__law_step : Def := Pyx.cf__law_step ix
def c__law_run : Def := Pyx.cf__law_run ix
def c__law_swings : Def := { ar := 1, sz := 2, body := [.stuck, (.ret (.val (.bl false)))] }
def c_law : Def := { ar := 1, sz := 7, body := [(.asg (.nm 1) (.lst [(.var 0), (.val (.int 0)), (.val (.int 8204)), (.val (.int 0))])), (.asg (.nm 2) (.call (ix 40) [(.var 1), (.val (.int 40)), (.bin .add (.val (.int 1)) (.call (ix 38) [(.var 1), (.val (.int 4))]))])), (.ite (.not (.val (.call (ix 45) [(.call (ix 20) [(.var 2)]), (.call (ix 43) [(.var 2)])]))) [(.ret (.val (.bl false)))] []), (.asg (.nm 3) (.call (ix 44) [(.var 2)])), (.ite (.bl (.cmp .is (.var 3) (.val .non))) [(.asg (.nm 4) (.call (ix 38) [(.var 1), (.val (.int 9))])), (.asg (.nm 5) (.ite (.bl (.cmp .eq (.bin .mod (.bi .int [(.var 4)]) (.val (.int 2))) (.val (.int 0)))) (.var 2) (.call (ix 43) [(.var 2)]))), (.ret (.and (.cmp .eq (.call (ix 23) [(.var 2), (.var 4)]) (.var 5)) (.and (.lam (.call (ix 25) [(.var 2)]) (.call (xbig + (ix 25)) [(.var 2)]) [(0, .bl true)] (some false)) (.lam (.call (ix 26) [(.var 2)]) (.call (xbig + (ix 26)) [(.var 2)]) [(0, .bl true)] (some false)))))] []), (.for (.nm 6) (.rng1 (.bi .len [(.var 3)])) [(.ite (.not (.val (.call (ix 45) [(.call (ix 23) [(.var 2), (.var 6)]), (.ix (.var 3) (.var 6))]))) [(.ret (.val (.bl false)))] [])]), (.ite (.or (.not (.val (.call (ix 45) [(.call (ix 25) [(.var 2)]), (.ix (.var 3) (.neg (.val (.int 1))))]))) (.not (.val (.call (ix 45) [(.call (ix 26) [(.var 2)]), (.bin .sub (.bi .len [(.var 3)]) (.val (.int 1)))])))) [(.ret (.val (.bl false)))] []), (.ret (.cmp .eq (.call (ix 23) [(.var 2), (.bin .add (.bi .len [(.var 3)]) (.call (ix 38) [(.var 1), (.val (.int 1000))]))]) (.ix (.var 3) (.neg (.val (.int 1))))))] }
def prg : Prg := [c_is_in, c_need_line, c_is_cells, c_held_in, c_flanks, c_is_flanked, c_ready_in, c_with_turned, c_swings_in, c_stretches_in, c_need_resting, c_depths_in, c_need_time, c_with_cells, c_step, c_turns_in, c_cells_after, c_after, c_rest_cells, c_rest, c_rest_time, c__law_taken, c__law_pick, c__law_line, c__law_alike, c__law_held, c__law_ready, c__law_step, c__law_run, c__law_swings, c_law]
theorem k_is_in : cDef txt d_is_in = some c_is_in := by kernel_rfl
theorem z_is_in : scopeB d_is_in = true := by kernel_rfl
theorem k_need_line : cDef txt d_need_line = some c_need_line := by kernel_rfl
theorem z_need_line : scopeB d_need_line = true := by kernel_rfl
theorem k_is_cells : cDef txt d_is_cells = some c_is_cells := by kernel_rfl
theorem z_is_cells : scopeB d_is_cells = true := by kernel_rfl
theorem k_held_in : cDef txt d_held_in = some c_held_in := by kernel_rfl
theorem z_held_in : scopeB d_held_in = true := by kernel_rfl
theorem k_flanks : cDef txt d_flanks = some c_flanks := by kernel_rfl
theorem z_flanks : scopeB d_flanks = true := by kernel_rfl
theorem k_is_flanked : cDef txt d_is_flanked = some c_is_flanked := by kernel_rfl
theorem z_is_flanked : scopeB d_is_flanked = true := by kernel_rfl
theorem k_ready_in : cDef txt d_ready_in = some c_ready_in := by kernel_rfl
theorem z_ready_in : scopeB d_ready_in = true := by kernel_rfl
theorem k_with_turned : cDef txt d_with_turned = some c_with_turned := by kernel_rfl
theorem z_with_turned : scopeB d_with_turned = true := by kernel_rfl
theorem k_swings_in : cDef txt d_swings_in = some c_swings_in := by kernel_rfl
theorem z_swings_in : scopeB d_swings_in = true := by kernel_rfl
theorem k_stretches_in : cDef txt d_stretches_in = some c_stretches_in := by kernel_rfl
theorem z_stretches_in : scopeB d_stretches_in = true := by kernel_rfl
theorem k_need_resting : cDef txt d_need_resting = some c_need_resting := by kernel_rfl
theorem z_need_resting : scopeB d_need_resting = true := by kernel_rfl
theorem k_depths_in : cDef txt d_depths_in = some c_depths_in := by kernel_rfl
theorem z_depths_in : scopeB d_depths_in = true := by kernel_rfl
theorem k_need_time : cDef txt d_need_time = some c_need_time := by kernel_rfl
theorem z_need_time : scopeB d_need_time = true := by kernel_rfl
theorem k_with_cells : cDef txt d_with_cells = some c_with_cells := by kernel_rfl
theorem z_with_cells : scopeB d_with_cells = true := by kernel_rfl
theorem k_step : cDef txt d_step = some c_step := by kernel_rfl
theorem z_step : scopeB d_step = true := by kernel_rfl
theorem k_turns_in : cDef txt d_turns_in = some c_turns_in := by kernel_rfl
theorem z_turns_in : scopeB d_turns_in = true := by kernel_rfl
theorem k_cells_after : cDef txt d_cells_after = some c_cells_after := by kernel_rfl
theorem z_cells_after : scopeB d_cells_after = true := by kernel_rfl
theorem k_after : cDef txt d_after = some c_after := by kernel_rfl
theorem z_after : scopeB d_after = true := by kernel_rfl
theorem k_rest_cells : cDef txt d_rest_cells = some c_rest_cells := by kernel_rfl
theorem z_rest_cells : scopeB d_rest_cells = true := by kernel_rfl
theorem k_rest : cDef txt d_rest = some c_rest := by kernel_rfl
theorem z_rest : scopeB d_rest = true := by kernel_rfl
theorem k_rest_time : cDef txt d_rest_time = some c_rest_time := by kernel_rfl
theorem z_rest_time : scopeB d_rest_time = true := by kernel_rfl
theorem k__law_taken : cDef txt d__law_taken = some c__law_taken := by kernel_rfl
theorem z__law_taken : scopeB d__law_taken = true := by kernel_rfl
theorem k__law_pick : cDef txt d__law_pick = some c__law_pick := by kernel_rfl
theorem z__law_pick : scopeB d__law_pick = true := by kernel_rfl
theorem k__law_line : cDef txt d__law_line = some c__law_line := by kernel_rfl
theorem z__law_line : scopeB d__law_line = true := by kernel_rfl
theorem k__law_alike : cDef txt d__law_alike = some c__law_alike := by kernel_rfl
theorem z__law_alike : scopeB d__law_alike = true := by kernel_rfl
theorem k__law_held : cDef txt d__law_held = some c__law_held := by kernel_rfl
theorem z__law_held : scopeB d__law_held = true := by kernel_rfl
theorem k__law_ready : cDef txt d__law_ready = some c__law_ready := by kernel_rfl
theorem z__law_ready : scopeB d__law_ready = true := by kernel_rfl
theorem k__law_step : cDef txt d__law_step = some c__law_step := by kernel_rfl
theorem z__law_step : scopeB d__law_step = true := by kernel_rfl
theorem k__law_run : cDef txt d__law_run = some c__law_run := by kernel_rfl
theorem z__law_run : scopeB d__law_run = true := by kernel_rfl
theorem k__law_swings : cDef txt d__law_swings = some c__law_swings := by kernel_rfl
theorem z__law_swings : scopeB d__law_swings = true := by kernel_rfl
theorem k_law : cDef txt d_law = some c_law := by kernel_rfl
theorem z_law : scopeB d_law = true := by kernel_rfl
theorem isP : Is txt prg := is_of ⟨⟨k_is_in, z_is_in⟩, ⟨k_need_line, z_need_line⟩, ⟨k_is_cells, z_is_cells⟩, ⟨k_held_in, z_held_in⟩, ⟨k_flanks, z_flanks⟩, ⟨k_is_flanked, z_is_flanked⟩, ⟨k_ready_in, z_ready_in⟩, ⟨k_with_turned, z_with_turned⟩, ⟨k_swings_in, z_swings_in⟩, ⟨k_stretches_in, z_stretches_in⟩, ⟨k_need_resting, z_need_resting⟩, ⟨k_depths_in, z_depths_in⟩, ⟨k_need_time, z_need_time⟩, ⟨k_with_cells, z_with_cells⟩, ⟨k_step, z_step⟩, ⟨k_turns_in, z_turns_in⟩, ⟨k_cells_after, z_cells_after⟩, ⟨k_after, z_after⟩, ⟨k_rest_cells, z_rest_cells⟩, ⟨k_rest, z_rest⟩, ⟨k_rest_time, z_rest_time⟩, ⟨k__law_taken, z__law_taken⟩, ⟨k__law_pick, z__law_pick⟩, ⟨k__law_line, z__law_line⟩, ⟨k__law_alike, z__law_alike⟩, ⟨k__law_held, z__law_held⟩, ⟨k__law_ready, z__law_ready⟩, ⟨k__law_step, z__law_step⟩, ⟨k__law_run, z__law_run⟩, ⟨k__law_swings, z__law_swings⟩, ⟨k_law, z_law⟩, trivial⟩ rfl
theorem H0 : Has prg ix 0 cf_is_in := ⟨by decide, rfl⟩
theorem H1 : Has prg ix 1 cf_need_line := ⟨by decide, rfl⟩
theorem H2 : Has prg ix 2 cf_is_cells := ⟨by decide, rfl⟩
theorem H4 : Has prg ix 4 cf_held_in := ⟨by decide, rfl⟩
theorem H5 : Has prg ix 5 cf_flanks := ⟨by decide, rfl⟩
theorem H6 : Has prg ix 6 cf_is_flanked := ⟨by decide, rfl⟩
theorem H7 : Has prg ix 7 cf_ready_in := ⟨by decide, rfl⟩
theorem H9 : Has prg ix 9 cf_with_turned := ⟨by decide, rfl⟩
theorem H11 : Has prg ix 11 cf_swings_in := ⟨by decide, rfl⟩
theorem H13 : Has prg ix 13 cf_stretches_in := ⟨by decide, rfl⟩
theorem H15 : Has prg ix 15 cf_need_resting := ⟨by decide, rfl⟩
theorem H16 : Has prg ix 16 cf_depths_in := ⟨by decide, rfl⟩
theorem H18 : Has prg ix 18 cf_need_time := ⟨by decide, rfl⟩
theorem H19 : Has prg ix 19 cf_with_cells := ⟨by decide, rfl⟩
theorem H20 : Has prg ix 20 cf_step := ⟨by decide, rfl⟩
theorem H21 : Has prg ix 21 cf_turns_in := ⟨by decide, rfl⟩
theorem H22 : Has prg ix 22 cf_cells_after := ⟨by decide, rfl⟩
theorem H23 : Has prg ix 23 cf_after := ⟨by decide, rfl⟩
theorem H24 : Has prg ix 24 cf_rest_cells := ⟨by decide, rfl⟩
theorem H25 : Has prg ix 25 cf_rest := ⟨by decide, rfl⟩
theorem H26 : Has prg ix 26 cf_rest_time := ⟨by decide, rfl⟩
theorem H38 : Has prg ix 38 cf__law_taken := ⟨by decide, rfl⟩
theorem H39 : Has prg ix 39 cf__law_pick := ⟨by decide, rfl⟩
theorem H40 : Has prg ix 40 cf__law_line := ⟨by decide, rfl⟩
theorem H45 : Has prg ix 45 cf__law_alike := ⟨by decide, rfl⟩
theorem H41 : Has prg ix 41 cf__law_held := ⟨by decide, rfl⟩
theorem H42 : Has prg ix 42 cf__law_ready := ⟨by decide, rfl⟩
theorem H43 : Has prg ix 43 cf__law_step := ⟨by decide, rfl⟩
theorem H44 : Has prg ix 44 cf__law_run := ⟨by decide, rfl⟩
local macro_rules | `(tactic| walk_at "px") => `(tactic| first
  | (with_reducible refine ok_var (v := ?_) (by with_unfolding_all exact rfl) ?_)
  | with_reducible refine os_nil ?_
  | with_reducible refine os_cons ?_
  | with_reducible refine os_pass ?_
  | with_reducible refine os_retN ?_
  | with_reducible refine os_brk ?_
  | with_reducible refine os_cont ?_
  | with_reducible refine os_ret ?_
  | with_reducible refine os_expr ?_
  | with_reducible refine os_set ?_
  | with_reducible refine os_asg ?_
  | with_reducible refine os_par ?_
  | with_reducible refine os_par3 ?_
  | with_reducible refine os_setix ?_
  | with_reducible refine os_ite ?_
  | with_reducible refine os_for ?_
  | with_reducible refine os_while ?_
  | with_reducible refine ok_val ?_
  | with_reducible refine ok_bin ?_
  | with_reducible refine ok_neg ?_
  | with_reducible refine ok_cmp ?_
  | with_reducible refine ok_chain ?_
  | with_reducible refine ok_isin ?_
  | with_reducible refine ok_and ?_
  | with_reducible refine ok_or ?_
  | with_reducible refine ok_not ?_
  | with_reducible refine ok_ite ?_
  | with_reducible refine ok_tup ?_
  | with_reducible refine ok_lst ?_
  | with_reducible refine ok_call ?_
  | with_reducible refine ok_bi ?_
  | with_reducible refine ok_isi ?_
  | with_reducible refine ok_isis ?_
  | with_reducible refine ok_ix ?_
  | with_reducible refine ok_sl ?_
  | with_reducible refine ok_oN ?_
  | with_reducible refine ok_oS ?_
  | with_reducible refine ok_nil ?_
  | with_reducible refine ok_cons ?_
  | with_reducible refine ok_bval ?_
  | with_reducible refine ok_bbl ?_
  | with_reducible refine ok_bnot ?_
  | with_reducible refine ok_band ?_
  | with_reducible refine ok_bor ?_
  | with_reducible refine ok_ifN ?_
  | with_reducible refine ok_ifS ?_
  | with_reducible refine ok_rng1 ?_
  | with_reducible refine ok_rng2 ?_
  | with_reducible refine ok_over ?_
  | with_reducible refine ok_enum ?_
  | with_reducible refine ok_add ?_
  | with_reducible refine ok_sub ?_
  | (with_reducible refine ok_lc (by with_unfolding_all exact rfl) ?_)
  | with_reducible refine ⟨_, eq_int, ?_⟩
  | with_reducible refine ⟨_, ne_int, ?_⟩
  | with_reducible refine ⟨_, lt_int', ?_⟩
  | with_reducible refine ⟨_, le_int', ?_⟩
  | with_reducible refine ⟨_, gt_int', ?_⟩
  | with_reducible refine ⟨_, ge_int', ?_⟩
  | with_reducible refine ⟨_, eq_bl, ?_⟩
  | with_reducible refine ⟨_, ne_bl, ?_⟩
  | with_reducible refine ⟨_, ty_ii, ?_⟩
  | with_reducible refine ⟨_, ty_ib, ?_⟩
  | with_reducible refine ⟨_, ty_tt, ?_⟩
  | with_reducible refine ⟨_, ty_tl, ?_⟩
  | with_reducible refine ⟨_, ty_bb, ?_⟩
  | with_reducible refine ⟨_, ty_bi, ?_⟩
  | with_reducible refine ⟨_, truth_bl, ?_⟩
  | with_reducible refine ⟨_, (rfl : PV.bl _ = PV.bl _), ?_⟩
  | with_reducible refine ⟨_, (rfl : PV.int _ = PV.int _), ?_⟩
  | with_reducible refine ⟨len0, ?_⟩
  | with_reducible refine ⟨len1, ?_⟩
  | with_reducible refine ⟨len2, ?_⟩
  | with_reducible refine ⟨len3, ?_⟩
  | with_reducible refine ⟨len4, ?_⟩
  | with_reducible refine ⟨len5, ?_⟩
  | with_reducible refine ⟨len6, ?_⟩
  | with_reducible refine ⟨len7, ?_⟩
  | with_reducible refine ⟨len8, ?_⟩
  | with_reducible refine ⟨len9, ?_⟩
  | with_reducible refine ⟨len10, ?_⟩
  | (with_reducible refine And.intro (fun _ => ?_) (fun e => no_tf (by with_unfolding_all exact e)))
  | (with_reducible refine And.intro (fun e => no_ft (by with_unfolding_all exact e)) (fun _ => ?_))
  | (with_reducible refine And.intro (fun e => no_tf (by with_unfolding_all exact e)) (fun _ => ?_))
  | (with_reducible refine And.intro (fun _ => ?_) (fun e => no_ft (by with_unfolding_all exact e))))
local macro_rules | `(tactic| walk_at "py") => `(tactic| first
  | (with_reducible refine ok_var (v := ?_) (by with_unfolding_all exact rfl) ?_)
  | with_reducible refine os_nil ?_
  | with_reducible refine os_cons ?_
  | with_reducible refine os_pass ?_
  | with_reducible refine os_retN ?_
  | with_reducible refine os_brk ?_
  | with_reducible refine os_cont ?_
  | with_reducible refine os_ret ?_
  | with_reducible refine os_expr ?_
  | with_reducible refine os_set ?_
  | with_reducible refine os_asg ?_
  | with_reducible refine os_par ?_
  | with_reducible refine os_par3 ?_
  | with_reducible refine os_setix ?_
  | with_reducible refine os_ite ?_
  | with_reducible refine os_for ?_
  | with_reducible refine os_while ?_
  | with_reducible refine ok_val ?_
  | with_reducible refine ok_bin ?_
  | with_reducible refine ok_neg ?_
  | with_reducible refine ok_cmp ?_
  | with_reducible refine ok_chain ?_
  | with_reducible refine ok_isin ?_
  | with_reducible refine ok_and ?_
  | with_reducible refine ok_or ?_
  | with_reducible refine ok_not ?_
  | with_reducible refine ok_ite ?_
  | with_reducible refine ok_tup ?_
  | with_reducible refine ok_call ?_
  | with_reducible refine ok_bi ?_
  | with_reducible refine ok_isi ?_
  | with_reducible refine ok_isis ?_
  | with_reducible refine ok_ix ?_
  | with_reducible refine ok_sl ?_
  | with_reducible refine ok_oN ?_
  | with_reducible refine ok_oS ?_
  | with_reducible refine ok_nil ?_
  | with_reducible refine ok_cons ?_
  | with_reducible refine ok_bval ?_
  | with_reducible refine ok_bbl ?_
  | with_reducible refine ok_bnot ?_
  | with_reducible refine ok_band ?_
  | with_reducible refine ok_bor ?_
  | with_reducible refine ok_ifN ?_
  | with_reducible refine ok_ifS ?_
  | with_reducible refine ok_rng1 ?_
  | with_reducible refine ok_rng2 ?_
  | with_reducible refine ok_over ?_
  | with_reducible refine ok_enum ?_
  | with_reducible refine ok_add ?_
  | with_reducible refine ok_sub ?_
  | (with_reducible refine ok_lc (by with_unfolding_all exact rfl) ?_)
  | with_reducible refine ⟨_, eq_int, ?_⟩
  | with_reducible refine ⟨_, ne_int, ?_⟩
  | with_reducible refine ⟨_, lt_int', ?_⟩
  | with_reducible refine ⟨_, le_int', ?_⟩
  | with_reducible refine ⟨_, gt_int', ?_⟩
  | with_reducible refine ⟨_, ge_int', ?_⟩
  | with_reducible refine ⟨_, eq_bl, ?_⟩
  | with_reducible refine ⟨_, ne_bl, ?_⟩
  | with_reducible refine ⟨_, ty_ii, ?_⟩
  | with_reducible refine ⟨_, ty_ib, ?_⟩
  | with_reducible refine ⟨_, ty_tt, ?_⟩
  | with_reducible refine ⟨_, ty_tl, ?_⟩
  | with_reducible refine ⟨_, ty_bb, ?_⟩
  | with_reducible refine ⟨_, ty_bi, ?_⟩
  | with_reducible refine ⟨_, truth_bl, ?_⟩
  | with_reducible refine ⟨_, (rfl : PV.bl _ = PV.bl _), ?_⟩
  | with_reducible refine ⟨_, (rfl : PV.int _ = PV.int _), ?_⟩
  | with_reducible refine ⟨len0, ?_⟩
  | with_reducible refine ⟨len1, ?_⟩
  | with_reducible refine ⟨len2, ?_⟩
  | with_reducible refine ⟨len3, ?_⟩
  | with_reducible refine ⟨len4, ?_⟩
  | with_reducible refine ⟨len5, ?_⟩
  | with_reducible refine ⟨len6, ?_⟩
  | with_reducible refine ⟨len7, ?_⟩
  | with_reducible refine ⟨len8, ?_⟩
  | with_reducible refine ⟨len9, ?_⟩
  | with_reducible refine ⟨len10, ?_⟩
  | (with_reducible refine And.intro (fun _ => ?_) (fun e => no_tf (by with_unfolding_all exact e)))
  | (with_reducible refine And.intro (fun e => no_ft (by with_unfolding_all exact e)) (fun _ => ?_))
  | (with_reducible refine And.intro (fun e => no_tf (by with_unfolding_all exact e)) (fun _ => ?_))
  | (with_reducible refine And.intro (fun _ => ?_) (fun e => no_ft (by with_unfolding_all exact e))))
local macro_rules | `(tactic| walk_at "wf") => `(tactic| first
  | assumption
  | exact Le.wf (by assumption)
  | (with_reducible refine wf_push ?_; walk_at "wf")
  | (with_reducible refine wf_set ?_; walk_at "wf"))
local macro_rules | `(tactic| walk_at "gt") => `(tactic| first
  | assumption
  | with_reducible exact get_new
  | (with_reducible refine get_old ?_; walk_at "gt")
  | (with_reducible refine Le.g (by assumption) ?_; walk_at "gt"))
local macro_rules | `(tactic| walk_at "le") => `(tactic| first
  | assumption
  | with_reducible exact Le.refl (by walk_at "wf")
  | (with_reducible refine Le.p ?_; walk_at "le")
  | (with_reducible refine Le.trans ?_ (by assumption); walk_at "le"))

theorem ln_pln {L : Ln} (G : Good1 L) : Pln 2 L.v := by
  have h40 := G.most
  have hl := G.len
  refine .tup (by show 3 ≤ 900; omega) fun x hx => ?_
  rcases List.mem_cons.mp hx with e | hx
  · rw [e]; exact Pln.ints 0 (by show L.many ≤ 900; omega)
  · rcases List.mem_cons.mp hx with e | hx
    · rw [e]; exact Pln.ints 0 (by show L.held.length ≤ 900; omega)
    · rw [List.mem_singleton.mp hx]; exact .bl _ _
theorem xneed {P : Prg} (H0 : Has P ix 0 cf_is_in) (H1 : Has P ix 1 cf_need_line) (H2 : Has P ix 2 cf_is_cells) (H4 : Has P ix 4 cf_held_in) (H5 : Has P ix 5 cf_flanks) (H6 : Has P ix 6 cf_is_flanked) (H7 : Has P ix 7 cf_ready_in) (H9 : Has P ix 9 cf_with_turned) (H11 : Has P ix 11 cf_swings_in) (H13 : Has P ix 13 cf_stretches_in) (H15 : Has P ix 15 cf_need_resting) (H16 : Has P ix 16 cf_depths_in) (H18 : Has P ix 18 cf_need_time) (H19 : Has P ix 19 cf_with_cells) (H20 : Has P ix 20 cf_step) (H21 : Has P ix 21 cf_turns_in) (H22 : Has P ix 22 cf_cells_after) (H23 : Has P ix 23 cf_after) (H24 : Has P ix 24 cf_rest_cells) (H25 : Has P ix 25 cf_rest) (H26 : Has P ix 26 cf_rest_time) (H38 : Has P ix 38 cf__law_taken) (H39 : Has P ix 39 cf__law_pick) (H40 : Has P ix 40 cf__law_line) (H45 : Has P ix 45 cf__law_alike) (H41 : Has P ix 41 cf__law_held) (H42 : Has P ix 42 cf__law_ready) (H43 : Has P ix 43 cf__law_step) (H44 : Has P ix 44 cf__law_run) (S__law_swings : At P 29 c__law_swings) (S_law : At P 30 c_law) (R_need_resting : AtX P (ix 15) c_need_resting) (R_rest : AtX P (ix 25) c_rest) (R_rest_time : AtX P (ix 26) c_rest_time) {L : Ln} (G : Good1 L) (S : L.swB = true) {d : Nat} {h : PH} {Q : PV → PH → Prop} (w : Wf h) (q : ∀ h', Le none h h' → Q (.int 0) h') : Ok (callP P 1000 (d + 6) (xbig + ix 15) [L.v] h) Q := by
  refine x_def R_need_resting rfl ?_
  refine x_no ?_
  repeat walk_at "px"
  refine f_need_line H0 H2 H1 G w fun h1 l1 => ?_
  refine x_cons (x_ite ?_)
  repeat walk_at "px"
  refine f_swings_in H4 H5 H6 H7 H11 G l1.wf fun h2 l2 => ?_
  rw [S]
  repeat walk_at "px"
  exact x_cons (x_rz (.inl ⟨0, rfl, .inl ⟨0, rfl, q _ (l1.trans l2)⟩⟩))
theorem xrest {P : Prg} (H0 : Has P ix 0 cf_is_in) (H1 : Has P ix 1 cf_need_line) (H2 : Has P ix 2 cf_is_cells) (H4 : Has P ix 4 cf_held_in) (H5 : Has P ix 5 cf_flanks) (H6 : Has P ix 6 cf_is_flanked) (H7 : Has P ix 7 cf_ready_in) (H9 : Has P ix 9 cf_with_turned) (H11 : Has P ix 11 cf_swings_in) (H13 : Has P ix 13 cf_stretches_in) (H15 : Has P ix 15 cf_need_resting) (H16 : Has P ix 16 cf_depths_in) (H18 : Has P ix 18 cf_need_time) (H19 : Has P ix 19 cf_with_cells) (H20 : Has P ix 20 cf_step) (H21 : Has P ix 21 cf_turns_in) (H22 : Has P ix 22 cf_cells_after) (H23 : Has P ix 23 cf_after) (H24 : Has P ix 24 cf_rest_cells) (H25 : Has P ix 25 cf_rest) (H26 : Has P ix 26 cf_rest_time) (H38 : Has P ix 38 cf__law_taken) (H39 : Has P ix 39 cf__law_pick) (H40 : Has P ix 40 cf__law_line) (H45 : Has P ix 45 cf__law_alike) (H41 : Has P ix 41 cf__law_held) (H42 : Has P ix 42 cf__law_ready) (H43 : Has P ix 43 cf__law_step) (H44 : Has P ix 44 cf__law_run) (S__law_swings : At P 29 c__law_swings) (S_law : At P 30 c_law) (R_need_resting : AtX P (ix 15) c_need_resting) (R_rest : AtX P (ix 25) c_rest) (R_rest_time : AtX P (ix 26) c_rest_time) {L : Ln} (G : Good1 L) (S : L.swB = true) {d : Nat} {h : PH} {Q : PV → PH → Prop} (w : Wf h) (q : ∀ h', Le none h h' → Q (.int 0) h') : Ok (callP P 1000 (d + 7) (xbig + ix 25) [L.v] h) Q := by
  refine x_def R_rest rfl ?_
  refine x_cons (x_call ?_)
  repeat walk_at "px"
  exact xneed H0 H1 H2 H4 H5 H6 H7 H9 H11 H13 H15 H16 H18 H19 H20 H21 H22 H23 H24 H25 H26 H38 H39 H40 H45 H41 H42 H43 H44 S__law_swings S_law R_need_resting R_rest R_rest_time G S w fun h1 l1 => .inl ⟨0, rfl, q _ l1⟩
theorem xtime {P : Prg} (H0 : Has P ix 0 cf_is_in) (H1 : Has P ix 1 cf_need_line) (H2 : Has P ix 2 cf_is_cells) (H4 : Has P ix 4 cf_held_in) (H5 : Has P ix 5 cf_flanks) (H6 : Has P ix 6 cf_is_flanked) (H7 : Has P ix 7 cf_ready_in) (H9 : Has P ix 9 cf_with_turned) (H11 : Has P ix 11 cf_swings_in) (H13 : Has P ix 13 cf_stretches_in) (H15 : Has P ix 15 cf_need_resting) (H16 : Has P ix 16 cf_depths_in) (H18 : Has P ix 18 cf_need_time) (H19 : Has P ix 19 cf_with_cells) (H20 : Has P ix 20 cf_step) (H21 : Has P ix 21 cf_turns_in) (H22 : Has P ix 22 cf_cells_after) (H23 : Has P ix 23 cf_after) (H24 : Has P ix 24 cf_rest_cells) (H25 : Has P ix 25 cf_rest) (H26 : Has P ix 26 cf_rest_time) (H38 : Has P ix 38 cf__law_taken) (H39 : Has P ix 39 cf__law_pick) (H40 : Has P ix 40 cf__law_line) (H45 : Has P ix 45 cf__law_alike) (H41 : Has P ix 41 cf__law_held) (H42 : Has P ix 42 cf__law_ready) (H43 : Has P ix 43 cf__law_step) (H44 : Has P ix 44 cf__law_run) (S__law_swings : At P 29 c__law_swings) (S_law : At P 30 c_law) (R_need_resting : AtX P (ix 15) c_need_resting) (R_rest : AtX P (ix 25) c_rest) (R_rest_time : AtX P (ix 26) c_rest_time) {L : Ln} (G : Good1 L) (S : L.swB = true) {d : Nat} {h : PH} {Q : PV → PH → Prop} (w : Wf h) (q : ∀ h', Le none h h' → Q (.int 0) h') : Ok (callP P 1000 (d + 7) (xbig + ix 26) [L.v] h) Q := by
  refine x_def R_rest_time rfl ?_
  refine x_cons (x_call ?_)
  repeat walk_at "px"
  exact xneed H0 H1 H2 H4 H5 H6 H7 H9 H11 H13 H15 H16 H18 H19 H20 H21 H22 H23 H24 H25 H26 H38 H39 H40 H45 H41 H42 H43 H44 S__law_swings S_law R_need_resting R_rest R_rest_time G S w fun h1 l1 => .inl ⟨0, rfl, q _ l1⟩
theorem mainG {P : Prg} (H0 : Has P ix 0 cf_is_in) (H1 : Has P ix 1 cf_need_line) (H2 : Has P ix 2 cf_is_cells) (H4 : Has P ix 4 cf_held_in) (H5 : Has P ix 5 cf_flanks) (H6 : Has P ix 6 cf_is_flanked) (H7 : Has P ix 7 cf_ready_in) (H9 : Has P ix 9 cf_with_turned) (H11 : Has P ix 11 cf_swings_in) (H13 : Has P ix 13 cf_stretches_in) (H15 : Has P ix 15 cf_need_resting) (H16 : Has P ix 16 cf_depths_in) (H18 : Has P ix 18 cf_need_time) (H19 : Has P ix 19 cf_with_cells) (H20 : Has P ix 20 cf_step) (H21 : Has P ix 21 cf_turns_in) (H22 : Has P ix 22 cf_cells_after) (H23 : Has P ix 23 cf_after) (H24 : Has P ix 24 cf_rest_cells) (H25 : Has P ix 25 cf_rest) (H26 : Has P ix 26 cf_rest_time) (H38 : Has P ix 38 cf__law_taken) (H39 : Has P ix 39 cf__law_pick) (H40 : Has P ix 40 cf__law_line) (H45 : Has P ix 45 cf__law_alike) (H41 : Has P ix 41 cf__law_held) (H42 : Has P ix 42 cf__law_ready) (H43 : Has P ix 43 cf__law_step) (H44 : Has P ix 44 cf__law_run) (S__law_swings : At P 29 c__law_swings) (S_law : At P 30 c_law) (R_need_resting : AtX P (ix 15) c_need_resting) (R_rest : AtX P (ix 25) c_rest) (R_rest_time : AtX P (ix 26) c_rest_time) (ns : List Int) (hl : ns.length ≤ 63) : ∃ h', callP P 1000 40 30 [.ref 0] (start2 ns) = .ok (.bl true) h' := by
  refine ok_is (Q := fun v _ => v = .bl true) ?_ (fun v h z => z)
  have w0 : Wf (start2 ns) := rfl
  have e0 : (start2 ns).get 0 = some (.fz (ns.map PV.int)) := rfl
  have t0 : (start2 ns).get 1 = some .tb := rfl
  have n0 : (start2 ns).n = 2 := rfl
  generalize start2 ns = h0 at w0 e0 n0 t0 ⊢
  refine ok_def S_law rfl ?_
  repeat walk_at "px"
  have R : RowAt (h0.push (.lst [.ref 0, .int 0, .int 8204, .int 0])) h0.n := ⟨ns, 0, 8204, 0, get_old e0, get_new, by decide⟩
  have t1 : (h0.push (.lst [.ref 0, .int 0, .int 8204, .int 0])).get 1 = some .tb := get_old t0
  have w1 : Wf (h0.push (.lst [.ref 0, .int 0, .int 8204, .int 0])) := wf_push w0
  generalize h0.push (.lst [.ref 0, .int 0, .int 8204, .int 0]) = h1 at R w1 t1 ⊢
  rw [n0] at R ⊢
  refine f_taken H38 (by decide) R w1 (by decide) (by decide) fun x h2 x0 x4 l2 => ?_
  repeat walk_at "px"
  refine f_line H38 H39 H40 (by decide) (l2.rowAt R) l2.wf (by decide) (by decide) (by omega) (by omega) fun L h3 G hm _ l3 => ?_
  have R3 := l3.rowAt (l2.rowAt R)
  have t3 := l3.get _ _ (by intro z; cases z) (l2.get _ _ (by intro z; cases z) t1)
  have w3 := l3.wf
  have h0' := G.one
  have h40 := G.most
  clear l2 l3 R t1 w1
  have GS := Ln.aft_good G 1
  repeat walk_at "px"
  refine f_step H0 H2 H1 H4 H5 H6 H7 H9 H19 H20 G w3 fun h4 l4 => ?_
  repeat walk_at "px"
  refine g_step H41 H42 H43 G l4.wf fun h5 l5 => ?_
  repeat walk_at "px"
  refine g_alike H45 2 L.stp.v (ln_pln (L := L.stp) GS) _ _ _ l5.wf fun h6 l6 => ?_
  refine ⟨_, rfl, fun e => (nomatch (e : false = true)), fun _ => ?_⟩
  have l36 := (l4.trans l5).trans l6
  have R6 := (Le.weak (p := some 2) l36).rowAt R3
  have t6 := l36.g t3
  have w6 := l36.wf
  clear l4 l5 l6 l36 R3 t3 w3
  repeat walk_at "px"
  refine g_run H41 H42 H43 H44 G w6 (fun ri h7 T nS TL r1 r2 l7 n7 g7 => ?_) (fun h7 S l7 => ?_)
  · have sB : L.swB = false := Bool.eq_false_iff.mpr fun z => nS ((Ln.swB_is G).mp z)
    have rne : ri ≠ 2 := fun z => by
      obtain ⟨_, _, _, _, _, e, _⟩ := R6
      have := get_lt e
      omega
    have R7 := (Le.weak (p := some 2) l7).rowAt R6
    have w7 := l7.wf
    clear l7 R6 t6 w6
    repeat walk_at "px"
    refine ⟨_, is_ref, ?_⟩
    repeat walk_at "px"
    refine ok_len (seqOf_lst g7) ?_
    rw [List.length_map, List.length_range]
    repeat walk_at "px"
    with_reducible refine And.intro (by omega) ?_
    rw [Int.toNat_natCast]
    refine os_forL (fun j st h' => j ≤ T + 1 ∧ Le none h7 h' ∧ ∃ (t4 t5 t6 : Option PV), st = [some (.ref 0), some (.ref 2), some L.v, some (.ref ri), t4, t5, t6]) (T + 1) (fun j st h' ⟨b1, b2, t4, t5, t6, b3⟩ => ⟨b1, ?_⟩) _ 0 _ _ (by omega) ⟨Nat.zero_le _, Le.refl w7, _, _, _, rfl⟩
    subst b3
    rw [iv_rng]
    by_cases hk : j < T + 1
    · have e : (rng 0 (T + 1))[j]? = some (.int (j : Nat)) := by
        unfold rng
        rw [List.getElem?_map, List.getElem?_range hk, Option.map_some, Int.zero_add]
      rw [e]
      refine .inr ⟨_, _, rfl, rfl, ?_⟩
      repeat walk_at "px"
      refine f_after H0 H2 H1 H4 H5 H6 H7 H11 H13 H16 H18 H19 H21 H22 H23 G (t := j) (by omega) b2.wf fun h8 l8 => ?_
      have g8 := (b2.trans l8).g g7
      repeat walk_at "px"
      refine ⟨_, ix_of_nat (seqOf_lst g8) (k := j) (u := (L.aft j).v) (by rw [List.getElem?_map, List.getElem?_range hk]; rfl), ?_⟩
      repeat walk_at "px"
      refine g_alike H45 2 (L.aft j).v (ln_pln (Ln.aft_good G j)) _ _ _ l8.wf fun h9 l9 => ?_
      refine ⟨_, rfl, fun e => (nomatch (e : false = true)), fun _ => ?_⟩
      repeat walk_at "px"
      exact ⟨by omega, (b2.trans l8).trans l9, _, _, _, rfl⟩
    have e : (rng 0 (T + 1))[j]? = none := List.getElem?_eq_none_iff.mpr (by rw [rng_len]; omega)
    rw [e]
    refine .inl ⟨rfl, ?_⟩
    have g8 := b2.g g7
    have R8 := (Le.weak (p := some 2) b2).rowAt R7
    have w8 := b2.wf
    clear b2 g7 R7 w7 e
    repeat walk_at "px"
    refine f_rest H0 H2 H1 H4 H5 H6 H7 H11 H13 H15 H16 H19 H21 H22 H24 H25 G sB w8 fun h9 l9 => ?_
    have g9 := l9.g g8
    have R9 := (Le.weak (p := some 2) l9).rowAt R8
    have w9 := l9.wf
    have eA : L.aft L.many = L.aft T := by
      rw [show L.many = T + (L.many - T) by omega, ← aft_add, aft_still (by rw [Ln.aft_many]; exact h0') r1]
    have ge : ∀ {h : PH}, h.get ri = some (.lst (List.map (fun (t : Nat) => (L.aft t).v) (List.range (T + 1)))) → ixP (.ref ri) (.int (-1)) h = some (L.aft T).v := fun g => ix_last (xs := List.map (fun (t : Nat) => (L.aft t).v) (List.range T)) (by rw [g, List.range_succ, List.map_append]; rfl)
    clear l9 R8 w8 g8
    repeat walk_at "px"
    refine ⟨_, ge g9, ?_⟩
    rw [eA]
    repeat walk_at "px"
    refine g_alike H45 2 (L.aft T).v (ln_pln (Ln.aft_good G T)) _ _ _ w9 fun h10 l10 => ?_
    refine ⟨_, rfl, fun _ => ?_, fun e => (nomatch (e : false = true))⟩
    have g10 := l10.g g9
    have R10 := (Le.weak (p := some 2) l10).rowAt R9
    have w10 := l10.wf
    clear l10 R9 w9 g9
    repeat walk_at "px"
    refine f_rest_time H0 H2 H1 H4 H5 H6 H7 H11 H13 H15 H16 H26 G sB w10 fun h11 l11 => ?_
    have g11 := l11.g g10
    have R11 := (Le.weak (p := some 2) l11).rowAt R10
    have w11 := l11.wf
    rw [top_is h0' nS r1 r2]
    clear l11 R10 w10 g10
    repeat walk_at "px"
    refine ok_len (seqOf_lst g11) ?_
    rw [List.length_map, List.length_range]
    repeat walk_at "px"
    rw [show (((T + 1 : Nat) : Int) - 1) = (T : Int) by omega]
    refine g_alike H45 0 (.int (T : Int)) (.int 0 _) _ _ _ w11 fun h12 l12 => ?_
    refine ⟨_, rfl, fun e => (nomatch (e : false = true)), fun _ => ?_⟩
    have g12 := l12.g g11
    have R12 := (Le.weak (p := some 2) l12).rowAt R11
    have w12 := l12.wf
    clear l12 R11 w11 g11
    repeat walk_at "px"
    refine ok_len (seqOf_lst g12) ?_
    rw [List.length_map, List.length_range]
    repeat walk_at "px"
    refine f_taken H38 (by decide) R12 w12 (by decide) (by decide) fun y h13 y0 y9 l13 => ?_
    obtain ⟨u, rfl⟩ : ∃ n : Nat, y = (n : Int) := ⟨y.toNat, by omega⟩
    have g13 := l13.get _ _ (fun z => by injection z with z; exact rne z.symm) g12
    have w13 := l13.wf
    repeat walk_at "px"
    rw [show (((T + 1 : Nat) : Int) + (u : Int)) = ((T + 1 + u : Nat) : Int) by omega]
    refine f_after H0 H2 H1 H4 H5 H6 H7 H11 H13 H16 H18 H19 H21 H22 H23 G (t := T + 1 + u) (by omega) w13 fun h14 l14 => ?_
    repeat walk_at "px"
    refine ⟨_, ge (l14.g g13), ?_⟩
    repeat walk_at "px"
    exact ⟨_, eq_same (by rw [show T + 1 + u = T + (1 + u) by omega, ← aft_add, aft_still (by rw [Ln.aft_many]; exact h0') r1]), rfl⟩
  · have sB : L.swB = true := (Ln.swB_is G).mpr S
    have R7 := (Le.weak (p := some 2) l7).rowAt R6
    have w7 := l7.wf
    have t7 := l7.g t6
    clear l7 R6 t6 w6
    repeat walk_at "px"
    refine ⟨_, is_non, ?_⟩
    repeat walk_at "px"
    refine f_taken H38 (by decide) R7 w7 (by decide) (by decide) fun y h8 y0 y9 l8 => ?_
    obtain ⟨u, rfl⟩ : ∃ n : Nat, y = (n : Int) := ⟨y.toNat, by omega⟩
    have t8 := l8.get _ _ (by intro z; cases z) t7
    have w8 := l8.wf
    clear l8 R7 t7 w7
    repeat walk_at "px"
    refine ok_int ?_
    repeat walk_at "px"
    refine ok_mod (by decide) ?_
    repeat walk_at "px"
    refine ⟨fun e => ?_, fun e => ?_⟩
    · have e := of_decide_eq_true e
      have eu : L.aft u = L := by
        rw [show u = u / 2 + u / 2 by omega]
        exact aft_swing h0' S _
      repeat walk_at "px"
      refine f_after H0 H2 H1 H4 H5 H6 H7 H11 H13 H16 H18 H19 H21 H22 H23 G (t := u) (by omega) w8 fun h9 l9 => ?_
      have t9 := l9.g t8
      repeat walk_at "px"
      refine ⟨_, eq_same eu, ?_⟩
      repeat walk_at "px"
      refine ok_lam t9 ?_
      repeat walk_at "px"
      refine xrest H0 H1 H2 H4 H5 H6 H7 H9 H11 H13 H15 H16 H18 H19 H20 H21 H22 H23 H24 H25 H26 H38 H39 H40 H45 H41 H42 H43 H44 S__law_swings S_law R_need_resting R_rest R_rest_time G sB l9.wf fun ha la => ?_
      refine .inl ⟨0, .bl true, rfl, rfl, ?_⟩
      repeat walk_at "px"
      refine ok_lam (la.g t9) ?_
      repeat walk_at "px"
      refine xtime H0 H1 H2 H4 H5 H6 H7 H9 H11 H13 H15 H16 H18 H19 H20 H21 H22 H23 H24 H25 H26 H38 H39 H40 H45 H41 H42 H43 H44 S__law_swings S_law R_need_resting R_rest R_rest_time G sB la.wf fun hb lb => ?_
      refine .inl ⟨0, .bl true, rfl, rfl, ?_⟩
      repeat walk_at "px"
      rfl
    · have e := of_decide_eq_false e
      have eu : L.aft u = L.stp := by
        rw [show u = (u / 2 + u / 2) + 1 by omega, ← aft_add, aft_swing h0' S]
        rfl
      repeat walk_at "px"
      refine g_step H41 H42 H43 G w8 fun h9 l9 => ?_
      have t9 := l9.g t8
      repeat walk_at "px"
      refine f_after H0 H2 H1 H4 H5 H6 H7 H11 H13 H16 H18 H19 H21 H22 H23 G (t := u) (by omega) l9.wf fun h10 l10 => ?_
      have t10 := l10.g t9
      repeat walk_at "px"
      refine ⟨_, eq_same eu, ?_⟩
      repeat walk_at "px"
      refine ok_lam t10 ?_
      repeat walk_at "px"
      refine xrest H0 H1 H2 H4 H5 H6 H7 H9 H11 H13 H15 H16 H18 H19 H20 H21 H22 H23 H24 H25 H26 H38 H39 H40 H45 H41 H42 H43 H44 S__law_swings S_law R_need_resting R_rest R_rest_time G sB l10.wf fun ha la => ?_
      refine .inl ⟨0, .bl true, rfl, rfl, ?_⟩
      repeat walk_at "px"
      refine ok_lam (la.g t10) ?_
      repeat walk_at "px"
      refine xtime H0 H1 H2 H4 H5 H6 H7 H9 H11 H13 H15 H16 H18 H19 H20 H21 H22 H23 H24 H25 H26 H38 H39 H40 H45 H41 H42 H43 H44 S__law_swings S_law R_need_resting R_rest R_rest_time G sB la.wf fun hb lb => ?_
      refine .inl ⟨0, .bl true, rfl, rfl, ?_⟩
      repeat walk_at "px"
      rfl

theorem main (ns : List Int) (hl : ns.length ≤ 63) : ∃ h', callP prg 1000 40 30 [.ref 0] (start2 ns) = .ok (.bl true) h' := mainG H0 H1 H2 H4 H5 H6 H7 H9 H11 H13 H15 H16 H18 H19 H20 H21 H22 H23 H24 H25 H26 H38 H39 H40 H45 H41 H42 H43 H44 ⟨by decide, rfl⟩ ⟨by decide, rfl⟩ ⟨by decide, rfl⟩ ⟨by decide, rfl⟩ ⟨by decide, rfl⟩ ns hl
theorem onlyL : onlyAt txt.lamd 30 txt.defs 0 = true := by kernel_rfl
theorem all_mk {l : PySem.W.OpenLaw} {w : World} {K : PySem.W.Frag} {h : Heap} {mg : Str → Option Value} {fa f0 f1 f2 f3 f4 f5 f6 f7 f8 f9 f10 f11 f12 f13 f14 f15 f16 f17 f18 f19 f20 f21 f22 f23 f24 f25 f26 f27 f28 f29 f30 e0 eb cA tA : Addr} (X : K.In h) (G : h.Ns mainGlobals mg) (hfa : mg "law" = some (.ref fa))
    {ec : Value} {dc : Option Addr} {vc : Array Value} {sc : Array (Option Value)}
    {od0 an0 od1 an1 od2 an2 od3 an3 od4 an4 od5 an5 od6 an6 od7 an7 od8 an8 od9 an9 od10 an10 od11 an11 od12 an12 od13 an13 od14 an14 od15 an15 od16 an16 od17 an17 od18 an18 od19 an19 od20 an20 od21 an21 od22 an22 od23 an23 od24 an24 od25 an25 od26 an26 od27 an27 od28 an28 od29 an29 od30 an30 : Option Addr} {sl0 sl1 sl2 sl3 sl4 sl5 sl6 sl7 sl8 sl9 sl10 sl11 sl12 sl13 sl14 sl15 sl16 sl17 sl18 sl19 sl20 sl21 sl22 sl23 sl24 sl25 sl26 sl27 sl28 sl29 sl30 : Array (Option Value)} {oc0 kV0 dc0 pm0 cd0 ct0 oc1 kV1 dc1 pm1 cd1 ct1 oc2 kV2 dc2 pm2 cd2 ct2 oc3 kV3 dc3 pm3 cd3 ct3 oc4 kV4 dc4 pm4 cd4 ct4 oc5 kV5 dc5 pm5 cd5 ct5 oc6 kV6 dc6 pm6 cd6 ct6 oc7 kV7 dc7 pm7 cd7 ct7 oc8 kV8 dc8 pm8 cd8 ct8 oc9 kV9 dc9 pm9 cd9 ct9 oc10 kV10 dc10 pm10 cd10 ct10 oc11 kV11 dc11 pm11 cd11 ct11 oc12 kV12 dc12 pm12 cd12 ct12 oc13 kV13 dc13 pm13 cd13 ct13 oc14 kV14 dc14 pm14 cd14 ct14 oc15 kV15 dc15 pm15 cd15 ct15 oc16 kV16 dc16 pm16 cd16 ct16 oc17 kV17 dc17 pm17 cd17 ct17 oc18 kV18 dc18 pm18 cd18 ct18 oc19 kV19 dc19 pm19 cd19 ct19 oc20 kV20 dc20 pm20 cd20 ct20 oc21 kV21 dc21 pm21 cd21 ct21 oc22 kV22 dc22 pm22 cd22 ct22 oc23 kV23 dc23 pm23 cd23 ct23 oc24 kV24 dc24 pm24 cd24 ct24 oc25 kV25 dc25 pm25 cd25 ct25 oc26 kV26 dc26 pm26 cd26 ct26 oc27 kV27 dc27 pm27 cd27 ct27 oc28 kV28 dc28 pm28 cd28 ct28 oc29 kV29 dc29 pm29 cd29 ct29 oc30 kV30 dc30 pm30 ct30 : Value} {t0 t1 t2 t3 : Tok}
    (a0 : PySem.W.nsIn K mainGlobals "is_in" = some (some (.ref f0))) (l0 : K.lookup f0 = some ⟨oc0, od0, .func (PySem.W.fnOf "is_in" "is_in" (defArgs s_is_in) (defBody s_is_in) (defScope s_is_in) .none kV0 dc0 pm0 an0 cd0 ct0), sl0⟩) (c0 : PySem.W.codeIn K cd0 "is_in" = true) (k0 : PySem.W.keepIn K (.ref f0) = true)
    (a1 : PySem.W.nsIn K mainGlobals "need_line" = some (some (.ref f1))) (l1 : K.lookup f1 = some ⟨oc1, od1, .func (PySem.W.fnOf "need_line" "need_line" (defArgs s_need_line) (defBody s_need_line) (defScope s_need_line) .none kV1 dc1 pm1 an1 cd1 ct1), sl1⟩) (c1 : PySem.W.codeIn K cd1 "need_line" = true) (k1 : PySem.W.keepIn K (.ref f1) = true)
    (a2 : PySem.W.nsIn K mainGlobals "is_cells" = some (some (.ref f2))) (l2 : K.lookup f2 = some ⟨oc2, od2, .func (PySem.W.fnOf "is_cells" "is_cells" (defArgs s_is_cells) (defBody s_is_cells) (defScope s_is_cells) .none kV2 dc2 pm2 an2 cd2 ct2), sl2⟩) (c2 : PySem.W.codeIn K cd2 "is_cells" = true) (k2 : PySem.W.keepIn K (.ref f2) = true)
    (a3 : PySem.W.nsIn K mainGlobals "held_in" = some (some (.ref f3))) (l3 : K.lookup f3 = some ⟨oc3, od3, .func (PySem.W.fnOf "held_in" "held_in" (defArgs s_held_in) (defBody s_held_in) (defScope s_held_in) .none kV3 dc3 pm3 an3 cd3 ct3), sl3⟩) (c3 : PySem.W.codeIn K cd3 "held_in" = true) (k3 : PySem.W.keepIn K (.ref f3) = true)
    (a4 : PySem.W.nsIn K mainGlobals "flanks" = some (some (.ref f4))) (l4 : K.lookup f4 = some ⟨oc4, od4, .func (PySem.W.fnOf "flanks" "flanks" (defArgs s_flanks) (defBody s_flanks) (defScope s_flanks) .none kV4 dc4 pm4 an4 cd4 ct4), sl4⟩) (c4 : PySem.W.codeIn K cd4 "flanks" = true) (k4 : PySem.W.keepIn K (.ref f4) = true)
    (a5 : PySem.W.nsIn K mainGlobals "is_flanked" = some (some (.ref f5))) (l5 : K.lookup f5 = some ⟨oc5, od5, .func (PySem.W.fnOf "is_flanked" "is_flanked" (defArgs s_is_flanked) (defBody s_is_flanked) (defScope s_is_flanked) .none kV5 dc5 pm5 an5 cd5 ct5), sl5⟩) (c5 : PySem.W.codeIn K cd5 "is_flanked" = true) (k5 : PySem.W.keepIn K (.ref f5) = true)
    (a6 : PySem.W.nsIn K mainGlobals "ready_in" = some (some (.ref f6))) (l6 : K.lookup f6 = some ⟨oc6, od6, .func (PySem.W.fnOf "ready_in" "ready_in" (defArgs s_ready_in) (defBody s_ready_in) (defScope s_ready_in) .none kV6 dc6 pm6 an6 cd6 ct6), sl6⟩) (c6 : PySem.W.codeIn K cd6 "ready_in" = true) (k6 : PySem.W.keepIn K (.ref f6) = true)
    (a7 : PySem.W.nsIn K mainGlobals "with_turned" = some (some (.ref f7))) (l7 : K.lookup f7 = some ⟨oc7, od7, .func (PySem.W.fnOf "with_turned" "with_turned" (defArgs s_with_turned) (defBody s_with_turned) (defScope s_with_turned) .none kV7 dc7 pm7 an7 cd7 ct7), sl7⟩) (c7 : PySem.W.codeIn K cd7 "with_turned" = true) (k7 : PySem.W.keepIn K (.ref f7) = true)
    (a8 : PySem.W.nsIn K mainGlobals "swings_in" = some (some (.ref f8))) (l8 : K.lookup f8 = some ⟨oc8, od8, .func (PySem.W.fnOf "swings_in" "swings_in" (defArgs s_swings_in) (defBody s_swings_in) (defScope s_swings_in) .none kV8 dc8 pm8 an8 cd8 ct8), sl8⟩) (c8 : PySem.W.codeIn K cd8 "swings_in" = true) (k8 : PySem.W.keepIn K (.ref f8) = true)
    (a9 : PySem.W.nsIn K mainGlobals "stretches_in" = some (some (.ref f9))) (l9 : K.lookup f9 = some ⟨oc9, od9, .func (PySem.W.fnOf "stretches_in" "stretches_in" (defArgs s_stretches_in) (defBody s_stretches_in) (defScope s_stretches_in) .none kV9 dc9 pm9 an9 cd9 ct9), sl9⟩) (c9 : PySem.W.codeIn K cd9 "stretches_in" = true) (k9 : PySem.W.keepIn K (.ref f9) = true)
    (a10 : PySem.W.nsIn K mainGlobals "need_resting" = some (some (.ref f10))) (l10 : K.lookup f10 = some ⟨oc10, od10, .func (PySem.W.fnOf "need_resting" "need_resting" (defArgs s_need_resting) (defBody s_need_resting) (defScope s_need_resting) .none kV10 dc10 pm10 an10 cd10 ct10), sl10⟩) (c10 : PySem.W.codeIn K cd10 "need_resting" = true) (k10 : PySem.W.keepIn K (.ref f10) = true)
    (a11 : PySem.W.nsIn K mainGlobals "depths_in" = some (some (.ref f11))) (l11 : K.lookup f11 = some ⟨oc11, od11, .func (PySem.W.fnOf "depths_in" "depths_in" (defArgs s_depths_in) (defBody s_depths_in) (defScope s_depths_in) .none kV11 dc11 pm11 an11 cd11 ct11), sl11⟩) (c11 : PySem.W.codeIn K cd11 "depths_in" = true) (k11 : PySem.W.keepIn K (.ref f11) = true)
    (a12 : PySem.W.nsIn K mainGlobals "need_time" = some (some (.ref f12))) (l12 : K.lookup f12 = some ⟨oc12, od12, .func (PySem.W.fnOf "need_time" "need_time" (defArgs s_need_time) (defBody s_need_time) (defScope s_need_time) .none kV12 dc12 pm12 an12 cd12 ct12), sl12⟩) (c12 : PySem.W.codeIn K cd12 "need_time" = true) (k12 : PySem.W.keepIn K (.ref f12) = true)
    (a13 : PySem.W.nsIn K mainGlobals "with_cells" = some (some (.ref f13))) (l13 : K.lookup f13 = some ⟨oc13, od13, .func (PySem.W.fnOf "with_cells" "with_cells" (defArgs s_with_cells) (defBody s_with_cells) (defScope s_with_cells) .none kV13 dc13 pm13 an13 cd13 ct13), sl13⟩) (c13 : PySem.W.codeIn K cd13 "with_cells" = true) (k13 : PySem.W.keepIn K (.ref f13) = true)
    (a14 : PySem.W.nsIn K mainGlobals "step" = some (some (.ref f14))) (l14 : K.lookup f14 = some ⟨oc14, od14, .func (PySem.W.fnOf "step" "step" (defArgs s_step) (defBody s_step) (defScope s_step) .none kV14 dc14 pm14 an14 cd14 ct14), sl14⟩) (c14 : PySem.W.codeIn K cd14 "step" = true) (k14 : PySem.W.keepIn K (.ref f14) = true)
    (a15 : PySem.W.nsIn K mainGlobals "turns_in" = some (some (.ref f15))) (l15 : K.lookup f15 = some ⟨oc15, od15, .func (PySem.W.fnOf "turns_in" "turns_in" (defArgs s_turns_in) (defBody s_turns_in) (defScope s_turns_in) .none kV15 dc15 pm15 an15 cd15 ct15), sl15⟩) (c15 : PySem.W.codeIn K cd15 "turns_in" = true) (k15 : PySem.W.keepIn K (.ref f15) = true)
    (a16 : PySem.W.nsIn K mainGlobals "cells_after" = some (some (.ref f16))) (l16 : K.lookup f16 = some ⟨oc16, od16, .func (PySem.W.fnOf "cells_after" "cells_after" (defArgs s_cells_after) (defBody s_cells_after) (defScope s_cells_after) .none kV16 dc16 pm16 an16 cd16 ct16), sl16⟩) (c16 : PySem.W.codeIn K cd16 "cells_after" = true) (k16 : PySem.W.keepIn K (.ref f16) = true)
    (a17 : PySem.W.nsIn K mainGlobals "after" = some (some (.ref f17))) (l17 : K.lookup f17 = some ⟨oc17, od17, .func (PySem.W.fnOf "after" "after" (defArgs s_after) (defBody s_after) (defScope s_after) .none kV17 dc17 pm17 an17 cd17 ct17), sl17⟩) (c17 : PySem.W.codeIn K cd17 "after" = true) (k17 : PySem.W.keepIn K (.ref f17) = true)
    (a18 : PySem.W.nsIn K mainGlobals "rest_cells" = some (some (.ref f18))) (l18 : K.lookup f18 = some ⟨oc18, od18, .func (PySem.W.fnOf "rest_cells" "rest_cells" (defArgs s_rest_cells) (defBody s_rest_cells) (defScope s_rest_cells) .none kV18 dc18 pm18 an18 cd18 ct18), sl18⟩) (c18 : PySem.W.codeIn K cd18 "rest_cells" = true) (k18 : PySem.W.keepIn K (.ref f18) = true)
    (a19 : PySem.W.nsIn K mainGlobals "rest" = some (some (.ref f19))) (l19 : K.lookup f19 = some ⟨oc19, od19, .func (PySem.W.fnOf "rest" "rest" (defArgs s_rest) (defBody s_rest) (defScope s_rest) .none kV19 dc19 pm19 an19 cd19 ct19), sl19⟩) (c19 : PySem.W.codeIn K cd19 "rest" = true) (k19 : PySem.W.keepIn K (.ref f19) = true)
    (a20 : PySem.W.nsIn K mainGlobals "rest_time" = some (some (.ref f20))) (l20 : K.lookup f20 = some ⟨oc20, od20, .func (PySem.W.fnOf "rest_time" "rest_time" (defArgs s_rest_time) (defBody s_rest_time) (defScope s_rest_time) .none kV20 dc20 pm20 an20 cd20 ct20), sl20⟩) (c20 : PySem.W.codeIn K cd20 "rest_time" = true) (k20 : PySem.W.keepIn K (.ref f20) = true)
    (a21 : PySem.W.nsIn K mainGlobals "_law_taken" = some (some (.ref f21))) (l21 : K.lookup f21 = some ⟨oc21, od21, .func (PySem.W.fnOf "_law_taken" "_law_taken" (defArgs s__law_taken) (defBody s__law_taken) (defScope s__law_taken) .none kV21 dc21 pm21 an21 cd21 ct21), sl21⟩) (c21 : PySem.W.codeIn K cd21 "_law_taken" = true) (k21 : PySem.W.keepIn K (.ref f21) = true)
    (a22 : PySem.W.nsIn K mainGlobals "_law_pick" = some (some (.ref f22))) (l22 : K.lookup f22 = some ⟨oc22, od22, .func (PySem.W.fnOf "_law_pick" "_law_pick" (defArgs s__law_pick) (defBody s__law_pick) (defScope s__law_pick) .none kV22 dc22 pm22 an22 cd22 ct22), sl22⟩) (c22 : PySem.W.codeIn K cd22 "_law_pick" = true) (k22 : PySem.W.keepIn K (.ref f22) = true)
    (a23 : PySem.W.nsIn K mainGlobals "_law_line" = some (some (.ref f23))) (l23 : K.lookup f23 = some ⟨oc23, od23, .func (PySem.W.fnOf "_law_line" "_law_line" (defArgs s__law_line) (defBody s__law_line) (defScope s__law_line) .none kV23 dc23 pm23 an23 cd23 ct23), sl23⟩) (c23 : PySem.W.codeIn K cd23 "_law_line" = true) (k23 : PySem.W.keepIn K (.ref f23) = true)
    (a24 : PySem.W.nsIn K mainGlobals "_law_alike" = some (some (.ref f24))) (l24 : K.lookup f24 = some ⟨oc24, od24, .func (PySem.W.fnOf "_law_alike" "_law_alike" (defArgs s__law_alike) (defBody s__law_alike) (defScope s__law_alike) .none kV24 dc24 pm24 an24 cd24 ct24), sl24⟩) (c24 : PySem.W.codeIn K cd24 "_law_alike" = true) (k24 : PySem.W.keepIn K (.ref f24) = true)
    (a25 : PySem.W.nsIn K mainGlobals "_law_held" = some (some (.ref f25))) (l25 : K.lookup f25 = some ⟨oc25, od25, .func (PySem.W.fnOf "_law_held" "_law_held" (defArgs s__law_held) (defBody s__law_held) (defScope s__law_held) .none kV25 dc25 pm25 an25 cd25 ct25), sl25⟩) (c25 : PySem.W.codeIn K cd25 "_law_held" = true) (k25 : PySem.W.keepIn K (.ref f25) = true)
    (a26 : PySem.W.nsIn K mainGlobals "_law_ready" = some (some (.ref f26))) (l26 : K.lookup f26 = some ⟨oc26, od26, .func (PySem.W.fnOf "_law_ready" "_law_ready" (defArgs s__law_ready) (defBody s__law_ready) (defScope s__law_ready) .none kV26 dc26 pm26 an26 cd26 ct26), sl26⟩) (c26 : PySem.W.codeIn K cd26 "_law_ready" = true) (k26 : PySem.W.keepIn K (.ref f26) = true)
    (a27 : PySem.W.nsIn K mainGlobals "_law_step" = some (some (.ref f27))) (l27 : K.lookup f27 = some ⟨oc27, od27, .func (PySem.W.fnOf "_law_step" "_law_step" (defArgs s__law_step) (defBody s__law_step) (defScope s__law_step) .none kV27 dc27 pm27 an27 cd27 ct27), sl27⟩) (c27 : PySem.W.codeIn K cd27 "_law_step" = true) (k27 : PySem.W.keepIn K (.ref f27) = true)
    (a28 : PySem.W.nsIn K mainGlobals "_law_run" = some (some (.ref f28))) (l28 : K.lookup f28 = some ⟨oc28, od28, .func (PySem.W.fnOf "_law_run" "_law_run" (defArgs s__law_run) (defBody s__law_run) (defScope s__law_run) .none kV28 dc28 pm28 an28 cd28 ct28), sl28⟩) (c28 : PySem.W.codeIn K cd28 "_law_run" = true) (k28 : PySem.W.keepIn K (.ref f28) = true)
    (a29 : PySem.W.nsIn K mainGlobals "_law_swings" = some (some (.ref f29))) (l29 : K.lookup f29 = some ⟨oc29, od29, .func (PySem.W.fnOf "_law_swings" "_law_swings" (defArgs s__law_swings) (defBody s__law_swings) (defScope s__law_swings) .none kV29 dc29 pm29 an29 cd29 ct29), sl29⟩) (c29 : PySem.W.codeIn K cd29 "_law_swings" = true) (k29 : PySem.W.keepIn K (.ref f29) = true)
    (a30 : PySem.W.nsIn K mainGlobals "law" = some (some (.ref f30))) (l30 : K.lookup f30 = some ⟨oc30, od30, .func (PySem.W.fnOf "law" "law" (defArgs s_law) (defBody s_law) (defScope s_law) .none kV30 dc30 pm30 an30 (.ref cA) ct30), sl30⟩) (c30 : PySem.W.codeIn K (.ref cA) "law" = true) (k30 : PySem.W.keepIn K (.ref f30) = true)
    (g0 : PySem.W.nsIn K mainGlobals "MOST_CELLS" = some (some (.int 40 t0)))
    (g1 : PySem.W.nsIn K mainGlobals "MOST_COLOUR" = some (some (.int 9 t1)))
    (g2 : PySem.W.nsIn K mainGlobals "LEAST_RING" = some (some (.int 3 t2)))
    (g3 : PySem.W.nsIn K mainGlobals "MOST_TIME" = some (some (.int 1000000 t3)))
    (z0 : PySem.W.nsIn K mainGlobals "int" = some none)
    (z1 : PySem.W.nsIn K mainGlobals "isinstance" = some none)
    (z2 : PySem.W.nsIn K mainGlobals "len" = some none)
    (z3 : PySem.W.nsIn K mainGlobals "range" = some none)
    (z4 : PySem.W.nsIn K mainGlobals "list" = some none)
    (z5 : PySem.W.nsIn K mainGlobals "tuple" = some none)
    (z6 : PySem.W.nsIn K mainGlobals "set" = some none)
    (z7 : PySem.W.nsIn K mainGlobals "sorted" = some none)
    (z8 : PySem.W.nsIn K mainGlobals "bool" = some none)
    (z9 : PySem.W.nsIn K mainGlobals "enumerate" = some none)
    (z10 : PySem.W.nsIn K mainGlobals "max" = some none)
    (z11 : PySem.W.nsIn K mainGlobals "min" = some none)
    (z12 : PySem.W.nsIn K mainGlobals "str" = some none)
    (eba : PySem.W.nsIn K mainGlobals "FlankError" = some (some (.ref eb))) (ebn : PySem.W.specialIn K (.builtin "object.__class__") "__get__" = some (some (.builtin "getset_descriptor.__get__"))) (ebt : PySem.W.takesIn K (.builtin "object.__class__") = some true) (ebs : PySem.W.subIn K (.ref eb) (.type "BaseException") = some true) (ebd : PySem.W.hasDictIn K eb = true) (eby : PySem.W.typeIn K (.ref eb) = some (.type "type"))
    (ea0 : PySem.W.nsIn K mainGlobals "Swings" = some (some (.ref e0))) (ek0 : PySem.W.keepIn K (.ref e0) = true) (ex0 : PySem.W.excIn K e0 [.type "ValueError", .type "Exception", .type "BaseException", .type "object"] "ValueError.__new__" = true) (es0 : PySem.W.subIn K (.ref e0) (.type "BaseException") = some true) (et0 : PySem.W.typeIn K (.ref e0) = some (.type "type"))
    (eg0 : PySem.W.findIn K (.ref e0) "__getattribute__" = some (some (.builtin "BaseException.__getattribute__"))) (eh0 : PySem.W.findIn K (.ref e0) "__getattr__" = some none) (ed0 : PySem.W.hasDictIn K e0 = true) (ec0 : PySem.W.findIn K (.ref e0) "__class__" = some (some (.builtin "object.__class__")))
    (em0 : PySem.W.mroIn K e0 (.type "object") = some true) (eo0 : PySem.W.subIn K (.ref e0) (.ref eb) = some true)
    (lt0 : K.lookup cA = some ⟨ec, dc, .fields vc, sc⟩) (lt1 : vc[11]? = some (.ref tA)) (lt2 : PySem.W.codeHdIn [(cA, ⟨ec, dc, .fields vc, sc⟩)] cA tA = true) (lt3 : K.lookup tA = none) (own : LamX.OwnTab K fa h)
    (hpr : w = w)
    : LamX.LawAtS l w K (L2.CX l.prog w) 120 63 "_law_script" mg fa h := by
  have e := hfa.symm.trans (PySem.W.mg_of X G a30)
  cases e
  have FA : ∀ o : Option Addr, Facts ⟨K, w, fun k => ([f0, f1, f2, f3, f4, f5, f6, f7, f8, f9, f10, f11, f12, f13, f14, f15, f16, f17, f18, f19, f20, f21, f22, f23, f24, f25, f26, f27, f28, f29, fa] : List Addr).getD k 0, fun k => ([e0] : List Addr).getD k 0, cA, tA, "law" ++ ".<locals>." ++ "<lambda>", o⟩ mg txt := fun o => facts_of
    ⟨⟨_, fun_mk (st := s_is_in) l0 c0 k0, PySem.W.mg_of X G a0, (fun_mk (st := s_is_in) l0 c0 k0).binds (ps := ["value", "least", "most"]) fun _ _ _ _ _ _ us hl => match us, hl with | [_, _, _], _ => rfl⟩,
      ⟨_, fun_mk (st := s_need_line) l1 c1 k1, PySem.W.mg_of X G a1, (fun_mk (st := s_need_line) l1 c1 k1).binds (ps := ["line"]) fun _ _ _ _ _ _ us hl => match us, hl with | [_], _ => rfl⟩,
      ⟨_, fun_mk (st := s_is_cells) l2 c2 k2, PySem.W.mg_of X G a2, (fun_mk (st := s_is_cells) l2 c2 k2).binds (ps := ["many", "value"]) fun _ _ _ _ _ _ us hl => match us, hl with | [_, _], _ => rfl⟩,
      ⟨_, fun_mk (st := s_held_in) l3 c3 k3, PySem.W.mg_of X G a3, (fun_mk (st := s_held_in) l3 c3 k3).binds (ps := ["line"]) fun _ _ _ _ _ _ us hl => match us, hl with | [_], _ => rfl⟩,
      ⟨_, fun_mk (st := s_flanks) l4 c4 k4, PySem.W.mg_of X G a4, (fun_mk (st := s_flanks) l4 c4 k4).binds (ps := ["many", "cell"]) fun _ _ _ _ _ _ us hl => match us, hl with | [_, _], _ => rfl⟩,
      ⟨_, fun_mk (st := s_is_flanked) l5 c5 k5, PySem.W.mg_of X G a5, (fun_mk (st := s_is_flanked) l5 c5 k5).binds (ps := ["cells", "cell"]) fun _ _ _ _ _ _ us hl => match us, hl with | [_, _], _ => rfl⟩,
      ⟨_, fun_mk (st := s_ready_in) l6 c6 k6, PySem.W.mg_of X G a6, (fun_mk (st := s_ready_in) l6 c6 k6).binds (ps := ["line"]) fun _ _ _ _ _ _ us hl => match us, hl with | [_], _ => rfl⟩,
      ⟨_, fun_mk (st := s_with_turned) l7 c7 k7, PySem.W.mg_of X G a7, (fun_mk (st := s_with_turned) l7 c7 k7).binds (ps := ["cells", "some"]) fun _ _ _ _ _ _ us hl => match us, hl with | [_, _], _ => rfl⟩,
      ⟨_, fun_mk (st := s_swings_in) l8 c8 k8, PySem.W.mg_of X G a8, (fun_mk (st := s_swings_in) l8 c8 k8).binds (ps := ["line"]) fun _ _ _ _ _ _ us hl => match us, hl with | [_], _ => rfl⟩,
      ⟨_, fun_mk (st := s_stretches_in) l9 c9 k9, PySem.W.mg_of X G a9, (fun_mk (st := s_stretches_in) l9 c9 k9).binds (ps := ["line"]) fun _ _ _ _ _ _ us hl => match us, hl with | [_], _ => rfl⟩,
      ⟨_, fun_mk (st := s_need_resting) l10 c10 k10, PySem.W.mg_of X G a10, (fun_mk (st := s_need_resting) l10 c10 k10).binds (ps := ["line"]) fun _ _ _ _ _ _ us hl => match us, hl with | [_], _ => rfl⟩,
      ⟨_, fun_mk (st := s_depths_in) l11 c11 k11, PySem.W.mg_of X G a11, (fun_mk (st := s_depths_in) l11 c11 k11).binds (ps := ["line"]) fun _ _ _ _ _ _ us hl => match us, hl with | [_], _ => rfl⟩,
      ⟨_, fun_mk (st := s_need_time) l12 c12 k12, PySem.W.mg_of X G a12, (fun_mk (st := s_need_time) l12 c12 k12).binds (ps := ["many"]) fun _ _ _ _ _ _ us hl => match us, hl with | [_], _ => rfl⟩,
      ⟨_, fun_mk (st := s_with_cells) l13 c13 k13, PySem.W.mg_of X G a13, (fun_mk (st := s_with_cells) l13 c13 k13).binds (ps := ["line", "cells"]) fun _ _ _ _ _ _ us hl => match us, hl with | [_, _], _ => rfl⟩,
      ⟨_, fun_mk (st := s_step) l14 c14 k14, PySem.W.mg_of X G a14, (fun_mk (st := s_step) l14 c14 k14).binds (ps := ["line"]) fun _ _ _ _ _ _ us hl => match us, hl with | [_], _ => rfl⟩,
      ⟨_, fun_mk (st := s_turns_in) l15 c15 k15, PySem.W.mg_of X G a15, (fun_mk (st := s_turns_in) l15 c15 k15).binds (ps := ["line", "many"]) fun _ _ _ _ _ _ us hl => match us, hl with | [_, _], _ => rfl⟩,
      ⟨_, fun_mk (st := s_cells_after) l16 c16 k16, PySem.W.mg_of X G a16, (fun_mk (st := s_cells_after) l16 c16 k16).binds (ps := ["line", "many"]) fun _ _ _ _ _ _ us hl => match us, hl with | [_, _], _ => rfl⟩,
      ⟨_, fun_mk (st := s_after) l17 c17 k17, PySem.W.mg_of X G a17, (fun_mk (st := s_after) l17 c17 k17).binds (ps := ["line", "many"]) fun _ _ _ _ _ _ us hl => match us, hl with | [_, _], _ => rfl⟩,
      ⟨_, fun_mk (st := s_rest_cells) l18 c18 k18, PySem.W.mg_of X G a18, (fun_mk (st := s_rest_cells) l18 c18 k18).binds (ps := ["line"]) fun _ _ _ _ _ _ us hl => match us, hl with | [_], _ => rfl⟩,
      ⟨_, fun_mk (st := s_rest) l19 c19 k19, PySem.W.mg_of X G a19, (fun_mk (st := s_rest) l19 c19 k19).binds (ps := ["line"]) fun _ _ _ _ _ _ us hl => match us, hl with | [_], _ => rfl⟩,
      ⟨_, fun_mk (st := s_rest_time) l20 c20 k20, PySem.W.mg_of X G a20, (fun_mk (st := s_rest_time) l20 c20 k20).binds (ps := ["line"]) fun _ _ _ _ _ _ us hl => match us, hl with | [_], _ => rfl⟩,
      ⟨_, fun_mk (st := s__law_taken) l21 c21 k21, PySem.W.mg_of X G a21, (fun_mk (st := s__law_taken) l21 c21 k21).binds (ps := ["_law_row", "_law_many"]) fun _ _ _ _ _ _ us hl => match us, hl with | [_, _], _ => rfl⟩,
      ⟨_, fun_mk (st := s__law_pick) l22 c22 k22, PySem.W.mg_of X G a22, (fun_mk (st := s__law_pick) l22 c22 k22).binds (ps := ["_law_row", "_law_things"]) fun _ _ _ _ _ _ us hl => match us, hl with | [_, _], _ => rfl⟩,
      ⟨_, fun_mk (st := s__law_line) l23 c23 k23, PySem.W.mg_of X G a23, (fun_mk (st := s__law_line) l23 c23 k23).binds (ps := ["_law_row", "_law_most", "_law_colours"]) fun _ _ _ _ _ _ us hl => match us, hl with | [_, _, _], _ => rfl⟩,
      ⟨_, fun_mk (st := s__law_alike) l24 c24 k24, PySem.W.mg_of X G a24, (fun_mk (st := s__law_alike) l24 c24 k24).binds (ps := ["_law_found", "_law_due"]) fun _ _ _ _ _ _ us hl => match us, hl with | [_, _], _ => rfl⟩,
      ⟨_, fun_mk (st := s__law_held) l25 c25 k25, PySem.W.mg_of X G a25, (fun_mk (st := s__law_held) l25 c25 k25).binds (ps := ["_law_line_here"]) fun _ _ _ _ _ _ us hl => match us, hl with | [_], _ => rfl⟩,
      ⟨_, fun_mk (st := s__law_ready) l26 c26 k26, PySem.W.mg_of X G a26, (fun_mk (st := s__law_ready) l26 c26 k26).binds (ps := ["_law_line_here"]) fun _ _ _ _ _ _ us hl => match us, hl with | [_], _ => rfl⟩,
      ⟨_, fun_mk (st := s__law_step) l27 c27 k27, PySem.W.mg_of X G a27, (fun_mk (st := s__law_step) l27 c27 k27).binds (ps := ["_law_line_here"]) fun _ _ _ _ _ _ us hl => match us, hl with | [_], _ => rfl⟩,
      ⟨_, fun_mk (st := s__law_run) l28 c28 k28, PySem.W.mg_of X G a28, (fun_mk (st := s__law_run) l28 c28 k28).binds (ps := ["_law_line_here"]) fun _ _ _ _ _ _ us hl => match us, hl with | [_], _ => rfl⟩,
      ⟨_, fun_mk (st := s__law_swings) l29 c29 k29, PySem.W.mg_of X G a29, (fun_mk (st := s__law_swings) l29 c29 k29).binds (ps := ["_law_work"]) fun _ _ _ _ _ _ us hl => match us, hl with | [_], _ => rfl⟩,
      ⟨_, fun_mk (st := s_law) l30 c30 k30, PySem.W.mg_of X G a30, (fun_mk (st := s_law) l30 c30 k30).binds (ps := ["_law_script"]) fun _ _ _ _ _ _ us hl => match us, hl with | [_], _ => rfl⟩, trivial⟩
    ⟨ko_int (PySem.W.mg_of X G g0), ko_int (PySem.W.mg_of X G g1), ko_int (PySem.W.mg_of X G g2), ko_int (PySem.W.mg_of X G g3), trivial⟩
    ⟨PySem.W.mg_none_of X G z0, PySem.W.mg_none_of X G z1, PySem.W.mg_none_of X G z2, PySem.W.mg_none_of X G z3, PySem.W.mg_none_of X G z4, PySem.W.mg_none_of X G z5, PySem.W.mg_none_of X G z6, PySem.W.mg_none_of X G z7, PySem.W.mg_none_of X G z8, PySem.W.mg_none_of X G z9, PySem.W.mg_none_of X G z10, PySem.W.mg_none_of X G z11, PySem.W.mg_none_of X G z12, trivial⟩
    ⟨fun x i z => by
        simp only [txt, List.mem_cons, List.mem_nil_iff, or_false, Prod.mk.injEq] at z
        rcases z with ⟨z1, z2⟩
        · subst z1; subst z2; exact ⟨PySem.W.mg_of X G ea0, ek0, ⟨_, _, _, _, PySem.F.excBase_ValueError, ex0⟩, es0, et0, ⟨eg0, eh0, es0, ed0, ec0, ebn, ebt, em0⟩⟩
      , fun x i y j z1 z2 => by
        simp only [txt, List.mem_cons, List.mem_nil_iff, or_false, Prod.mk.injEq] at z1 z2
        rcases z1 with ⟨_, _⟩ <;> rcases z2 with ⟨_, _⟩ <;> (rename_i a1 a2 b1 b2; subst a2; subst b2)
        · exact kit_self
      , fun _ => ⟨eb, PySem.W.mg_of X G eba, fun x i z => by
        simp only [txt, List.mem_cons, List.mem_nil_iff, or_false, Prod.mk.injEq] at z
        rcases z with ⟨z1, z2⟩
        · subst z2; exact PySem.W.exm_ref ebs ebd eby eo0
      ⟩⟩
    (lam_fact (li := 30) onlyL rfl l30 rfl rfl)
  have tA0 := own cA tA _ _ _ _ _ _ l30 rfl rfl lt0 lt1
  exact ⟨_, [(cA, tA)], spLawT K tA, fun p hp => by (rcases List.mem_cons.mp hp with z | z; (rw [z]; exact tA0); (cases z)), fun p hp => by (rcases List.mem_cons.mp hp with z | z; (rw [z]; exact lt3); (cases z)), fun p hp => by (rcases List.mem_cons.mp hp with z | z; (rw [z]; exact PySem.W.codeHd_of_K X (codeHd_by lt0 lt2)); (cases z)),
    fun s v => .of_eq rfl, fun H a ns hlen _ hH hS => ⟨a, ns, rfl, hS, hlen, hH _ (List.mem_cons_self ..), fun _ => rfl⟩, fun base _ _ TB =>
    fnT (c := fun o => ⟨K, w, fun k => ([f0, f1, f2, f3, f4, f5, f6, f7, f8, f9, f10, f11, f12, f13, f14, f15, f16, f17, f18, f19, f20, f21, f22, f23, f24, f25, f26, f27, f28, f29, fa] : List Addr).getD k 0, fun k => ([e0] : List Addr).getD k 0, cA, tA, "law" ++ ".<locals>." ++ "<lambda>", o⟩) (k := 30) (P := tA) (fun _ => rfl) (fun _ => rfl) (fun _ => rfl) rfl main (fun o => fn_ok (FA o) isP (fun _ => TB _ (List.mem_cons_self ..)) 40 30 d_law rfl _ (fun_mk (st := s_law) l30 c30 k30))⟩
end Lk04
open PySem PySem.W PyProof.Rows
set_option maxHeartbeats 0 in
theorem PySem.Challenge.cw_flankturns_k04_whole_steps_holds : PySem.Challenge.rw_flankturns_k04_whole_steps.Holds := by
  w_on; o_law; k_head; (case hw => w_witness2)
  k_fill
  refine LamX.walk_ofOwn (l := PySem.Challenge.rw_flankturns_k04_whole_steps) (n := 63) (k := 120) (x := "_law_script") (CX := fun w => L2.CX (PySem.Challenge.rw_flankturns_k04_whole_steps).prog w) rfl (by decide) rfl ⟨rfl, by decide, by decide⟩ ?hrec (fun w h Y => PySem.W.km_in_of Y) ?F (fun _ _ _ _ _ h => by obtain ⟨_, _, _, _, _, _, _, _, _, _, _, _, z⟩ := h; exact z)
  (case hrec => kernel_rfl)
  case F =>
    intro w mg fa h _ KX G hmg own
    refine' Lk04.all_mk KX G hmg ?pa0 ?pl0 ?pc0 ?pk0 ?pa1 ?pl1 ?pc1 ?pk1 ?pa2 ?pl2 ?pc2 ?pk2 ?pa3 ?pl3 ?pc3 ?pk3 ?pa4 ?pl4 ?pc4 ?pk4 ?pa5 ?pl5 ?pc5 ?pk5 ?pa6 ?pl6 ?pc6 ?pk6 ?pa7 ?pl7 ?pc7 ?pk7 ?pa8 ?pl8 ?pc8 ?pk8 ?pa9 ?pl9 ?pc9 ?pk9 ?pa10 ?pl10 ?pc10 ?pk10 ?pa11 ?pl11 ?pc11 ?pk11 ?pa12 ?pl12 ?pc12 ?pk12 ?pa13 ?pl13 ?pc13 ?pk13 ?pa14 ?pl14 ?pc14 ?pk14 ?pa15 ?pl15 ?pc15 ?pk15 ?pa16 ?pl16 ?pc16 ?pk16 ?pa17 ?pl17 ?pc17 ?pk17 ?pa18 ?pl18 ?pc18 ?pk18 ?pa19 ?pl19 ?pc19 ?pk19 ?pa20 ?pl20 ?pc20 ?pk20 ?pa21 ?pl21 ?pc21 ?pk21 ?pa22 ?pl22 ?pc22 ?pk22 ?pa23 ?pl23 ?pc23 ?pk23 ?pa24 ?pl24 ?pc24 ?pk24 ?pa25 ?pl25 ?pc25 ?pk25 ?pa26 ?pl26 ?pc26 ?pk26 ?pa27 ?pl27 ?pc27 ?pk27 ?pa28 ?pl28 ?pc28 ?pk28 ?pa29 ?pl29 ?pc29 ?pk29 ?pa30 ?pl30 ?pc30 ?pk30 ?pg0 ?pg1 ?pg2 ?pg3 ?pz0 ?pz1 ?pz2 ?pz3 ?pz4 ?pz5 ?pz6 ?pz7 ?pz8 ?pz9 ?pz10 ?pz11 ?pz12 ?peba ?pebn ?pebt ?pebs ?pebd ?peby ?pea0 ?pek0 ?pex0 ?pes0 ?pet0 ?peg0 ?peh0 ?ped0 ?pec0 ?pem0 ?peo0 ?plt0 ?plt1 ?plt2 ?plt3 own rfl
    (case pa0 => k_is)
    (case pl0 => k_is)
    (case pc0 => k_is)
    (case pk0 => k_is)
    (case pa1 => k_is)
    (case pl1 => k_is)
    (case pc1 => k_is)
    (case pk1 => k_is)
    (case pa2 => k_is)
    (case pl2 => k_is)
    (case pc2 => k_is)
    (case pk2 => k_is)
    (case pa3 => k_is)
    (case pl3 => k_is)
    (case pc3 => k_is)
    (case pk3 => k_is)
    (case pa4 => k_is)
    (case pl4 => k_is)
    (case pc4 => k_is)
    (case pk4 => k_is)
    (case pa5 => k_is)
    (case pl5 => k_is)
    (case pc5 => k_is)
    (case pk5 => k_is)
    (case pa6 => k_is)
    (case pl6 => k_is)
    (case pc6 => k_is)
    (case pk6 => k_is)
    (case pa7 => k_is)
    (case pl7 => k_is)
    (case pc7 => k_is)
    (case pk7 => k_is)
    (case pa8 => k_is)
    (case pl8 => k_is)
    (case pc8 => k_is)
    (case pk8 => k_is)
    (case pa9 => k_is)
    (case pl9 => k_is)
    (case pc9 => k_is)
    (case pk9 => k_is)
    (case pa10 => k_is)
    (case pl10 => k_is)
    (case pc10 => k_is)
    (case pk10 => k_is)
    (case pa11 => k_is)
    (case pl11 => k_is)
    (case pc11 => k_is)
    (case pk11 => k_is)
    (case pa12 => k_is)
    (case pl12 => k_is)
    (case pc12 => k_is)
    (case pk12 => k_is)
    (case pa13 => k_is)
    (case pl13 => k_is)
    (case pc13 => k_is)
    (case pk13 => k_is)
    (case pa14 => k_is)
    (case pl14 => k_is)
    (case pc14 => k_is)
    (case pk14 => k_is)
    (case pa15 => k_is)
    (case pl15 => k_is)
    (case pc15 => k_is)
    (case pk15 => k_is)
    (case pa16 => k_is)
    (case pl16 => k_is)
    (case pc16 => k_is)
    (case pk16 => k_is)
    (case pa17 => k_is)
    (case pl17 => k_is)
    (case pc17 => k_is)
    (case pk17 => k_is)
    (case pa18 => k_is)
    (case pl18 => k_is)
    (case pc18 => k_is)
    (case pk18 => k_is)
    (case pa19 => k_is)
    (case pl19 => k_is)
    (case pc19 => k_is)
    (case pk19 => k_is)
    (case pa20 => k_is)
    (case pl20 => k_is)
    (case pc20 => k_is)
    (case pk20 => k_is)
    (case pa21 => k_is)
    (case pl21 => k_is)
    (case pc21 => k_is)
    (case pk21 => k_is)
    (case pa22 => k_is)
    (case pl22 => k_is)
    (case pc22 => k_is)
    (case pk22 => k_is)
    (case pa23 => k_is)
    (case pl23 => k_is)
    (case pc23 => k_is)
    (case pk23 => k_is)
    (case pa24 => k_is)
    (case pl24 => k_is)
    (case pc24 => k_is)
    (case pk24 => k_is)
    (case pa25 => k_is)
    (case pl25 => k_is)
    (case pc25 => k_is)
    (case pk25 => k_is)
    (case pa26 => k_is)
    (case pl26 => k_is)
    (case pc26 => k_is)
    (case pk26 => k_is)
    (case pa27 => k_is)
    (case pl27 => k_is)
    (case pc27 => k_is)
    (case pk27 => k_is)
    (case pa28 => k_is)
    (case pl28 => k_is)
    (case pc28 => k_is)
    (case pk28 => k_is)
    (case pa29 => k_is)
    (case pl29 => k_is)
    (case pc29 => k_is)
    (case pk29 => k_is)
    (case pa30 => k_is)
    (case pl30 => k_is)
    (case pc30 => k_is)
    (case pk30 => k_is)
    (case pg0 => k_is)
    (case pg1 => k_is)
    (case pg2 => k_is)
    (case pg3 => k_is)
    (case pz0 => k_is)
    (case pz1 => k_is)
    (case pz2 => k_is)
    (case pz3 => k_is)
    (case pz4 => k_is)
    (case pz5 => k_is)
    (case pz6 => k_is)
    (case pz7 => k_is)
    (case pz8 => k_is)
    (case pz9 => k_is)
    (case pz10 => k_is)
    (case pz11 => k_is)
    (case pz12 => k_is)
    (case peba => k_is)
    (case pebn => k_is)
    (case pebt => k_is)
    (case pebs => k_is)
    (case pebd => k_is)
    (case peby => k_is)
    (case pea0 => k_is)
    (case pek0 => k_is)
    (case pex0 => k_exc)
    (case pes0 => k_is)
    (case pet0 => k_is)
    (case peg0 => k_is)
    (case peh0 => k_is)
    (case ped0 => k_is)
    (case pec0 => k_is)
    (case pem0 => k_is)
    (case peo0 => k_is)
    (case plt0 => k_is)
    (case plt1 => rfl)
    (case plt2 => kernel_rfl)
    (case plt3 => first | k_is | kernel_rfl)
