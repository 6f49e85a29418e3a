import PyProof.Rows.All
import Wide.All
import OpenK.AllK
import Wide.FinOn
import HandS.ForMost
import HandS.TupAny
import HandS.TupMul
import HandS.Wide
import HandS.SortInts
import HandS.Strs
import HandS.SetFor
import HandS.Deep
import HandS.IsInst
import HandS.Zip
import HandS.Conv
import HandS.Flow
import HandS.Style
import HandS.TupLen
import HandS.CallLocal
import HandS.NamedTupSort
import KE.KSortedM
import KE.GoesEnum
import PySem.Challenge.RW_flankturns_k19_whole_counts_of_long_line
set_option Elab.async false
set_option linter.all false
set_option maxRecDepth 100000
set_option maxHeartbeats 4000000
/-! Pyx: a pure evaluator for a part of the language: values, heap, code, evaluation. -/
namespace Pyx
open PySem L2

inductive PV where
  | non | bl (b : Bool) | int (i : Int) | str (s : Str) | tup (xs : List PV) | ref (i : Nat) | fn (k : Nat)
  deriving Inhabited
inductive PO where
  | lst (xs : List PV) | fz (xs : List PV) | set (xs : List Int) | dK (kvs : List (Int × PV)) | dT (kvs : List (List Int × PV))
structure PH where
  n : Nat
  os : List PO
def PH.get (h : PH) (i : Nat) : Option PO := match Nat.blt i h.n with
  | true => h.os[h.n - 1 - i]?
  | false => none
def PH.push (h : PH) (o : PO) : PH := ⟨h.n + 1, o :: h.os⟩
def PH.set (h : PH) (i : Nat) (o : PO) : PH := ⟨h.n, h.os.set (h.n - 1 - i) o⟩

inductive R (α : Type) where
  | ok (a : α) (h : PH) | stuck
abbrev PSt := List (Option PV)

inductive Bop where | add | sub | mul | fdiv | mod | pow
inductive Cop where | eq | ne | lt | le | gt | ge | is | nis
inductive Bi where | len | min | max | sum | sorted | list | tuple | int | set | abs
inductive Ty where | int | bool | str | tuple | list
inductive Mt where | append | pop | count
inductive CT where
  | nm (i : Nat) | tup (ts : List CT)
mutual
inductive CE where
  | stuck | var (i : Nat) | val (v : PV) | bin (op : Bop) (a b : CE) | neg (a : CE)
  | cmp (op : Cop) (a b : CE) | chain (o1 o2 : Cop) (a b c : CE) | isin (neg : Bool) (a b : CE)
  | and (a b : CE) | or (a b : CE) | not (a : CE) | ite (t : CB) (a b : CE)
  | tup (es : List CE) | lst (es : List CE)
  | call (k : Nat) (es : List CE) | bi (b : Bi) (es : List CE) | isi (a : CE) (t : Ty) | isis (a : CE) (t u : Ty)
  | mt (m : Mt) (o : CE) (es : List CE) | ix (a b : CE) | sl (a : CE) (lo hi : Option CE)
  | lc (it : CI) (tg : CT) (vs : List Nat) (ifs : Option CB) (elt : CE)
  | lrg (a b : CE)
  | callv (i : Nat) (es : List CE) | rev (a : CE) | dnew (t : Bool) | disp (ks vs : List CE)
inductive CB where
  | val (e : CE) | bl (e : CE) | not (b : CB) | and (a b : CB) | or (a b : CB)
inductive CI where
  | over (e : CE) | rng1 (e : CE) | rng2 (a b : CE) | enum (e : CE) | zip (a b : CE)
end
inductive CS where
  | stuck | pass | expr (e : CE) | asg (t : CT) (e : CE) | par (i j : Nat) (a b : CE) | par3 (i j l : Nat) (a b d : CE)
  | setix (o i e : CE) | augn (i : Nat) (op : Bop) (e : CE)
  | augix (o i : CE) (op : Bop) (e : CE)
  | ret (e : CE) | retN | ite (b : CB) (t u : List CS) | while (b : CB) (t : List CS) | for (t : CT) (it : CI) (b : List CS) | brk | cont

/-! ### values -/
def truth (v : PV) (h : PH) : Option Bool := match v with
  | .non => some false
  | .bl b => some b
  | .int i => some (i != 0)
  | .tup xs => some (!xs.isEmpty)
  | .ref i => match h.get i with
    | some (.lst xs) => some (!xs.isEmpty)
    | some (.fz xs) => some (!xs.isEmpty)
    | _ => none
  | _ => none
/-- the items of a list -/
def seqL (v : PV) (h : PH) : Option (List PV) := match v with
  | .ref i => match h.get i with
    | some (.lst xs) => some xs
    | some (.fz xs) => some xs
    | _ => none
  | _ => none
/-- the items of a list or tuple -/
def seqOf (v : PV) (h : PH) : Option (List PV) := match v with
  | .tup xs => some xs
  | .ref i => match h.get i with
    | some (.lst xs) => some xs
    | some (.fz xs) => some xs
    | _ => none
  | _ => none
/-- data of a value -/
def toDs (f : PV → Option PyData) : List PV → Option (List PyData)
  | [] => some []
  | x :: r => match f x with
    | none => none
    | some d => match toDs f r with
      | none => none
      | some ds => some (d :: ds)
def toD : Nat → PH → PV → Option PyData
  | 0, _, _ => none
  | n + 1, h, v => match v with
    | .non => some .none
    | .bl b => some (.bool b)
    | .int i => some (.int i)
    | .str s => some (.str s)
    | .tup xs => match toDs (toD n h) xs with
      | some ds => some (.tuple ds)
      | none => none
    | .ref i => match h.get i with
      | some (.lst xs) => match toDs (toD n h) xs with
        | some ds => some (.list ds)
        | none => none
      | some (.fz xs) => match toDs (toD n h) xs with
        | some ds => some (.list ds)
        | none => none
      | _ => none
    | .fn _ => none
def toDat (h : PH) (v : PV) : Option PyData := match toD 20 h v with
  | some d => match SeqAt.shaped d with
    | true => some d
    | false => none
  | none => none
def eqP (h : PH) (v w : PV) : Option Bool := match toDat h v with
  | some d => match toDat h w with
    | some e => some (PyData.eqv d e)
    | none => none
  | none => none
def int2 (g : Int → Int → Bool) : PV → PV → Option Bool
  | .int i, .int j => some (g i j)
  | _, _ => none
def isNo : PV → Option Bool
  | .non => some true
  | .fn _ => none
  | _ => some false
def isP (v w : PV) : Option Bool := match w with
  | .non => isNo v
  | .bl b => match v with
    | .bl a => some (decide (a = b))
    | _ => none
  | _ => none
def negO : Option Bool → Option Bool
  | some k => some (!k)
  | none => none
def cmpP (op : Cop) (v w : PV) (h : PH) : Option Bool := match op with
  | .eq => eqP h v w
  | .ne => negO (eqP h v w)
  | .is => isP v w
  | .nis => negO (isP v w)
  | .lt => int2 (fun i j => decide (i < j)) v w
  | .le => int2 (fun i j => decide (i ≤ j)) v w
  | .gt => int2 (fun i j => decide (j < i)) v w
  | .ge => int2 (fun i j => decide (j ≤ i)) v w
def flatP : PV → Bool
  | .non => true
  | .bl _ => true
  | .int _ => true
  | .str _ => true
  | _ => false
def eqF : PV → PV → Bool
  | .non, .non => true
  | .bl a, .bl b => a == b
  | .bl a, .int b => (if a then 1 else 0) == b
  | .int a, .bl b => a == (if b then 1 else 0)
  | .int a, .int b => a == b
  | .str a, .str b => a == b
  | _, _ => false
def intsP : List PV → Option (List Int)
  | [] => some []
  | .int i :: r => match intsP r with
    | some is => some (i :: is)
    | none => none
  | _ :: _ => none
/-! dicts: keys ints, or tuples of ints -/
def valG {κ : Type} [DecidableEq κ] (k : κ) : List (κ × PV) → Option PV
  | [] => none
  | p :: r => match decide (p.1 = k) with
    | true => some p.2
    | false => valG k r
def putG {κ : Type} [DecidableEq κ] (k : κ) (v : PV) : List (κ × PV) → List (κ × PV)
  | [] => [(k, v)]
  | p :: r => match decide (p.1 = k) with
    | true => (p.1, v) :: r
    | false => p :: putG k v r
def keyT : PV → Option (List Int)
  | .tup xs => intsP xs
  | _ => none
/-- what stands in the dict d at the key w -/
def dLook (d w : PV) (h : PH) : Option (Option PV) := match d with
  | .ref i => match h.get i with
    | some (.dK kvs) => match w with
      | .int k => some (valG k kvs)
      | _ => none
    | some (.dT kvs) => match keyT w with
      | some k => some (valG k kvs)
      | none => none
    | _ => none
  | _ => none
def dGetP (d w : PV) (h : PH) : Option PV := match dLook d w h with
  | some (some v) => some v
  | _ => none
def dInP (d w : PV) (h : PH) : Option Bool := match dLook d w h with
  | some o => some o.isSome
  | none => none
def dPutP (d w v : PV) (h : PH) : Option PH := match d with
  | .ref i => match h.get i with
    | some (.dK kvs) => match w, Nat.ble kvs.length 100000 with
      | .int k, true => some (h.set i (.dK (putG k v kvs)))
      | _, _ => none
    | some (.dT kvs) => match keyT w, Nat.ble kvs.length 100000 with
      | some k, true => some (h.set i (.dT (putG k v kvs)))
      | _, _ => none
    | _ => none
  | _ => none
def dLen (d : PV) (h : PH) : Option Nat := match d with
  | .ref i => match h.get i with
    | some (.dK kvs) => match Nat.ble kvs.length 100000 with
      | true => some kvs.length
      | false => none
    | some (.dT kvs) => match Nat.ble kvs.length 100000 with
      | true => some kvs.length
      | false => none
    | _ => none
  | _ => none
def inD (v w : PV) (h : PH) : Option Bool := match toDat h v with
  | some d => match toDat h w with
    | some (.list ds) => some (ds.any fun z => PyData.eqv z d)
    | _ => none
  | none => none
def inP (v w : PV) (h : PH) : Option Bool := match seqOf w h with
  | some xs => match flatP v && xs.all flatP with
    | true => some (xs.any fun y => eqF y v)
    | false => inD v w h
  | none => dInP w v h
def small {α : Type} (xs : List α) : Bool := Nat.ble xs.length 100000
def wide (i : Int) : Bool := decide (-18446744073709551616 < i) && decide (i < 18446744073709551616)
def cutP {α : Type} (xs : List α) (lo hi : Option Int) : List α := (xs.drop (HT.sIx xs.length 0 lo)).take (HT.sIx xs.length xs.length hi - HT.sIx xs.length 0 lo)
def okT (xs : List PV) (h : PH) : R PV := match small xs with
  | true => .ok (.tup xs) h
  | false => .stuck
def okL (xs : List PV) (h : PH) : R PV := match small xs with
  | true => .ok (.ref h.n) (h.push (.lst xs))
  | false => .stuck
def okO {α : Type} (o : Option α) (h : PH) : R α := match o with
  | some v => .ok v h
  | none => .stuck
def lstAt (v : PV) (h : PH) : Option (Nat × List PV) := match v with
  | .ref i => match h.get i with
    | some (.lst xs) => some (i, xs)
    | _ => none
  | _ => none
def binP (op : Bop) (v w : PV) (h : PH) : R PV := match op, v, w with
  | .add, .int i, .int j => .ok (.int (i + j)) h
  | .sub, .int i, .int j => .ok (.int (i - j)) h
  | .mul, .int i, .int j => match wide i || wide j with
    | true => .ok (.int (i * j)) h
    | false => .stuck
  | .fdiv, .int i, .int j => match decide (0 < j) && decide (j < 1073741824) with
    | true => .ok (.int (i / j)) h
    | false => .stuck
  | .mod, .int i, .int j => match decide (0 < j) with
    | true => .ok (.int (i % j)) h
    | false => .stuck
  | .pow, .int i, .int j => match decide (0 ≤ j) && decide (j ≤ 1000000) && Nat.blt i.natAbs 18446744073709551616 with
    | true => .ok (.int (i ^ j.toNat)) h
    | false => .stuck
  | .add, .tup xs, .tup ys => okT (xs ++ ys) h
  | .add, .ref i, .ref j => match lstAt (.ref i) h, lstAt (.ref j) h with
    | some (_, xs), some (_, ys) => okL (xs ++ ys) h
    | _, _ => .stuck
  | .mul, .tup xs, .int k => match decide (k = 1) with
    | true => .ok (.tup xs) h
    | false => match decide (2 ≤ k) && decide (k ≤ 1000) && Nat.ble xs.length 1000 && !xs.isEmpty with
      | true => okT (List.replicate k.toNat xs).flatten h
      | false => .stuck
  | .mul, .ref i, .int k => match lstAt (.ref i) h, decide (0 ≤ k) && decide (k ≤ 1000) with
    | some (_, xs), true => match Nat.ble xs.length 1000 with
      | true => okL (List.replicate k.toNat xs).flatten h
      | false => .stuck
    | _, _ => .stuck
  | _, _, _ => .stuck
def insI (x : Int) : List Int → List Int
  | [] => [x]
  | y :: r => match decide (x ≤ y) with
    | true => x :: y :: r
    | false => y :: insI x r
def sortI : List Int → List Int
  | [] => []
  | x :: r => insI x (sortI r)
/-- a list of tuples of ints, none of them empty -/
def tupsP : List PV → Option (List (List Int))
  | [] => some []
  | .tup xs :: r => match intsP xs with
    | some (i :: is) => match tupsP r with
      | some ts => some ((i :: is) :: ts)
      | none => none
    | _ => none
  | _ :: _ => none
def insT (x : List Int) : List (List Int) → List (List Int)
  | [] => [x]
  | y :: r => match HT.lexLt y x with
    | true => y :: insT x r
    | false => x :: y :: r
def sortT : List (List Int) → List (List Int)
  | [] => []
  | x :: r => insT x (sortT r)
def tupI (t : List Int) : PV := .tup (t.map PV.int)
def maxI : Int → List Int → Int
  | m, [] => m
  | m, x :: r => maxI (match decide (m ≤ x) with | true => x | false => m) r
def minI : Int → List Int → Int
  | m, [] => m
  | m, x :: r => minI (match decide (x ≤ m) with | true => x | false => m) r
def sumI : List Int → Int
  | [] => 0
  | x :: r => x + sumI r
def dedI : List Int → List Int
  | [] => []
  | x :: r => match r.contains x with
    | true => dedI r
    | false => x :: dedI r
def intsOf (v : PV) (h : PH) : Option (List Int) := match seqOf v h with
  | some xs => intsP xs
  | none => none
def intsOfL (v : PV) (h : PH) : Option (List Int) := match seqL v h with
  | some xs => intsP xs
  | none => none
def tupsOfL (v : PV) (h : PH) : Option (List (List Int)) := match seqL v h with
  | some xs => tupsP xs
  | none => none
def setOf (v : PV) (h : PH) : Option (List Int) := match v with
  | .ref i => match h.get i with
    | some (.set xs) => some xs
    | _ => none
  | _ => none
def biP (b : Bi) (vs : List PV) (h : PH) : R PV := match b, vs with
  | .len, [v] => match seqOf v h with
    | some xs => .ok (.int xs.length) h
    | none => match dLen v h with
      | some n => .ok (.int n) h
      | none => .stuck
  | .abs, [.int i] => .ok (.int (if i < 0 then -i else i)) h
  | .min, [.int i, .int j] => .ok (.int (if j < i then j else i)) h
  | .max, [.int i, .int j] => .ok (.int (if j > i then j else i)) h
  | .min, [v] => match intsOfL v h with
    | some (i :: is) => .ok (.int (minI i is)) h
    | _ => .stuck
  | .max, [v] => match intsOfL v h with
    | some (i :: is) => .ok (.int (maxI i is)) h
    | _ => .stuck
  | .sum, [v] => match intsOf v h with
    | some is => .ok (.int (sumI is)) h
    | _ => .stuck
  | .sorted, [v] => match setOf v h with
    | some is => match Nat.blt is.length 64 with
      | true => okL ((sortI is).map PV.int) h
      | false => .stuck
    | none => match intsOf v h with
      | some is => okL ((sortI is).map PV.int) h
      | none => match tupsOfL v h with
        | some ts => okL ((sortT ts).map tupI) h
        | none => .stuck
  | .set, [v] => match intsOf v h with
    | some is => match Nat.ble is.length 60 with
      | true => .ok (.ref h.n) (h.push (.set (dedI is)))
      | false => .stuck
    | none => .stuck
  | .list, [v] => match seqOf v h with
    | some xs => okL xs h
    | none => .stuck
  | .tuple, [v] => match seqOf v h with
    | some xs => okT xs h
    | none => .stuck
  | .int, [.int i] => .ok (.int i) h
  | .int, [.bl k] => .ok (.int (if k then 1 else 0)) h
  | _, _ => .stuck
def isTy (v : PV) (h : PH) (t : Ty) : Option Bool := match v with
  | .non => some false
  | .bl _ => match t with | .int => some true | .bool => some true | _ => some false
  | .int _ => match t with | .int => some true | _ => some false
  | .str _ => match t with | .str => some true | _ => some false
  | .tup _ => match t with | .tuple => some true | _ => some false
  | .ref i => match h.get i with
    | some (.lst _) => match t with | .list => some true | _ => some false
    | some (.fz _) => match t with | .list => some true | _ => some false
    | some (.dK _) => some false
    | some (.dT _) => some false
    | _ => none
  | .fn _ => none
def appP (o : PV) (vs : List PV) (h : PH) : R PV := match vs with
  | [v] => match lstAt o h with
    | some (i, xs) => match small xs with
      | true => .ok .non (h.set i (.lst (xs ++ [v])))
      | false => .stuck
    | none => .stuck
  | _ => .stuck
def popP (o : PV) (vs : List PV) (h : PH) : R PV := match vs with
  | [] => match lstAt o h with
    | some (i, xs) => match xs[xs.length - 1]? with
      | some v => .ok v (h.set i (.lst xs.dropLast))
      | none => .stuck
    | none => .stuck
  | _ => .stuck
def cntP (o : PV) (vs : List PV) (h : PH) : R PV := match vs with
  | [.int k] => match intsOfL o h with
    | some is => .ok (.int (is.count k : Nat)) h
    | none => .stuck
  | _ => .stuck
def mtP (m : Mt) (o : PV) (vs : List PV) (h : PH) : R PV := match m with
  | .append => appP o vs h
  | .pop => popP o vs h
  | .count => cntP o vs h
def ixP (v w : PV) (h : PH) : Option PV := match w with
  | .int i => match seqOf v h with
    | some xs => atI xs i
    | none => dGetP v w h
  | _ => dGetP v w h
def slP (v : PV) (lo hi : Option Int) (h : PH) : R PV := match v with
  | .tup xs => okT (cutP xs lo hi) h
  | .ref i => match seqL (.ref i) h with
    | some xs => okL (cutP xs lo hi) h
    | none => .stuck
  | _ => .stuck
def setP (o i v : PV) (h : PH) : Option PH := match i, lstAt o h with
  | .int k, some (a, xs) => match ixN xs.length k with
    | some j => some (h.set a (.lst (xs.set j v)))
    | none => none
  | _, _ => dPutP o i v h

/-! ### what is walked -/
inductive IV where
  | lst (i : Nat) | tup (xs : List PV) | rng (lo : Int) (n : Nat) | enumL (i : Nat) | enumT (xs : List PV) | zipL (i j : Nat) | zipT (xs ys : List PV)
inductive Nx where
  | stuck | stop | item (v : PV)
def pick : Option PV → Nx
  | some v => .item v
  | none => .stop
def ivN (iv : IV) (k : Nat) (h : PH) : Nx := match iv with
  | .lst i => match seqL (.ref i) h with
    | some xs => pick xs[k]?
    | none => .stuck
  | .tup xs => pick xs[k]?
  | .rng lo n => match Nat.blt k n with
    | true => .item (.int (lo + k))
    | false => .stop
  | .enumL i => match seqL (.ref i) h with
    | some xs => match xs[k]? with
      | some v => .item (.tup [.int k, v])
      | none => .stop
    | none => .stuck
  | .enumT xs => match xs[k]? with
    | some v => .item (.tup [.int k, v])
    | none => .stop
  | .zipL i j => match seqL (.ref i) h, seqL (.ref j) h with
    | some xs, some ys => match xs[k]?, ys[k]? with
      | some x, some y => .item (.tup [x, y])
      | _, _ => .stop
    | _, _ => .stuck
  | .zipT xs ys => match xs[k]?, ys[k]? with
    | some x, some y => .item (.tup [x, y])
    | _, _ => .stop
mutual
def asgT : CT → PV → PSt → Option PSt
  | .nm i, v, st => some (st.set i (some v))
  | .tup ts, v, st => match v with
    | .tup xs => asgTs ts xs st
    | _ => none
def asgTs : List CT → List PV → PSt → Option PSt
  | [], [], st => some st
  | t :: ts, x :: xs, st => match asgT t x st with
    | some st' => asgTs ts xs st'
    | none => none
  | _, _, _ => none
end
def wipeP (st : PSt) : List Nat → PSt
  | [] => st
  | v :: vs => (wipeP st vs).set v none

/-! ### evaluation -/
def evL (rec : CE → PSt → PH → R PV) : List CE → PSt → PH → R (List PV)
  | [], _, h => .ok [] h
  | e :: es, st, h => match rec e st h with
    | .stuck => .stuck
    | .ok v h1 => match evL rec es st h1 with
      | .stuck => .stuck
      | .ok vs h2 => .ok (v :: vs) h2
def evO (rec : CE → PSt → PH → R PV) : Option CE → PSt → PH → R (Option Int)
  | none, _, h => .ok none h
  | some e, st, h => match rec e st h with
    | .ok (.int i) h1 => .ok (some i) h1
    | _ => .stuck
def evB (rec : CE → PSt → PH → R PV) : CB → PSt → PH → R Bool
  | .val e, st, h => match rec e st h with
    | .stuck => .stuck
    | .ok v h1 => okO (truth v h1) h1
  | .bl e, st, h => match rec e st h with
    | .ok (.bl k) h1 => .ok k h1
    | _ => .stuck
  | .not b, st, h => match evB rec b st h with
    | .stuck => .stuck
    | .ok k h1 => .ok (!k) h1
  | .and a b, st, h => match evB rec a st h with
    | .stuck => .stuck
    | .ok true h1 => evB rec b st h1
    | .ok false h1 => .ok false h1
  | .or a b, st, h => match evB rec a st h with
    | .stuck => .stuck
    | .ok true h1 => .ok true h1
    | .ok false h1 => evB rec b st h1
def evI (rec : CE → PSt → PH → R PV) (it : CI) (st : PSt) (h : PH) : R IV := match it with
  | .over e => match rec e st h with
    | .ok (.ref i) h1 => match seqL (.ref i) h1 with
      | some _ => .ok (.lst i) h1
      | none => .stuck
    | .ok (.tup xs) h1 => .ok (.tup xs) h1
    | _ => .stuck
  | .rng1 e => match rec e st h with
    | .ok (.int j) h1 => match decide (-1000000 ≤ j) && decide (j ≤ 1000000) with
      | true => .ok (.rng 0 j.toNat) h1
      | false => .stuck
    | _ => .stuck
  | .rng2 a b => match rec a st h with
    | .ok (.int i) h1 => match rec b st h1 with
      | .ok (.int j) h2 => match decide (-1000000 ≤ i) && decide (i ≤ 1000000) && decide (-1000000 ≤ j) && decide (j ≤ 1000000) with
        | true => .ok (.rng i (j - i).toNat) h2
        | false => .stuck
      | _ => .stuck
    | _ => .stuck
  | .enum e => match rec e st h with
    | .ok (.ref i) h1 => match seqL (.ref i) h1 with
      | some _ => .ok (.enumL i) h1
      | none => .stuck
    | .ok (.tup xs) h1 => .ok (.enumT xs) h1
    | _ => .stuck
  | .zip a b => match rec a st h with
    | .ok x h1 => match rec b st h1 with
      | .ok y h2 => match x, y with
        | .ref i, .ref j => match seqL (.ref i) h2, seqL (.ref j) h2 with
          | some _, some _ => .ok (.zipL i j) h2
          | _, _ => .stuck
        | .tup xs, .tup ys => .ok (.zipT xs ys) h2
        | _, _ => .stuck
      | _ => .stuck
    | _ => .stuck
def evIf (rec : CE → PSt → PH → R PV) : Option CB → PSt → PH → R Bool
  | none, _, h => .ok true h
  | some b, st, h => evB rec b st h
/-- the turns of a comprehension; the new list stands at d -/
def lcL (rec : CE → PSt → PH → R PV) (iv : IV) (tg : CT) (ifs : Option CB) (elt : CE) (st : PSt) (d : Nat) : Nat → Nat → PH → R Unit
  | 0, _, _ => .stuck
  | m + 1, k, h => match ivN iv k h with
    | .stuck => .stuck
    | .stop => .ok () h
    | .item v => match asgT tg v st with
      | none => .stuck
      | some st1 => match evIf rec ifs st1 h with
        | .stuck => .stuck
        | .ok false h1 => lcL rec iv tg ifs elt st d m (k + 1) h1
        | .ok true h1 => match rec elt st1 h1 with
          | .stuck => .stuck
          | .ok v h2 => match lstAt (.ref d) h2 with
            | some (_, acc) => match small acc with
              | true => lcL rec iv tg ifs elt st d m (k + 1) (h2.set d (.lst (acc ++ [v])))
              | false => .stuck
            | none => .stuck
mutual
def tgIn : CT → List Nat → Bool
  | .nm i, vs => vs.contains i
  | .tup ts, vs => tgsIn ts vs
def tgsIn : List CT → List Nat → Bool
  | [], _ => true
  | t :: ts, vs => tgIn t vs && tgsIn ts vs
end
def eVar (rec : CE → PSt → PH → R PV) (i : Nat) (st : PSt) (h : PH) : R PV := match st[i]? with
  | some (some v) => .ok v h
  | _ => .stuck
def eVal (rec : CE → PSt → PH → R PV) (v : PV) (st : PSt) (h : PH) : R PV := .ok v h
def eBin (rec : CE → PSt → PH → R PV) (op : Bop) (a : CE) (b : CE) (st : PSt) (h : PH) : R PV := match rec a st h with
  | .stuck => .stuck
  | .ok v h1 => match rec b st h1 with
    | .stuck => .stuck
    | .ok w h2 => binP op v w h2
def eNeg (rec : CE → PSt → PH → R PV) (a : CE) (st : PSt) (h : PH) : R PV := match rec a st h with
  | .ok (.int i) h1 => .ok (.int (-i)) h1
  | _ => .stuck
def eCmp (rec : CE → PSt → PH → R PV) (op : Cop) (a : CE) (b : CE) (st : PSt) (h : PH) : R PV := match rec a st h with
  | .stuck => .stuck
  | .ok v h1 => match rec b st h1 with
    | .stuck => .stuck
    | .ok w h2 => match cmpP op v w h2 with
      | some k => .ok (.bl k) h2
      | none => .stuck
def eChain (rec : CE → PSt → PH → R PV) (o1 : Cop) (o2 : Cop) (a : CE) (b : CE) (c : CE) (st : PSt) (h : PH) : R PV := match rec a st h with
  | .stuck => .stuck
  | .ok v h1 => match rec b st h1 with
    | .stuck => .stuck
    | .ok w h2 => match cmpP o1 v w h2 with
      | some true => match rec c st h2 with
        | .stuck => .stuck
        | .ok u h3 => match cmpP o2 w u h3 with
          | some k => .ok (.bl k) h3
          | none => .stuck
      | some false => .ok (.bl false) h2
      | none => .stuck
def eIsin (rec : CE → PSt → PH → R PV) (ng : Bool) (a : CE) (b : CE) (st : PSt) (h : PH) : R PV := match rec a st h with
  | .stuck => .stuck
  | .ok v h1 => match rec b st h1 with
    | .stuck => .stuck
    | .ok w h2 => match inP v w h2 with
      | some k => .ok (.bl (if ng then !k else k)) h2
      | none => .stuck
def eAnd (rec : CE → PSt → PH → R PV) (a : CE) (b : CE) (st : PSt) (h : PH) : R PV := match rec a st h with
  | .ok (.bl true) h1 => rec b st h1
  | .ok (.bl false) h1 => .ok (.bl false) h1
  | _ => .stuck
def eOr (rec : CE → PSt → PH → R PV) (a : CE) (b : CE) (st : PSt) (h : PH) : R PV := match rec a st h with
  | .ok (.bl true) h1 => .ok (.bl true) h1
  | .ok (.bl false) h1 => rec b st h1
  | _ => .stuck
def eNot (rec : CE → PSt → PH → R PV) (a : CE) (st : PSt) (h : PH) : R PV := match rec a st h with
  | .ok (.bl k) h1 => .ok (.bl (!k)) h1
  | _ => .stuck
def eIte (rec : CE → PSt → PH → R PV) (t : CB) (a : CE) (b : CE) (st : PSt) (h : PH) : R PV := match evB rec t st h with
  | .stuck => .stuck
  | .ok true h1 => rec a st h1
  | .ok false h1 => rec b st h1
def eTup (rec : CE → PSt → PH → R PV) (es : List CE) (st : PSt) (h : PH) : R PV := match evL rec es st h with
  | .stuck => .stuck
  | .ok vs h1 => okT vs h1
def eLst (rec : CE → PSt → PH → R PV) (es : List CE) (st : PSt) (h : PH) : R PV := match evL rec es st h with
  | .stuck => .stuck
  | .ok vs h1 => okL vs h1
def eCall (call : Nat → List PV → PH → R PV) (rec : CE → PSt → PH → R PV) (k : Nat) (es : List CE) (st : PSt) (h : PH) : R PV := match evL rec es st h with
  | .stuck => .stuck
  | .ok vs h1 => call k vs h1
def eBi (rec : CE → PSt → PH → R PV) (b : Bi) (es : List CE) (st : PSt) (h : PH) : R PV := match evL rec es st h with
  | .stuck => .stuck
  | .ok vs h1 => biP b vs h1
def eIsi (rec : CE → PSt → PH → R PV) (a : CE) (t : Ty) (st : PSt) (h : PH) : R PV := match rec a st h with
  | .stuck => .stuck
  | .ok v h1 => match isTy v h1 t with
    | some k => .ok (.bl k) h1
    | none => .stuck
def eIsis (rec : CE → PSt → PH → R PV) (a : CE) (t : Ty) (u : Ty) (st : PSt) (h : PH) : R PV := match rec a st h with
  | .stuck => .stuck
  | .ok v h1 => match isTy v h1 t with
    | some true => .ok (.bl true) h1
    | some false => match isTy v h1 u with
      | some k => .ok (.bl k) h1
      | none => .stuck
    | none => .stuck
def eMt (rec : CE → PSt → PH → R PV) (m : Mt) (o : CE) (es : List CE) (st : PSt) (h : PH) : R PV := match rec o st h with
  | .stuck => .stuck
  | .ok v h1 => match seqL v h1 with
    | none => .stuck
    | some _ => match evL rec es st h1 with
      | .stuck => .stuck
      | .ok vs h2 => mtP m v vs h2
def eIx (rec : CE → PSt → PH → R PV) (a : CE) (b : CE) (st : PSt) (h : PH) : R PV := match rec a st h with
  | .stuck => .stuck
  | .ok v h1 => match rec b st h1 with
    | .stuck => .stuck
    | .ok w h2 => okO (ixP v w h2) h2
def eSl (rec : CE → PSt → PH → R PV) (a : CE) (lo : Option CE) (hi : Option CE) (st : PSt) (h : PH) : R PV := match rec a st h with
  | .stuck => .stuck
  | .ok v h1 => match evO rec lo st h1 with
    | .stuck => .stuck
    | .ok l h2 => match evO rec hi st h2 with
      | .stuck => .stuck
      | .ok u h3 => slP v l u h3
def eLc (n : Nat) (rec : CE → PSt → PH → R PV) (it : CI) (tg : CT) (vs : List Nat) (ifs : Option CB) (elt : CE) (st : PSt) (h : PH) : R PV := match tgIn tg vs with
  | false => .stuck
  | true => match evI rec it st h with
    | .stuck => .stuck
    | .ok iv h1 => match lcL rec iv tg ifs elt (wipeP st vs) h1.n n 0 (h1.push (.lst [])) with
      | .stuck => .stuck
      | .ok _ h2 => .ok (.ref h1.n) h2
def rgP (i j : Int) : List PV := (List.range (j - i).toNat).map fun k => .int (i + (k : Nat))
def eLrg (rec : CE → PSt → PH → R PV) (a b : CE) (st : PSt) (h : PH) : R PV := match rec a st h with
  | .ok (.int i) h1 => match rec b st h1 with
    | .ok (.int j) h2 => match decide (-1000 ≤ i) && decide (i ≤ 1000) && decide (-1000 ≤ j) && decide (j ≤ 1000) with
      | true => okL (rgP i j) h2
      | false => .stuck
    | _ => .stuck
  | _ => .stuck
def eCallV (call : Nat → List PV → PH → R PV) (rec : CE → PSt → PH → R PV) (i : Nat) (es : List CE) (st : PSt) (h : PH) : R PV := match st[i]? with
  | some (some (.fn k)) => match evL rec es st h with
    | .stuck => .stuck
    | .ok vs h1 => call k vs h1
  | _ => .stuck
def eRev (rec : CE → PSt → PH → R PV) (a : CE) (st : PSt) (h : PH) : R PV := match rec a st h with
  | .stuck => .stuck
  | .ok v h1 => match seqL v h1 with
    | some xs => okL xs.reverse h1
    | none => .stuck
def eDnew (t : Bool) (h : PH) : R PV := match t with
  | true => .ok (.ref h.n) (h.push (.dT []))
  | false => .ok (.ref h.n) (h.push (.dK []))
def evPs (rec : CE → PSt → PH → R PV) : List CE → List CE → PSt → PH → R (List (Int × PV))
  | [], [], _, h => .ok [] h
  | k :: ks, v :: vs, st, h => match rec k st h with
    | .ok (.int i) h1 => match rec v st h1 with
      | .stuck => .stuck
      | .ok x h2 => match evPs rec ks vs st h2 with
        | .stuck => .stuck
        | .ok r h3 => .ok ((i, x) :: r) h3
    | _ => .stuck
  | _, _, _, _ => .stuck
def mergeG (more : List (Int × PV)) (kvs : List (Int × PV)) : List (Int × PV) := more.foldl (fun acc p => putG p.1 p.2 acc) kvs
/-- {k: v, ..}, keys ints -/
def eDisp (rec : CE → PSt → PH → R PV) (ks vs : List CE) (st : PSt) (h : PH) : R PV := match evPs rec ks vs st (h.push (.dK [])) with
  | .stuck => .stuck
  | .ok ps h1 => match h1.get h.n with
    | some (.dK []) => match Nat.ble ps.length 15 with
      | true => .ok (.ref h.n) (h1.set h.n (.dK (mergeG ps [])))
      | false => .stuck
    | _ => .stuck
def stepE (call : Nat → List PV → PH → R PV) (n : Nat) (rec : CE → PSt → PH → R PV) (c : CE) (st : PSt) (h : PH) : R PV := match c with
  | .stuck => .stuck
  | .var i => eVar rec i st h
  | .val v => eVal rec v st h
  | .bin op a b => eBin rec op a b st h
  | .neg a => eNeg rec a st h
  | .cmp op a b => eCmp rec op a b st h
  | .chain o1 o2 a b c => eChain rec o1 o2 a b c st h
  | .isin ng a b => eIsin rec ng a b st h
  | .and a b => eAnd rec a b st h
  | .or a b => eOr rec a b st h
  | .not a => eNot rec a st h
  | .ite t a b => eIte rec t a b st h
  | .tup es => eTup rec es st h
  | .lst es => eLst rec es st h
  | .call k es => eCall call rec k es st h
  | .bi b es => eBi rec b es st h
  | .isi a t => eIsi rec a t st h
  | .isis a t u => eIsis rec a t u st h
  | .mt m o es => eMt rec m o es st h
  | .ix a b => eIx rec a b st h
  | .sl a lo hi => eSl rec a lo hi st h
  | .lc it tg vs ifs elt => eLc n rec it tg vs ifs elt st h
  | .lrg a b => eLrg rec a b st h
  | .callv i es => eCallV call rec i es st h
  | .rev a => eRev rec a st h
  | .dnew t => eDnew t h
  | .disp ks vs => eDisp rec ks vs st h
def evE (call : Nat → List PV → PH → R PV) : Nat → CE → PSt → PH → R PV
  | 0, _, _, _ => .stuck
  | n + 1, c, st, h => stepE call n (evE call n) c st h

inductive FR where
  | nx (st : PSt) | rt (v : PV) | bk (st : PSt) | ct (st : PSt)
def evSs (rec : CS → PSt → PH → R FR) : List CS → PSt → PH → R FR
  | [], st, h => .ok (.nx st) h
  | s :: ss, st, h => match rec s st h with
    | .ok (.nx st1) h1 => evSs rec ss st1 h1
    | r => r
def forL (body : PSt → PH → R FR) (iv : IV) (tg : CT) : Nat → Nat → PSt → PH → R FR
  | 0, _, _, _ => .stuck
  | m + 1, k, st, h => match ivN iv k h with
    | .stuck => .stuck
    | .stop => .ok (.nx st) h
    | .item v => match asgT tg v st with
      | none => .stuck
      | some st1 => match body st1 h with
        | .ok (.nx st2) h2 => forL body iv tg m (k + 1) st2 h2
        | .ok (.ct st2) h2 => forL body iv tg m (k + 1) st2 h2
        | .ok (.bk st2) h2 => .ok (.nx st2) h2
        | .ok (.rt v) h2 => .ok (.rt v) h2
        | .stuck => .stuck
def whL (test : PSt → PH → R Bool) (body : PSt → PH → R FR) : Nat → PSt → PH → R FR
  | 0, _, _ => .stuck
  | m + 1, st, h => match test st h with
    | .stuck => .stuck
    | .ok false h1 => .ok (.nx st) h1
    | .ok true h1 => match body st h1 with
      | .ok (.nx st2) h2 => whL test body m st2 h2
      | .ok (.ct st2) h2 => whL test body m st2 h2
      | .ok (.bk st2) h2 => .ok (.nx st2) h2
      | .ok (.rt v) h2 => .ok (.rt v) h2
      | .stuck => .stuck
def xExpr (n : Nat) (ev : CE → PSt → PH → R PV) (rec : CS → PSt → PH → R FR) (e : CE) (st : PSt) (h : PH) : R FR := match ev e st h with
  | .stuck => .stuck
  | .ok _ h1 => .ok (.nx st) h1
def xAsg (n : Nat) (ev : CE → PSt → PH → R PV) (rec : CS → PSt → PH → R FR) (t : CT) (e : CE) (st : PSt) (h : PH) : R FR := match ev e st h with
  | .stuck => .stuck
  | .ok v h1 => match asgT t v st with
    | some st1 => .ok (.nx st1) h1
    | none => .stuck
def xPar (n : Nat) (ev : CE → PSt → PH → R PV) (rec : CS → PSt → PH → R FR) (i : Nat) (j : Nat) (a : CE) (b : CE) (st : PSt) (h : PH) : R FR := match ev a st h with
  | .stuck => .stuck
  | .ok v h1 => match ev b st h1 with
    | .stuck => .stuck
    | .ok w h2 => .ok (.nx ((st.set i (some v)).set j (some w))) h2
def xPar3 (n : Nat) (ev : CE → PSt → PH → R PV) (rec : CS → PSt → PH → R FR) (i j l : Nat) (a b d : CE) (st : PSt) (h : PH) : R FR := match ev a st h with
  | .stuck => .stuck
  | .ok v h1 => match ev b st h1 with
    | .stuck => .stuck
    | .ok w h2 => match ev d st h2 with
      | .stuck => .stuck
      | .ok u h3 => .ok (.nx (((st.set i (some v)).set j (some w)).set l (some u))) h3
def xSetix (n : Nat) (ev : CE → PSt → PH → R PV) (rec : CS → PSt → PH → R FR) (o : CE) (i : CE) (e : CE) (st : PSt) (h : PH) : R FR := match ev e st h with
  | .stuck => .stuck
  | .ok v h1 => match ev o st h1 with
    | .stuck => .stuck
    | .ok a h2 => match ev i st h2 with
      | .stuck => .stuck
      | .ok k h3 => match setP a k v h3 with
        | some h4 => .ok (.nx st) h4
        | none => .stuck
def augI (op : Bop) (x y : Int) : Option Int := match op with
  | .add => some (x + y)
  | .sub => some (x - y)
  | .mul => match wide x || wide y with
    | true => some (x * y)
    | false => none
  | .fdiv => match decide (0 < y) && decide (y < 1073741824) with
    | true => some (x / y)
    | false => none
  | .mod => match decide (0 < y) with
    | true => some (x % y)
    | false => none
  | .pow => none
def xAugn (n : Nat) (ev : CE → PSt → PH → R PV) (rec : CS → PSt → PH → R FR) (i : Nat) (op : Bop) (e : CE) (st : PSt) (h : PH) : R FR := match st[i]? with
  | some (some (.int x)) => match ev e st h with
    | .ok (.int y) h1 => match augI op x y with
      | some z => .ok (.nx (st.set i (some (.int z)))) h1
      | none => .stuck
    | _ => .stuck
  | _ => .stuck
/-- o[i] op= e -/
def xAugix (n : Nat) (ev : CE → PSt → PH → R PV) (rec : CS → PSt → PH → R FR) (o i : CE) (op : Bop) (e : CE) (st : PSt) (h : PH) : R FR := match ev o st h with
  | .stuck => .stuck
  | .ok a h1 => match ev i st h1 with
    | .stuck => .stuck
    | .ok k h2 => match ixP a k h2 with
      | some (.int x) => match ev e st h2 with
        | .ok (.int y) h3 => match augI op x y with
          | some z => match setP a k (.int z) h3 with
            | some h4 => .ok (.nx st) h4
            | none => .stuck
          | none => .stuck
        | _ => .stuck
      | _ => .stuck
def xRet (n : Nat) (ev : CE → PSt → PH → R PV) (rec : CS → PSt → PH → R FR) (e : CE) (st : PSt) (h : PH) : R FR := match ev e st h with
  | .stuck => .stuck
  | .ok v h1 => .ok (.rt v) h1
def xIte (n : Nat) (ev : CE → PSt → PH → R PV) (rec : CS → PSt → PH → R FR) (b : CB) (t : List CS) (u : List CS) (st : PSt) (h : PH) : R FR := match evB ev b st h with
  | .stuck => .stuck
  | .ok true h1 => evSs rec t st h1
  | .ok false h1 => evSs rec u st h1
def xWhile (n : Nat) (ev : CE → PSt → PH → R PV) (rec : CS → PSt → PH → R FR) (b : CB) (t : List CS) (st : PSt) (h : PH) : R FR := whL (evB ev b) (evSs rec t) n st h
def xFor (n : Nat) (ev : CE → PSt → PH → R PV) (rec : CS → PSt → PH → R FR) (t : CT) (it : CI) (b : List CS) (st : PSt) (h : PH) : R FR := match evI ev it st h with
  | .stuck => .stuck
  | .ok iv h1 => forL (evSs rec b) iv t n 0 st h1
def stepS (n : Nat) (ev : CE → PSt → PH → R PV) (rec : CS → PSt → PH → R FR) (c : CS) (st : PSt) (h : PH) : R FR := match c with
  | .stuck => .stuck
  | .pass => .ok (.nx st) h
  | .expr e => xExpr n ev rec e st h
  | .asg t e => xAsg n ev rec t e st h
  | .par i j a b => xPar n ev rec i j a b st h
  | .par3 i j l a b d => xPar3 n ev rec i j l a b d st h
  | .setix o i e => xSetix n ev rec o i e st h
  | .augn i op e => xAugn n ev rec i op e st h
  | .augix o i op e => xAugix n ev rec o i op e st h
  | .ret e => xRet n ev rec e st h
  | .retN => .ok (.rt .non) h
  | .ite b t u => xIte n ev rec b t u st h
  | .while b t => xWhile n ev rec b t st h
  | .for t it b => xFor n ev rec t it b st h
  | .brk => .ok (.bk st) h
  | .cont => .ok (.ct st) h
def evS (call : Nat → List PV → PH → R PV) : Nat → CS → PSt → PH → R FR
  | 0, _, _, _ => .stuck
  | n + 1, c, st, h => stepS n (evE call n) (evS call n) c st h

structure Def where
  ar : Nat
  sz : Nat
  body : List CS
abbrev Prg := List Def
def runD (call : Nat → List PV → PH → R PV) (n : Nat) (d : Def) (vs : List PV) (h : PH) : R PV := match Nat.beq vs.length d.ar with
  | false => .stuck
  | true => match evSs (evS call n) d.body (vs.map some ++ List.replicate (d.sz - vs.length) none) h with
    | .ok (.rt v) h1 => .ok v h1
    | .ok (.nx _) h1 => .ok .non h1
    | _ => .stuck
def callP (P : Prg) (n : Nat) : Nat → Nat → List PV → PH → R PV
  | 0, _, _, _ => .stuck
  | d + 1, k, vs, h => match P[k]? with
    | some f => runD (callP P n d) n f vs h
    | none => .stuck
end Pyx

set_option Elab.async false
set_option linter.all false
set_option maxRecDepth 100000
set_option maxHeartbeats 4000000
/-! Pyx: how the pure values and heap lie in the layer's heap; readings. -/
namespace Pyx
open PySem PySem.Spec PyProof.Rows L2

structure Rc where
  K : PySem.W.Frag
  w : World
  F : Nat → Addr
def Frz (K : PySem.W.Frag) (H : Hp) (a : Addr) (xs : List V) : Prop :=
  (∃ o, H a = some (.frz o (.lst xs))) ∨
    ∃ (o : Obj) (its : Array Value) (n : Nat), K.lookup a = some o ∧ o.cls = .type "list" ∧ o.dict = none ∧ o.data = .seq its n ∧ its.size ≤ sizeLine ∧ Vals xs its.toList
theorem Frz.seq {K : PySem.W.Frag} {H : Hp} {a : Addr} {xs : List V} (h : Frz K H a xs) : SqL K H a xs := by
  rcases h with ⟨o, h⟩ | h
  · exact .inl (.inr ⟨o, h⟩)
  · exact .inr h
mutual
inductive RV (c : Rc) (f : Nat → Addr) (n : Nat) (H : Hp) : PV → V → Prop where
  | non : RV c f n H .non .non
  | bl (b : Bool) : RV c f n H (.bl b) (.bl b)
  | int (i : Int) : RV c f n H (.int i) (.int i)
  | str (s : Str) : RV c f n H (.str s) (.str s)
  | tup {a : Addr} {xs : List PV} {vs : List V} : H a = some (.tup vs) → RVs c f n H xs vs → RV c f n H (.tup xs) (.ref a)
  | ref {i : Nat} : i < n → RV c f n H (.ref i) (.ref (f i))
  | fn (k : Nat) : RV c f n H (.fn k) (.ref (c.F k))
inductive RVs (c : Rc) (f : Nat → Addr) (n : Nat) (H : Hp) : List PV → List V → Prop where
  | nil : RVs c f n H [] []
  | cons {x : PV} {v : V} {xs : List PV} {vs : List V} : RV c f n H x v → RVs c f n H xs vs → RVs c f n H (x :: xs) (v :: vs)
end
structure Ext (f : Nat → Addr) (n : Nat) (H : Hp) (f' : Nat → Addr) (n' : Nat) (H' : Hp) : Prop where
  le : n ≤ n'
  eq : ∀ i, i < n → f' i = f i
  tup : ∀ a vs, H a = some (.tup vs) → H' a = some (.tup vs)
section
variable {c : Rc} {f f' f1 f2 : Nat → Addr} {n n' n1 n2 : Nat} {H H' H1 H2 : Hp}
theorem Ext.refl : Ext f n H f n H := ⟨Nat.le_refl _, fun _ _ => rfl, fun _ _ h => h⟩
theorem Ext.trans (a : Ext f n H f1 n1 H1) (b : Ext f1 n1 H1 f2 n2 H2) : Ext f n H f2 n2 H2 :=
  ⟨Nat.le_trans a.le b.le, fun i h => (b.eq i (Nat.lt_of_lt_of_le h a.le)).trans (a.eq i h), fun x vs h => b.tup x vs (a.tup x vs h)⟩
mutual
theorem RV.mono (e : Ext f n H f' n' H') {x : PV} {v : V} : RV c f n H x v → RV c f' n' H' x v
  | .non => .non
  | .bl b => .bl b
  | .int i => .int i
  | .str s => .str s
  | .tup h r => .tup (e.tup _ _ h) (RVs.mono e r)
  | .ref h => by
    have q := RV.ref (c := c) (f := f') (H := H') (Nat.lt_of_lt_of_le h e.le)
    rw [e.eq _ h] at q
    exact q
  | .fn k => .fn k
theorem RVs.mono (e : Ext f n H f' n' H') {xs : List PV} {vs : List V} : RVs c f n H xs vs → RVs c f' n' H' xs vs
  | .nil => .nil
  | .cons h r => .cons (RV.mono e h) (RVs.mono e r)
end
theorem RVs.length : ∀ {xs : List PV} {vs : List V}, RVs c f n H xs vs → xs.length = vs.length
  | [], [], _ => rfl
  | _ :: _, _ :: _, .cons _ r => congrArg (· + 1) r.length
theorem RVs.app : ∀ {xs ys : List PV} {vs ws : List V}, RVs c f n H xs vs → RVs c f n H ys ws → RVs c f n H (xs ++ ys) (vs ++ ws)
  | [], _, [], _, _, h => h
  | _ :: _, _, _ :: _, _, .cons r t, h => .cons r (t.app h)
theorem RVs.get : ∀ {xs : List PV} {vs : List V}, RVs c f n H xs vs → ∀ (i : Nat) (x : PV), xs[i]? = some x → ∃ v, vs[i]? = some v ∧ RV c f n H x v
  | _ :: _, _ :: _, .cons r t, 0, x, h => by
    rw [List.getElem?_cons_zero] at h
    cases h
    exact ⟨_, rfl, r⟩
  | _ :: _, _ :: _, .cons r t, i + 1, x, h => by
    rw [List.getElem?_cons_succ] at h
    obtain ⟨v, e, q⟩ := RVs.get t i x h
    exact ⟨v, by rw [List.getElem?_cons_succ]; exact e, q⟩
  | [], [], .nil, i, x, h => by simp at h
theorem RVs.get' {xs : List PV} {vs : List V} (r : RVs c f n H xs vs) (i : Nat) (v : V) (h : vs[i]? = some v) : ∃ x, xs[i]? = some x ∧ RV c f n H x v := by
  have hi : i < vs.length := (List.getElem?_eq_some_iff.mp h).1
  rw [← r.length] at hi
  obtain ⟨w, e, q⟩ := r.get i _ (List.getElem?_eq_getElem hi)
  rw [h] at e
  cases e
  exact ⟨_, List.getElem?_eq_getElem hi, q⟩
theorem RVs.set : ∀ {xs : List PV} {vs : List V} (i : Nat) {x : PV} {v : V}, RVs c f n H xs vs → RV c f n H x v → RVs c f n H (xs.set i x) (vs.set i v)
  | [], [], _, _, _, .nil, _ => .nil
  | _ :: _, _ :: _, 0, _, _, .cons _ t, h => .cons h t
  | _ :: _, _ :: _, i + 1, _, _, .cons r t, h => .cons r (t.set i h)
theorem RVs.take : ∀ {xs : List PV} {vs : List V} (i : Nat), RVs c f n H xs vs → RVs c f n H (xs.take i) (vs.take i)
  | _, _, 0, _ => by rw [List.take_zero, List.take_zero]; exact .nil
  | [], [], i + 1, .nil => .nil
  | _ :: _, _ :: _, i + 1, .cons r t => .cons r (t.take i)
theorem RVs.drop : ∀ {xs : List PV} {vs : List V} (i : Nat), RVs c f n H xs vs → RVs c f n H (xs.drop i) (vs.drop i)
  | _, _, 0, h => h
  | [], [], i + 1, .nil => .nil
  | _ :: _, _ :: _, i + 1, .cons _ t => t.drop i
theorem RVs.rep {xs : List PV} {vs : List V} (r : RVs c f n H xs vs) : ∀ k : Nat, RVs c f n H (List.replicate k xs).flatten (List.replicate k vs).flatten
  | 0 => .nil
  | k + 1 => by
    rw [List.replicate_succ, List.replicate_succ, List.flatten_cons, List.flatten_cons]
    exact r.app (r.rep k)
theorem RVs.dropLast : ∀ {xs : List PV} {vs : List V}, RVs c f n H xs vs → RVs c f n H xs.dropLast vs.dropLast
  | [], [], .nil => .nil
  | [_], [_], .cons _ .nil => .nil
  | _ :: _ :: _, _ :: _ :: _, .cons r (.cons r2 t) => .cons r (RVs.dropLast (.cons r2 t))
theorem RVs.cut {xs : List PV} {vs : List V} (r : RVs c f n H xs vs) (lo hi : Option Int) : RVs c f n H (cutP xs lo hi) (cutV vs lo hi) := by
  unfold cutP cutV
  rw [r.length]
  exact (r.drop _).take _

/-- pairs of a dict -/
inductive RD {κ κ' : Type} (e : κ → κ') (c : Rc) (f : Nat → Addr) (n : Nat) (H : Hp) : List (κ × PV) → List (κ' × V) → Prop where
  | nil : RD e c f n H [] []
  | cons {k : κ} {x : PV} {v : V} {r : List (κ × PV)} {s : List (κ' × V)} : RV c f n H x v → RD e c f n H r s → RD e c f n H ((k, x) :: r) ((e k, v) :: s)
theorem RD.mono {κ κ' : Type} {ek : κ → κ'} (e : Ext f n H f' n' H') : ∀ {r : List (κ × PV)} {s : List (κ' × V)}, RD ek c f n H r s → RD ek c f' n' H' r s
  | _, _, .nil => .nil
  | _, _, .cons h t => .cons (h.mono e) (RD.mono e t)
theorem RD.length {κ κ' : Type} {ek : κ → κ'} : ∀ {r : List (κ × PV)} {s : List (κ' × V)}, RD ek c f n H r s → r.length = s.length
  | _, _, .nil => rfl
  | _, _, .cons _ t => congrArg (· + 1) t.length
theorem RD.val {κ κ' : Type} [DecidableEq κ] [DecidableEq κ'] {ek : κ → κ'} (inj : ∀ a b, ek a = ek b → a = b) (k : κ) : ∀ {r : List (κ × PV)} {s : List (κ' × V)}, RD ek c f n H r s → (valG k r = none ∧ valV s (ek k) = none) ∨ ∃ x v, valG k r = some x ∧ valV s (ek k) = some v ∧ RV c f n H x v
  | _, _, .nil => .inl ⟨rfl, rfl⟩
  | _, _, .cons (k := j) (x := x) (v := v) (r := r) (s := s) h t => by
    by_cases hk : j = k
    · subst hk
      refine .inr ⟨x, v, ?_, valV_pos rfl, h⟩
      unfold valG
      rw [decide_eq_true rfl]
    · have h1 : valG k ((j, x) :: r) = valG k r := by
        show (match decide (j = k) with | true => some x | false => valG k r) = _
        rw [decide_eq_false hk]
      rw [h1, valV_neg (fun z => hk (inj _ _ z))]
      exact t.val inj k
theorem putK_cons_pos {κ : Type} [DecidableEq κ] {k : κ} {v w : V} {r : List (κ × V)} (nd : valV r k = none) : putK ((k, w) :: r) k v = (k, v) :: r := by
  unfold putK
  rw [if_pos (by simp)]
  rw [List.map_cons, if_pos rfl]
  congr 1
  have key : ∀ l : List (κ × V), valV l k = none → (l.map fun kv => if kv.1 = k then (kv.1, v) else kv) = l := by
    intro l
    induction l with
    | nil => intro _; rfl
    | cons p l ih =>
      intro hn
      by_cases hp : p.1 = k
      · rw [valV_pos hp] at hn; cases hn
      · rw [valV_neg hp] at hn
        rw [List.map_cons, if_neg hp, ih hn]
  exact key r nd
theorem putK_cons_neg {κ : Type} [DecidableEq κ] {k j : κ} {v w : V} {r : List (κ × V)} (hk : ¬ j = k) : putK ((j, w) :: r) k v = (j, w) :: putK r k v := by
  unfold putK
  by_cases ha : (r.any fun kv => decide (kv.1 = k)) = true
  · rw [if_pos (by rw [List.any_cons, ha, Bool.or_true]), if_pos ha, List.map_cons, if_neg hk]
  · rw [if_neg (by rw [List.any_cons]; simpa [hk] using ha), if_neg ha]
    rfl
/-- no key twice -/
def NoTw {κ : Type} [DecidableEq κ] : List (κ × V) → Prop
  | [] => True
  | p :: r => valV r p.1 = none ∧ NoTw r
theorem valV_putK_ne {κ : Type} [DecidableEq κ] {k j : κ} {v : V} (hk : ¬ j = k) : ∀ r : List (κ × V), valV r j = none → valV (putK r k v) j = none := fun r h => by
  rw [valV_put, if_neg hk]
  exact h
theorem NoTw.put {κ : Type} [DecidableEq κ] {k : κ} {v : V} : ∀ {r : List (κ × V)}, NoTw r → NoTw (putK r k v)
  | [], _ => by
    have e : putK ([] : List (κ × V)) k v = [(k, v)] := rfl
    rw [e]
    exact ⟨rfl, trivial⟩
  | (j, w) :: r, h => by
    by_cases hk : j = k
    · subst hk
      rw [putK_cons_pos h.1]
      exact h
    · rw [putK_cons_neg hk]
      exact ⟨valV_putK_ne hk r h.1, NoTw.put h.2⟩
theorem RD.put {κ κ' : Type} [DecidableEq κ] [DecidableEq κ'] {ek : κ → κ'} (inj : ∀ a b, ek a = ek b → a = b) (k : κ) {x : PV} {v : V} (rv : RV c f n H x v) : ∀ {r : List (κ × PV)} {s : List (κ' × V)}, RD ek c f n H r s → NoTw s → RD ek c f n H (putG k x r) (putK s (ek k) v)
  | _, _, .nil, _ => .cons rv .nil
  | _, _, .cons (k := j) (x := y) (v := w) (r := r) (s := s) h t, nt => by
    by_cases hk : j = k
    · subst hk
      rw [putK_cons_pos nt.1]
      have h1 : putG j x ((j, y) :: r) = (j, x) :: r := by
        show (match decide (j = j) with | true => (j, x) :: r | false => (j, y) :: putG j x r) = _
        rw [decide_eq_true rfl]
      rw [h1]
      exact .cons rv t
    · rw [putK_cons_neg (fun z => hk (inj _ _ z))]
      have h1 : putG k x ((j, y) :: r) = (j, y) :: putG k x r := by
        show (match decide (j = k) with | true => (j, x) :: r | false => (j, y) :: putG k x r) = _
        rw [decide_eq_false hk]
      rw [h1]
      exact .cons h (t.put inj k rv nt.2)
def kI (i : Int) : Key := .inl i
def kT (is : List Int) : List Key := is.map kI
theorem kI_inj (a b : Int) (h : kI a = kI b) : a = b := by
  cases h
  rfl
theorem kT_inj : ∀ a b : List Int, kT a = kT b → a = b
  | [], [], _ => rfl
  | [], _ :: _, h => by cases h
  | _ :: _, [], h => by cases h
  | x :: a, y :: b, h => by
    have h1 := List.cons.inj h
    rw [kI_inj _ _ h1.1, kT_inj a b h1.2]
inductive RO (c : Rc) (f : Nat → Addr) (n : Nat) (H : Hp) : PO → Addr → Prop where
  | lst {xs : List PV} {vs : List V} {a : Addr} : H a = some (.lst vs) → RVs c f n H xs vs → RO c f n H (.lst xs) a
  | fz {xs : List PV} {vs : List V} {a : Addr} : Frz c.K H a vs → RVs c f n H xs vs → RO c f n H (.fz xs) a
  | set {xs : List Int} {S : Int → Bool} {k : Nat} {a : Addr} : H a = some (SetO c.w a S k) → (∀ j, S j = true ↔ j ∈ xs) → k = xs.length → xs.Nodup → RO c f n H (.set xs) a
  | dK {kvs : List (Int × PV)} {ws : List (Key × V)} {a : Addr} : H a = some (.dK ws) → RD kI c f n H kvs ws → NoTw ws → RO c f n H (.dK kvs) a
  | dT {kvs : List (List Int × PV)} {ws : List (List Key × V)} {a : Addr} : H a = some (.dT ws) → RD kT c f n H kvs ws → NoTw ws → RO c f n H (.dT kvs) a
/-- what may be written -/
def mutO : PO → Bool
  | .lst _ => true
  | .dK _ => true
  | .dT _ => true
  | _ => false
structure Rel (c : Rc) (f : Nat → Addr) (h : PH) (H : Hp) : Prop where
  len : h.os.length = h.n
  obj : ∀ i o, h.get i = some o → RO c f h.n H o (f i)
  inj : ∀ i j o u, h.get i = some o → h.get j = some u → mutO o = true → mutO u = true → f i = f j → i = j
theorem get_lt {h : PH} {i : Nat} {o : PO} (e : h.get i = some o) : i < h.n := by
  unfold PH.get at e
  split at e
  · rename_i hb
    exact Nat.le_of_ble_eq_true hb
  · cases e
theorem get_at {h : PH} {i : Nat} (hi : i < h.n) : h.get i = h.os[h.n - 1 - i]? := by
  unfold PH.get
  rw [show Nat.blt i h.n = true from Nat.ble_eq_true_of_le hi]
theorem get_push {h : PH} {o : PO} (i : Nat) : (h.push o).get i = if i = h.n then some o else h.get i := by
  unfold PH.push
  by_cases e : i = h.n
  · subst e
    rw [if_pos rfl, get_at (h := ⟨h.n + 1, o :: h.os⟩) (Nat.lt_succ_self _)]
    show (o :: h.os)[h.n + 1 - 1 - h.n]? = some o
    rw [Nat.add_sub_cancel, Nat.sub_self, List.getElem?_cons_zero]
  · rw [if_neg e]
    by_cases hi : i < h.n
    · rw [get_at (h := ⟨h.n + 1, o :: h.os⟩) (Nat.lt_succ_of_lt hi), get_at hi]
      show (o :: h.os)[h.n + 1 - 1 - i]? = _
      rw [show h.n + 1 - 1 - i = (h.n - 1 - i) + 1 by omega, List.getElem?_cons_succ]
    · have h1 : ∀ g : PH, ¬ i < g.n → g.get i = none := fun g hg => by
        cases q : g.get i with
        | none => rfl
        | some u => exact absurd (get_lt q) hg
      rw [h1 h hi, h1 _ (show ¬ i < h.n + 1 by omega)]
theorem get_set {h : PH} {j : Nat} {o : PO} (len : h.os.length = h.n) (hj : j < h.n) (i : Nat) : (h.set j o).get i = if i = j then some o else h.get i := by
  unfold PH.set
  by_cases hi : i < h.n
  · rw [get_at (h := ⟨h.n, h.os.set (h.n - 1 - j) o⟩) hi, get_at hi]
    show (h.os.set (h.n - 1 - j) o)[h.n - 1 - i]? = _
    by_cases e : i = j
    · subst e
      rw [if_pos rfl, List.getElem?_set_self (by omega)]
    · rw [if_neg e, List.getElem?_set_ne (by omega)]
  · have h1 : ∀ g : PH, ¬ i < g.n → g.get i = none := fun g hg => by
      cases q : g.get i with
      | none => rfl
      | some u => exact absurd (get_lt q) hg
    rw [if_neg (show i ≠ j by omega)]
    exact (h1 ⟨h.n, h.os.set (h.n - 1 - j) o⟩ hi).trans (h1 h hi).symm

theorem RO.mono {o : PO} {a : Addr} (e : Ext f n H f' n' H') (hk : ∀ u, H a = some u → H' a = some u) : RO c f n H o a → RO c f' n' H' o a
  | .lst h r => .lst (hk _ h) (r.mono e)
  | .fz h r => .fz (by
    rcases h with ⟨ob, h⟩ | h
    · exact .inl ⟨ob, hk _ h⟩
    · exact .inr h) (r.mono e)
  | .set h a b c => .set (hk _ h) a b c
  | .dK h r t => .dK (hk _ h) (r.mono e) t
  | .dT h r t => .dT (hk _ h) (r.mono e) t
/-- what was tracked stands -/
theorem Rel.same {h : PH} (r : Rel c f h H) (s : Same H H') : Rel c f h H' ∧ Ext f h.n H f h.n H' := by
  have e : Ext f h.n H f h.n H' := ⟨Nat.le_refl _, fun _ _ => rfl, fun a vs q => s a _ q⟩
  exact ⟨⟨r.len, fun i o q => (r.obj i o q).mono e (fun u z => s _ _ z), r.inj⟩, e⟩
theorem same_upd {p : Addr} {o : HO} (hp : H p = none) : Same H (upd H p o) := fun b u q => by
  rw [upd_ne (ne_of_none q hp)]
  exact q
def ext1 (f : Nat → Addr) (n : Nat) (p : Addr) : Nat → Addr := fun i => if i = n then p else f i
theorem ext1_at {p : Addr} : ext1 f n p n = p := by unfold ext1; rw [if_pos rfl]
theorem ext1_lt {p : Addr} {i : Nat} (h : i < n) : ext1 f n p i = f i := by unfold ext1; rw [if_neg (Nat.ne_of_lt h)]
/-- a new object -/
theorem Rel.lays {h : PH} {p : Addr} {o : PO} {u : HO} (r : Rel c f h H) (hp : H p = none) (ro : RO c (ext1 f h.n p) (h.n + 1) (upd H p u) o p) :
    Rel c (ext1 f h.n p) (h.push o) (upd H p u) ∧ Ext f h.n H (ext1 f h.n p) (h.n + 1) (upd H p u) := by
  have s : Same H (upd H p u) := same_upd hp
  have e : Ext f h.n H (ext1 f h.n p) (h.n + 1) (upd H p u) := ⟨Nat.le_succ _, fun i hi => ext1_lt hi, fun a ws q => s a _ q⟩
  refine ⟨⟨by show (o :: h.os).length = h.n + 1; rw [List.length_cons, r.len], fun i o q => ?_, fun i j us ws q1 q2 m1 m2 ef => ?_⟩, e⟩
  · rw [get_push] at q
    by_cases hi : i = h.n
    · rw [if_pos hi] at q
      cases q
      subst hi
      rw [ext1_at]
      exact ro
    · rw [if_neg hi] at q
      rw [ext1_lt (get_lt q)]
      exact (r.obj i o q).mono e (fun u z => s _ _ z)
  · rw [get_push] at q1 q2
    have old : ∀ k u, h.get k = some u → mutO u = true → f k ≠ p := fun k u q m z => by
      cases r.obj k _ q with
      | lst h1 _ => rw [z, hp] at h1; cases h1
      | dK h1 _ _ => rw [z, hp] at h1; cases h1
      | dT h1 _ _ => rw [z, hp] at h1; cases h1
      | fz _ _ => cases m
      | set _ _ _ _ => cases m
    by_cases hi : i = h.n <;> by_cases hj : j = h.n
    · rw [hi, hj]
    · rw [if_neg hj] at q2
      rw [hi, ext1_at, ext1_lt (get_lt q2)] at ef
      exact absurd ef.symm (old _ _ q2 m2)
    · rw [if_neg hi] at q1
      rw [hj, ext1_at, ext1_lt (get_lt q1)] at ef
      exact absurd ef (old _ _ q1 m1)
    · rw [if_neg hi] at q1
      rw [if_neg hj] at q2
      rw [ext1_lt (get_lt q1), ext1_lt (get_lt q2)] at ef
      exact r.inj _ _ _ _ q1 q2 m1 m2 ef
theorem Rel.laid {h : PH} {p : Addr} {xs : List PV} {vs : List V} (r : Rel c f h H) (hp : H p = none) (rv : RVs c f h.n H xs vs) :
    Rel c (ext1 f h.n p) (h.push (.lst xs)) (upd H p (.lst vs)) ∧ Ext f h.n H (ext1 f h.n p) (h.n + 1) (upd H p (.lst vs)) := by
  have s : Same H (upd H p (.lst vs)) := same_upd hp
  have e : Ext f h.n H (ext1 f h.n p) (h.n + 1) (upd H p (.lst vs)) := ⟨Nat.le_succ _, fun i hi => ext1_lt hi, fun a ws q => s a _ q⟩
  exact r.lays hp (.lst upd_same (rv.mono e))
/-- an object is rewritten by one of its kind -/
theorem Rel.rewrite {h : PH} {i : Nat} {o : PO} {o' : PO} {u u' : HO} (r : Rel c f h H) (hi : h.get i = some o) (m : mutO o = true) (m' : mutO o' = true) (hu : H (f i) = some u) (nt : ∀ vs, u ≠ .tup vs) (nf : ∀ ob vs, u ≠ .frz ob (.lst vs))
    (ns : ∀ S k, u ≠ SetO c.w (f i) S k) (new : ∀ H' : Hp, H' (f i) = some u' → Ext f h.n H f h.n H' → RO c f h.n H' o' (f i)) :
    Rel c f (h.set i o') (upd H (f i) u') ∧ Ext f h.n H f h.n (upd H (f i) u') := by
  have e : Ext f h.n H f h.n (upd H (f i) u') := ⟨Nat.le_refl _, fun _ _ => rfl, fun a us q => by
    rw [upd_ne (ne_of q hu (fun z => nt us z.symm))]
    exact q⟩
  refine ⟨⟨by show (h.os.set _ _).length = h.n; rw [List.length_set, r.len], fun j v q => ?_, fun j k us zs q1 q2 m1 m2 ef => ?_⟩, e⟩
  · rw [get_set r.len (get_lt hi)] at q
    by_cases hj : j = i
    · rw [if_pos hj] at q
      cases q
      subst hj
      exact new _ upd_same e
    · rw [if_neg hj] at q
      have q' := r.obj j v q
      have ne : mutO v = true → f j ≠ f i := fun mv z => hj (r.inj _ _ _ _ q hi mv m z)
      cases q' with
      | lst h1 h2 => exact .lst (by rw [upd_ne (ne rfl)]; exact h1) (h2.mono e)
      | dK h1 h2 h3 => exact .dK (by rw [upd_ne (ne rfl)]; exact h1) (h2.mono e) h3
      | dT h1 h2 h3 => exact .dT (by rw [upd_ne (ne rfl)]; exact h1) (h2.mono e) h3
      | fz h1 h2 =>
        refine .fz ?_ (h2.mono e)
        rcases h1 with ⟨ob, h1⟩ | h1
        · exact .inl ⟨ob, by rw [upd_ne (ne_of h1 hu (fun z => nf _ _ z.symm))]; exact h1⟩
        · exact .inr h1
      | set h1 h2 h3 h4 =>
        refine .set ?_ h2 h3 h4
        by_cases hz : f j = f i
        · rw [hz, hu] at h1
          exact absurd (Option.some.inj h1) (ns _ _)
        · rw [upd_ne hz]; exact h1
  · rw [get_set r.len (get_lt hi)] at q1 q2
    have back : ∀ k w, (if k = i then some o' else h.get k) = some w → mutO w = true → ∃ us, h.get k = some us ∧ mutO us = true := fun k w q mw => by
      by_cases hk : k = i
      · exact ⟨o, by rw [hk]; exact hi, m⟩
      · rw [if_neg hk] at q
        exact ⟨_, q, mw⟩
    obtain ⟨_, z1, y1⟩ := back _ _ q1 m1
    obtain ⟨_, z2, y2⟩ := back _ _ q2 m2
    exact r.inj _ _ _ _ z1 z2 y1 y2 ef
/-- a list is rewritten -/
theorem Rel.write {h : PH} {i : Nat} {xs ys : List PV} {vs : List V} (r : Rel c f h H) (hi : h.get i = some (.lst xs)) (rv : RVs c f h.n H ys vs) :
    Rel c f (h.set i (.lst ys)) (upd H (f i) (.lst vs)) ∧ Ext f h.n H f h.n (upd H (f i) (.lst vs)) := by
  obtain ⟨ws, hw⟩ : ∃ ws, H (f i) = some (.lst ws) := by
    cases r.obj i _ hi with
    | lst h1 _ => exact ⟨_, h1⟩
  exact r.rewrite hi rfl rfl hw (fun vs z => by cases z) (fun ob vs z => by cases z) (fun S k z => by cases z) fun H' e x => .lst e (rv.mono x)
theorem Rel.writeK {h : PH} {i : Nat} {kvs kvs' : List (Int × PV)} {ws : List (Key × V)} (r : Rel c f h H) (hi : h.get i = some (.dK kvs)) (rv : RD kI c f h.n H kvs' ws) (nt : NoTw ws) :
    Rel c f (h.set i (.dK kvs')) (upd H (f i) (.dK ws)) ∧ Ext f h.n H f h.n (upd H (f i) (.dK ws)) := by
  obtain ⟨ws, hw⟩ : ∃ ws, H (f i) = some (.dK ws) := by
    cases r.obj i _ hi with
    | dK h1 _ _ => exact ⟨_, h1⟩
  exact r.rewrite hi rfl rfl hw (fun vs z => by cases z) (fun ob vs z => by cases z) (fun S k z => by cases z) fun H' e x => .dK e (rv.mono x) nt
theorem Rel.writeT {h : PH} {i : Nat} {kvs kvs' : List (List Int × PV)} {ws : List (List Key × V)} (r : Rel c f h H) (hi : h.get i = some (.dT kvs)) (rv : RD kT c f h.n H kvs' ws) (nt : NoTw ws) :
    Rel c f (h.set i (.dT kvs')) (upd H (f i) (.dT ws)) ∧ Ext f h.n H f h.n (upd H (f i) (.dT ws)) := by
  obtain ⟨ws, hw⟩ : ∃ ws, H (f i) = some (.dT ws) := by
    cases r.obj i _ hi with
    | dT h1 _ _ => exact ⟨_, h1⟩
  exact r.rewrite hi rfl rfl hw (fun vs z => by cases z) (fun ob vs z => by cases z) (fun S k z => by cases z) fun H' e x => .dT e (rv.mono x) nt

/-! ### what comes of an evaluation -/
def Post {α : Type} (c : Rc) (f : Nat → Addr) (n : Nat) (H : Hp) (r : R α) (Q : (Nat → Addr) → PH → Hp → α → Prop) : Prop := match r with
  | .ok a h' => ∀ f' H', Ext f n H f' h'.n H' → Rel c f' h' H' → Q f' h' H' a
  | .stuck => False
def VQ (c : Rc) (Q : VK) : (Nat → Addr) → PH → Hp → PV → Prop := fun f h H x => ∀ v, RV c f h.n H x v → Q v H
theorem Post.mono {α : Type} {r : R α} {Q : (Nat → Addr) → PH → Hp → α → Prop} (e : Ext f n H f1 n1 H1) (p : Post c f n H r Q) : Post c f1 n1 H1 r Q := by
  cases r with
  | ok a h => exact fun f' H' e' R' => p f' H' (e.trans e') R'
  | stuck => exact p
theorem Post.imp {α : Type} {r : R α} {Q Q' : (Nat → Addr) → PH → Hp → α → Prop} (p : Post c f n H r Q) (k : ∀ f' h' H' a, Q f' h' H' a → Q' f' h' H' a) : Post c f n H r Q' := by
  cases r with
  | ok a h => exact fun f' H' e' R' => k _ _ _ _ (p f' H' e' R')
  | stuck => exact p
def RSt (c : Rc) (f : Nat → Addr) (n : Nat) (H : Hp) (st : PSt) (σ : L2.St) : Prop := st.length = σ.length ∧ ∀ (i : Nat) (x : PV), st[i]? = some (some x) → ∃ v, σ[i]? = some (some v) ∧ RV c f n H x v
theorem RSt.mono {st : PSt} {σ : L2.St} (e : Ext f n H f' n' H') (r : RSt c f n H st σ) : RSt c f' n' H' st σ :=
  ⟨r.1, fun i x q => let ⟨v, h1, h2⟩ := r.2 i x q; ⟨v, h1, h2.mono e⟩⟩
theorem RSt.set {st : PSt} {σ : L2.St} (r : RSt c f n H st σ) (i : Nat) {x : PV} {v : V} (rv : RV c f n H x v) : RSt c f n H (st.set i (some x)) (σ.set i (some v)) := by
  refine ⟨by rw [List.length_set, List.length_set]; exact r.1, fun j y q => ?_⟩
  by_cases hj : i = j
  · subst hj
    by_cases hi : i < st.length
    · rw [List.getElem?_set_self hi] at q
      cases q
      exact ⟨v, List.getElem?_set_self (by rw [← r.1]; exact hi), rv⟩
    · rw [List.getElem?_eq_none (by rw [List.length_set]; omega)] at q
      cases q
  · rw [List.getElem?_set_ne hj] at q
    rw [List.getElem?_set_ne hj]
    exact r.2 j y q
theorem RSt.wipe {st : PSt} {σ : L2.St} (r : RSt c f n H st σ) : ∀ vs : List Nat, RSt c f n H (wipeP st vs) (wipe σ vs)
  | [] => r
  | i :: vs => by
    have t := r.wipe vs
    unfold wipeP L2.wipe
    refine ⟨by rw [List.length_set, List.length_set]; exact t.1, fun j y q => ?_⟩
    by_cases hj : i = j
    · subst hj
      by_cases hi : i < (wipeP st vs).length
      · rw [List.getElem?_set_self hi] at q
        cases q
      · rw [List.getElem?_eq_none (by rw [List.length_set]; omega)] at q
        cases q
    · rw [List.getElem?_set_ne hj] at q
      rw [List.getElem?_set_ne hj]
      exact t.2 j y q
/-- the reading of a piece of code -/
def tE (c : Rc) (ev : PSt → PH → R PV) : TE := fun σ H Q => ∃ f h st, Rel c f h H ∧ RSt c f h.n H st σ ∧ Post c f h.n H (ev st h) (VQ c Q)
def tB' (c : Rc) (ev : PSt → PH → R Bool) : TT := fun σ H Q => ∃ f h st, Rel c f h H ∧ RSt c f h.n H st σ ∧ Post c f h.n H (ev st h) (fun _ _ H' b => Q b H')
def tA (c : Rc) (ev : PSt → PH → R (List PV)) : TA := fun σ H Q => ∃ f h st, Rel c f h H ∧ RSt c f h.n H st σ ∧ Post c f h.n H (ev st h) (fun f' h' H' xs => ∀ vs, RVs c f' h'.n H' xs vs → Q vs H')
variable {σ : L2.St} {st : PSt} {h h1 : PH}
theorem tE_of {ev : PSt → PH → R PV} {x : PV} {Q : VK} (hr : ev st h = .ok x h1) (r : Rel c f h H) (s : RSt c f h.n H st σ)
    (k : ∀ f1 H1 v, Ext f h.n H f1 h1.n H1 → Rel c f1 h1 H1 → RSt c f1 h1.n H1 st σ → RV c f1 h1.n H1 x v → Q v H1) : tE c ev σ H Q :=
  ⟨f, h, st, r, s, by rw [hr]; exact fun f1 H1 e1 R1 v rv => k f1 H1 v e1 R1 (s.mono e1) rv⟩
theorem tB_of {ev : PSt → PH → R Bool} {x : Bool} {Q : Bool → Hp → Prop} (hr : ev st h = .ok x h1) (r : Rel c f h H) (s : RSt c f h.n H st σ)
    (k : ∀ f1 H1, Ext f h.n H f1 h1.n H1 → Rel c f1 h1 H1 → RSt c f1 h1.n H1 st σ → Q x H1) : tB' c ev σ H Q :=
  ⟨f, h, st, r, s, by rw [hr]; exact fun f1 H1 e1 R1 => k f1 H1 e1 R1 (s.mono e1)⟩
theorem tA_of {ev : PSt → PH → R (List PV)} {xs : List PV} {Q : List V → Hp → Prop} (hr : ev st h = .ok xs h1) (r : Rel c f h H) (s : RSt c f h.n H st σ)
    (k : ∀ f1 H1 vs, Ext f h.n H f1 h1.n H1 → Rel c f1 h1 H1 → RSt c f1 h1.n H1 st σ → RVs c f1 h1.n H1 xs vs → Q vs H1) : tA c ev σ H Q :=
  ⟨f, h, st, r, s, by rw [hr]; exact fun f1 H1 e1 R1 v rv => k f1 H1 v e1 R1 (s.mono e1) rv⟩
end
/-! ### what values say -/
section
variable {c : Rc} {f : Nat → Addr} {h : PH} {H : Hp}
theorem seqL_at {x : PV} {v : V} {xs : List PV} (r : Rel c f h H) (rv : RV c f h.n H x v) (e : seqL x h = some xs) : ∃ a vs, v = .ref a ∧ SqL c.K H a vs ∧ RVs c f h.n H xs vs := by
  unfold seqL at e
  split at e
  · rename_i i
    cases rv with
    | ref hi =>
      split at e
      · rename_i ys q
        cases e
        cases r.obj i _ q with
        | lst h1 h2 => exact ⟨_, _, rfl, SqL.of h1, h2⟩
      · rename_i ys q
        cases e
        cases r.obj i _ q with
        | fz h1 h2 => exact ⟨_, _, rfl, h1.seq, h2⟩
      · cases e
  · cases e
theorem seqOf_at {x : PV} {v : V} {xs : List PV} (r : Rel c f h H) (rv : RV c f h.n H x v) (e : seqOf x h = some xs) : ∃ a vs, v = .ref a ∧ (SqL c.K H a vs ∨ SqT c.K H a vs) ∧ RVs c f h.n H xs vs := by
  cases x with
  | tup ys =>
    cases e
    cases rv with
    | tup h1 h2 => exact ⟨_, _, rfl, .inr (SqT.of h1), h2⟩
  | ref i =>
    obtain ⟨a, vs, h1, h2, h3⟩ := seqL_at (x := .ref i) r rv e
    exact ⟨a, vs, h1, .inl h2, h3⟩
  | _ => cases e
theorem seqOf_at2 {x : PV} {v : V} {xs : List PV} (r : Rel c f h H) (rv : RV c f h.n H x v) (e : seqOf x h = some xs) : ∃ a vs, v = .ref a ∧ (SqL c.K H a vs ∨ (x = .tup xs ∧ H a = some (.tup vs))) ∧ RVs c f h.n H xs vs := by
  cases x with
  | tup ys =>
    cases e
    cases rv with
    | tup h1 h2 => exact ⟨_, _, rfl, .inr ⟨rfl, h1⟩, h2⟩
  | ref i =>
    obtain ⟨a, vs, h1, h2, h3⟩ := seqL_at (x := .ref i) r rv e
    exact ⟨a, vs, h1, .inl h2, h3⟩
  | _ => cases e
theorem lstAt_at {x : PV} {v : V} {i : Nat} {xs : List PV} (r : Rel c f h H) (rv : RV c f h.n H x v) (e : lstAt x h = some (i, xs)) : ∃ vs, v = .ref (f i) ∧ h.get i = some (.lst xs) ∧ H (f i) = some (.lst vs) ∧ RVs c f h.n H xs vs := by
  unfold lstAt at e
  split at e
  · rename_i j
    cases rv with
    | ref hi =>
      split at e
      · rename_i ys q
        cases e
        cases r.obj _ _ q with
        | lst h1 h2 => exact ⟨_, rfl, q, h1, h2⟩
      · cases e
  · cases e
theorem intsP_vals : ∀ {xs : List PV} {vs : List V} {is : List Int}, RVs c f h.n H xs vs → intsP xs = some is → vs = is.map V.int ∧ xs = is.map PV.int
  | [], [], is, .nil, e => by cases e; exact ⟨rfl, rfl⟩
  | x :: xs, v :: vs, is, .cons r t, e => by
    cases x with
    | int i =>
      cases r
      unfold intsP at e
      cases q : intsP xs with
      | none => rw [q] at e; cases e
      | some js =>
        rw [q] at e
        cases e
        obtain ⟨e1, e2⟩ := intsP_vals t q
        exact ⟨by rw [e1]; rfl, by rw [e2]; rfl⟩
    | _ => cases e
theorem rvs_ints {n : Nat} : ∀ is : List Int, RVs c f n H (is.map PV.int) (is.map V.int)
  | [] => .nil
  | i :: is => .cons (.int i) (rvs_ints is)
theorem small_le {α : Type} {xs : List α} (e : small xs = true) : xs.length ≤ 100000 := Nat.le_of_ble_eq_true e
theorem line_big : 100000 < sizeLine := by rw [sizeLine_eq]; decide
theorem small_size {α : Type} {xs : List α} (e : small xs = true) : xs.length < sizeLine := Nat.lt_of_le_of_lt (small_le e) line_big
/-- a new list, a new tuple -/
theorem okL_at {xs : List PV} {vs : List V} {Q : VK} (r : Rel c f h H) (rv : RVs c f h.n H xs vs) (p : Post c f h.n H (okL xs h) (VQ c Q)) : vs.length < sizeLine ∧ ∀ a, H a = none → Q (.ref a) (upd H a (.lst vs)) := by
  unfold okL at p
  split at p
  · rename_i e
    refine ⟨by rw [← rv.length]; exact small_size e, fun a ha => ?_⟩
    obtain ⟨r1, e1⟩ := r.laid ha rv
    have q := p _ _ e1 r1 (.ref a)
    refine q ?_
    have z := RV.ref (c := c) (f := ext1 f h.n a) (n := h.n + 1) (H := upd H a (.lst vs)) (Nat.lt_succ_self h.n)
    rw [ext1_at] at z
    exact z
  · exact p.elim
theorem okT_at {xs : List PV} {vs : List V} {Q : VK} (r : Rel c f h H) (rv : RVs c f h.n H xs vs) (p : Post c f h.n H (okT xs h) (VQ c Q)) : vs.length < sizeLine ∧ (∀ a, H a = none → Q (.ref a) (upd H a (.tup vs))) ∧ ∀ a, H a = some (.tup vs) → Q (.ref a) H := by
  unfold okT at p
  split at p
  · rename_i e
    refine ⟨by rw [← rv.length]; exact small_size e, fun a ha => ?_, fun a ha => ?_⟩
    · obtain ⟨r1, e1⟩ := r.same (same_upd (o := .tup vs) ha)
      exact p _ _ e1 r1 (.ref a) (.tup upd_same (rv.mono e1))
    · exact p _ _ .refl r (.ref a) (.tup ha rv)
  · exact p.elim
end
end Pyx

set_option Elab.async false
set_option linter.all false
set_option maxRecDepth 100000
set_option maxHeartbeats 4000000
/-! Pyx: operations on values keep what the pure ones say. -/
namespace Pyx
open PySem PySem.Spec PyProof.Rows L2
def opB : Bop → Operator
  | .add => .Add
  | .sub => .Sub
  | .mul => .Mult
  | .fdiv => .FloorDiv
  | .mod => .Mod
  | .pow => .Pow
def opC : Cop → CmpOp
  | .eq => .Eq
  | .ne => .NotEq
  | .lt => .Lt
  | .le => .LtE
  | .gt => .Gt
  | .ge => .GtE
  | .is => .Is
  | .nis => .IsNot
theorem tuple_mul1 (l : Addr) (items : Array Value) (n : Nat) (dd : Option Addr) (sl : Array (Option Value)) (u : Tok) :
    Meets (Builtin.«tuple.__mul__» ⟨[.ref l, .int 1 u], []⟩) (fun _ R s => s.heap.get? l = some { cls := .type "tuple", dict := dd, data := .seq items n, slots := sl } ∧ R (.ok (.ret (Value.ref l))) s) :=
  .of_wp fun prog w A R s h => by
    obtain ⟨hp, g, d, tk, os⟩ := s
    obtain ⟨hl, h⟩ := h
    have f1 := AutoSeq1.idx_int
    wp_walk using wpAny_loadPart' hl
    repeat (first
      | (refine wpAny_ite_false (by decide) ?_; wp_walk using wpAny_loadPart' hl)
      | (refine wpAny_ite_true (by simp) ?_; wp_walk using wpAny_loadPart' hl))
    exact ⟨_, rfl, h⟩
def rRep1 (K : PySem.W.Frag) : R2 := fun x y H Q => ∃ l xs, x = .ref l ∧ y = .int 1 ∧ SqT K H l xs ∧ Q (.ref l) H
theorem op_rep1 {X : Cx} : OpR X (binaryOp .Mult) (rRep1 X.K) := by
  intro pins s σ H x y v u Q I rx ry h
  obtain ⟨l, xs, rfl, rfl, hT, q⟩ := h
  cases rx
  obtain ⟨t, rfl⟩ := ry
  obtain ⟨its, r, ⟨⟨cls, dd, data, sl⟩, ho, hc, n, hd⟩, hs⟩ := I.tuple hT
  simp only at hc hd
  subst hc hd
  refine wpAny_binaryOp_repeat_ref (T := "tuple") (U := "int") (by decide) ⟨_, ho, rfl⟩ (fun s' => typeIs_int s' 1 t) noFill_tuple_mul F.fills_int_mul F.slot_int_rmul repeat_tuple F.slot_int_index.lookup
    (call_meets F.slot_int_rmul (typeIs_int s 1 t) F.entry_int_rmul (F.args_int_rmul_2 _ _) (int_rmul_tuple 1 t l its.toArray n dd sl)
      ⟨ho, rfl, ⟨_, ho, rfl⟩, call_meets F.slot_tuple_mul ⟨_, ho, rfl⟩ F.entry_tuple_mul (F.args_tuple_mul_2 _ _) (tuple_mul1 l its.toArray n dd sl t) ⟨ho, ?_⟩⟩)
  exact ⟨.ref l, H, I, rfl, q⟩
def rBin (c : Rc) (op : Bop) : R2 := fun x y H Q => ∃ f h pv pw, Rel c f h H ∧ RV c f h.n H pv x ∧ RV c f h.n H pw y ∧ Post c f h.n H (binP op pv pw h) (VQ c Q)
def rCmp (c : Rc) (op : Cop) : R2 := fun x y H Q => ∃ f h pv pw k, Rel c f h H ∧ RV c f h.n H pv x ∧ RV c f h.n H pw y ∧ cmpP op pv pw h = some k ∧ Q (.bl k) H
def rInP (c : Rc) (ng : Bool) : R2 := fun x y H Q => ∃ f h pv pw k, Rel c f h H ∧ RV c f h.n H pv x ∧ RV c f h.n H pw y ∧ inP pv pw h = some k ∧ Q (.bl (if ng then !k else k)) H
def rBi (c : Rc) (b : Bi) : List V → Hp → VK → Prop := fun vs H Q => ∃ f h ps, Rel c f h H ∧ RVs c f h.n H ps vs ∧ Post c f h.n H (biP b ps h) (VQ c Q)
def rTru (c : Rc) : V → Hp → (Bool → Hp → Prop) → Prop := fun x H Q => ∃ f h pv k, Rel c f h H ∧ RV c f h.n H pv x ∧ truth pv h = some k ∧ Q k H
def rIxP (c : Rc) : R2 := fun x y H Q => ∃ f h pv pw pu, Rel c f h H ∧ RV c f h.n H pv x ∧ RV c f h.n H pw y ∧ ixP pv pw h = some pu ∧ ∀ v, RV c f h.n H pu v → Q v H
def rSlP (c : Rc) : V → Option Int → Option Int → Hp → VK → Prop := fun x lo hi H Q => ∃ f h pv, Rel c f h H ∧ RV c f h.n H pv x ∧ Post c f h.n H (slP pv lo hi h) (VQ c Q)
def rSetP (c : Rc) : TSet := fun o i v H Q => ∃ f h po pi pv h', Rel c f h H ∧ RV c f h.n H po o ∧ RV c f h.n H pi i ∧ RV c f h.n H pv v ∧ setP po pi pv h = some h' ∧ (∀ H', Rel c f h' H' → Ext f h.n H f h'.n H' → Q H')
def rMt (c : Rc) (m : Mt) : V → List V → Hp → VK → Prop := fun x vs H Q => ∃ f h pv ps, Rel c f h H ∧ RV c f h.n H pv x ∧ RVs c f h.n H ps vs ∧ Post c f h.n H (mtP m pv ps h) (VQ c Q)
theorem two64 : (2 : Int) ^ 64 = 18446744073709551616 := by decide
theorem wide_is {i : Int} (h : wide i = true) : -(2 ^ 64) < i ∧ i < 2 ^ 64 := by
  unfold wide at h
  rw [Bool.and_eq_true] at h
  rw [two64]
  exact ⟨of_decide_eq_true h.1, of_decide_eq_true h.2⟩
section
variable {X : Cx} {c : Rc}
theorem op_bin (hK : X.K = c.K) (op : Bop) : OpR X (binaryOp (opB op)) (rBin c op) := by
  intro pins s σ H x y v u Q I rx ry ⟨f, h, pv, pw, r, r1, r2, p⟩
  unfold binP at p
  split at p
  · cases r1; cases r2
    exact op_add pins s σ H _ _ v u Q I rx ry ⟨_, _, rfl, rfl, p _ _ .refl r _ (.int _)⟩
  · cases r1; cases r2
    exact op_sub pins s σ H _ _ v u Q I rx ry ⟨_, _, rfl, rfl, p _ _ .refl r _ (.int _)⟩
  · cases r1; cases r2
    split at p
    · rename_i e
      rw [Bool.or_eq_true] at e
      refine op_mul pins s σ H _ _ v u Q I rx ry ⟨_, _, rfl, rfl, ?_, p _ _ .refl r _ (.int _)⟩
      rcases e with e | e
      · exact .inl (wide_is e)
      · exact .inr (wide_is e)
    · exact p.elim
  · cases r1; cases r2
    split at p
    · rename_i e
      rw [Bool.and_eq_true] at e
      exact op_fdiv pins s σ H _ _ v u Q I rx ry ⟨_, _, rfl, rfl, ⟨of_decide_eq_true e.1, of_decide_eq_true e.2⟩, p _ _ .refl r _ (.int _)⟩
    · exact p.elim
  · cases r1; cases r2
    split at p
    · rename_i e
      exact op_mod pins s σ H _ _ v u Q I rx ry ⟨_, _, rfl, rfl, of_decide_eq_true e, p _ _ .refl r _ (.int _)⟩
    · exact p.elim
  · cases r1; cases r2
    split at p
    · rename_i e
      simp only [Bool.and_eq_true, decide_eq_true_eq] at e
      exact op_pow pins s σ H _ _ v u Q I rx ry ⟨_, _, rfl, rfl, ⟨e.1.1, e.1.2, Nat.lt_of_lt_of_le (Nat.le_of_ble_eq_true e.2) (by decide)⟩, p _ _ .refl r _ (.int _)⟩
    · exact p.elim
  · cases r1 with
    | tup a1 a2 =>
      cases r2 with
      | tup b1 b2 =>
        obtain ⟨z, k1, k2⟩ := okT_at r (a2.app b2) p
        rw [List.length_append] at z
        refine op_catA pins s σ H _ _ v u Q I rx ry ⟨_, _, _, _, rfl, rfl, SqT.of a1, SqT.of b1, Nat.le_of_lt z, fun e => ?_, fun _ e => ?_, fun _ _ q hq => k1 q hq⟩
        · subst e; exact k2 _ b1
        · subst e; rw [List.append_nil] at k2; exact k2 _ a1
  · split at p
    · rename_i e1 e2
      obtain ⟨vs, rfl, _, h1, rv1⟩ := lstAt_at r r1 e1
      obtain ⟨ws, rfl, _, h2, rv2⟩ := lstAt_at r r2 e2
      obtain ⟨z, k⟩ := okL_at r (rv1.app rv2) p
      rw [List.length_append] at z
      exact op_cat pins s σ H _ _ v u Q I rx ry ⟨_, _, _, _, rfl, rfl, h1, h2, Nat.le_of_lt z, k⟩
    · exact p.elim
  · split at p
    · rename_i e
      have e := of_decide_eq_true e
      subst e
      cases r1 with
      | tup a1 a2 =>
        cases r2
        exact op_rep1 pins s σ H _ _ v u Q I rx ry ⟨_, _, rfl, rfl, SqT.of a1, p _ _ .refl r _ (.tup a1 a2)⟩
    split at p
    · rename_i e
      simp only [Bool.and_eq_true, decide_eq_true_eq, Bool.not_eq_true', List.isEmpty_eq_false_iff] at e
      cases r1 with
      | tup a1 a2 =>
        cases r2
        obtain ⟨z, k1, k2⟩ := okT_at r (a2.rep _) p
        have hn : ∀ {ys : List PV} {ws : List V}, RVs c f h.n H ys ws → ys ≠ [] → ws ≠ [] := fun rr hne hz => by
          subst hz
          cases rr
          exact hne rfl
        exact op_repT pins s σ H _ _ v u Q I rx ry ⟨_, _, _, rfl, rfl, SqT.of a1, hn a2 e.2, e.1.1.1, e.1.1.2, by rw [← a2.length]; exact Nat.le_of_ble_eq_true e.1.2, k1⟩
    · exact p.elim
  · split at p
    · rename_i e1 e2
      simp only [Bool.and_eq_true, decide_eq_true_eq] at e2
      split at p
      · rename_i e3
        obtain ⟨vs, rfl, _, h1, rv1⟩ := lstAt_at r r1 e1
        cases r2
        obtain ⟨z, k⟩ := okL_at r (rv1.rep _) p
        have l3 := Nat.le_of_ble_eq_true e3
        rw [rv1.length] at l3
        have l4 : ∀ j : Int, j ≤ 1000 → vs.length * j.toNat ≤ 1000 * 1000 := fun j hj => Nat.mul_le_mul l3 (by omega)
        have l5 : 1000 * 1000 ≤ sizeLine := by rw [sizeLine_eq]; decide
        have l6 : ∀ j : Int, 0 ≤ j → -(2 ^ 63) ≤ j := fun j hj => by omega
        have l7 : ∀ j : Int, j ≤ 1000 → j < 2 ^ 63 := fun j hj => by omega
        exact op_rep pins s σ H _ _ v u Q I rx ry ⟨_, _, _, rfl, rfl, h1, l6 _ e2.1, l7 _ e2.2, Nat.le_trans (l4 _ e2.2) l5, k⟩
      · exact p.elim
    · exact p.elim
  · exact p.elim
theorem toDs_at {f : Nat → Addr} {n : Nat} {H : Hp} {g : PV → Option PyData} (k : ∀ x v d, RV c f n H x v → g x = some d → Dp c.K H v d) : ∀ {xs : List PV} {vs : List V} {ds : List PyData}, RVs c f n H xs vs → toDs g xs = some ds → DpAll c.K H vs ds
  | [], [], ds, .nil, e => by cases e; exact .nil
  | x :: xs, v :: vs, ds, .cons r t, e => by
    unfold toDs at e
    split at e
    · cases e
    · rename_i d q
      split at e
      · cases e
      · rename_i ds' q'
        cases e
        exact .cons (k x v d r q) (toDs_at k t q')
theorem toD_at {f : Nat → Addr} {h : PH} {H : Hp} (r : Rel c f h H) : ∀ (n : Nat) (x : PV) (v : V) (d : PyData), RV c f h.n H x v → toD n h x = some d → Dp c.K H v d
  | 0, x, v, d, rv, e => by cases e
  | n + 1, x, v, d, rv, e => by
    unfold toD at e
    split at e
    · cases e; cases rv; exact .non
    · cases e; cases rv; exact .bl _
    · cases e; cases rv; exact .int _
    · cases e; cases rv; exact .str _
    · split at e
      · rename_i ds q
        cases e
        cases rv with
        | tup h1 h2 => exact .tup (SqT.of h1) (toDs_at (toD_at r n) h2 q)
      · cases e
    · rename_i i
      cases rv with
      | ref hi =>
        split at e
        · rename_i xs q
          split at e
          · rename_i ds qd
            cases e
            cases r.obj _ _ q with
            | lst h1 h2 => exact .lst (SqL.of h1) (toDs_at (toD_at r n) h2 qd)
          · cases e
        · rename_i xs q
          split at e
          · rename_i ds qd
            cases e
            cases r.obj _ _ q with
            | fz h1 h2 => exact .lst h1.seq (toDs_at (toD_at r n) h2 qd)
          · cases e
        · cases e
    · cases e
theorem toDat_at {f : Nat → Addr} {h : PH} {H : Hp} (r : Rel c f h H) {x : PV} {v : V} {d : PyData} (rv : RV c f h.n H x v) (e : toDat h x = some d) : Dp c.K H v d ∧ SeqAt.shaped d = true := by
  unfold toDat at e
  split at e
  · rename_i d' q
    split at e
    · rename_i s
      cases e
      exact ⟨toD_at r _ _ _ _ rv q, s⟩
    · cases e
  · cases e
theorem eqP_at {f : Nat → Addr} {h : PH} {H : Hp} (r : Rel c f h H) {x y : PV} {v w : V} {k : Bool} (r1 : RV c f h.n H x v) (r2 : RV c f h.n H y w) (e : eqP h x y = some k) :
    ∃ d e', Dp c.K H v d ∧ Dp c.K H w e' ∧ SeqAt.shaped d = true ∧ SeqAt.shaped e' = true ∧ k = PyData.eqv d e' := by
  unfold eqP at e
  split at e
  · rename_i d q1
    split at e
    · rename_i d' q2
      cases e
      obtain ⟨a1, a2⟩ := toDat_at r r1 q1
      obtain ⟨b1, b2⟩ := toDat_at r r2 q2
      exact ⟨d, d', a1, b1, a2, b2, rfl⟩
    · cases e
  · cases e
theorem int2_at {g : Int → Int → Bool} {x y : PV} {k : Bool} (e : int2 g x y = some k) : ∃ i j, x = .int i ∧ y = .int j ∧ k = g i j := by
  unfold int2 at e
  split at e
  · cases e
    exact ⟨_, _, rfl, rfl, rfl⟩
  · cases e
theorem isP_at {f : Nat → Addr} {n : Nat} {H : Hp} {x y : PV} {v w : V} {k : Bool} (r : RV c f n H x v) (r' : RV c f n H y w) (e : isP x y = some k) : (w = .non ∧ k = decide (v = .non)) ∨ ∃ a b : Bool, v = .bl a ∧ w = .bl b ∧ k = decide (a = b) := by
  unfold isP at e
  split at e
  · cases r'
    refine .inl ⟨rfl, ?_⟩
    cases r <;> cases e <;> rfl
  · split at e
    · cases r'
      cases r
      cases e
      exact .inr ⟨_, _, rfl, rfl, rfl⟩
    · cases e
  · cases e
theorem negO_at {o : Option Bool} {k : Bool} (e : negO o = some k) : ∃ j, o = some j ∧ k = !j := by
  cases o with
  | none => cases e
  | some j => cases e; exact ⟨j, rfl, rfl⟩
theorem op_cmp (hK : X.K = c.K) (hu : X.A.units + 65 < cLine) (op : Cop) : OpR X (compareOp (opC op)) (rCmp c op) := by
  intro pins s σ H x y v u Q I rx ry ⟨f, h, pv, pw, k, r, r1, r2, p, q⟩
  cases op with
  | eq =>
    obtain ⟨d, e, a1, a2, a3, a4, rfl⟩ := eqP_at r r1 r2 p
    rw [← hK] at a1 a2
    exact op_eqD (by omega) pins s σ H _ _ v u Q I rx ry ⟨d, e, a1, a2, a3, a4, q⟩
  | ne =>
    obtain ⟨j, p', rfl⟩ := negO_at p
    obtain ⟨d, e, a1, a2, a3, a4, rfl⟩ := eqP_at r r1 r2 p'
    rw [← hK] at a1 a2
    exact op_neD (by omega) pins s σ H _ _ v u Q I rx ry ⟨d, e, a1, a2, a3, a4, q⟩
  | lt =>
    obtain ⟨i, j, rfl, rfl, rfl⟩ := int2_at p
    cases r1; cases r2
    exact op_lt pins s σ H _ _ v u Q I rx ry ⟨_, _, rfl, rfl, q⟩
  | le =>
    obtain ⟨i, j, rfl, rfl, rfl⟩ := int2_at p
    cases r1; cases r2
    exact op_le pins s σ H _ _ v u Q I rx ry ⟨_, _, rfl, rfl, q⟩
  | gt =>
    obtain ⟨i, j, rfl, rfl, rfl⟩ := int2_at p
    cases r1; cases r2
    exact op_gt pins s σ H _ _ v u Q I rx ry ⟨_, _, rfl, rfl, q⟩
  | ge =>
    obtain ⟨i, j, rfl, rfl, rfl⟩ := int2_at p
    cases r1; cases r2
    exact op_ge pins s σ H _ _ v u Q I rx ry ⟨_, _, rfl, rfl, q⟩
  | is =>
    rcases isP_at r1 r2 p with ⟨e1, rfl⟩ | ⟨a, b, e1, e2, rfl⟩
    · exact op_isN pins s σ H _ _ v u Q I rx ry ⟨e1, q⟩
    · exact op_isBl pins s σ H _ _ v u Q I rx ry ⟨a, b, e1, e2, q⟩
  | nis =>
    obtain ⟨j, p', rfl⟩ := negO_at p
    rcases isP_at r1 r2 p' with ⟨e1, rfl⟩ | ⟨a, b, e1, e2, rfl⟩
    · exact op_notN pins s σ H _ _ v u Q I rx ry ⟨e1, q⟩
    · exact op_notBl pins s σ H _ _ v u Q I rx ry ⟨a, b, e1, e2, q⟩
theorem flat_at {f : Nat → Addr} {n : Nat} {H : Hp} {x : PV} {v : V} (r : RV c f n H x v) (e : flatP x = true) : flatV v = true := by
  cases r <;> first | rfl | cases e
theorem flats_at {f : Nat → Addr} {n : Nat} {H : Hp} : ∀ {xs : List PV} {vs : List V}, RVs c f n H xs vs → xs.all flatP = true → vs.all flatV = true
  | [], [], .nil, _ => rfl
  | x :: xs, v :: vs, .cons r t, e => by
    rw [List.all_cons, Bool.and_eq_true] at e
    rw [List.all_cons, Bool.and_eq_true]
    exact ⟨flat_at r e.1, flats_at t e.2⟩
theorem eqF_at {f : Nat → Addr} {n : Nat} {H : Hp} {x y : PV} {v w : V} (r : RV c f n H x v) (r' : RV c f n H y w) (e : flatP x = true) (e' : flatP y = true) : eqF x y = eqV v w := by
  cases r <;> cases r' <;> first | rfl | (cases e; done) | (cases e'; done)
theorem in_at {f : Nat → Addr} {n : Nat} {H : Hp} {x : PV} {v : V} (r : RV c f n H x v) (e : flatP x = true) : ∀ {xs : List PV} {vs : List V}, RVs c f n H xs vs → xs.all flatP = true → (xs.any fun y => eqF y x) = inV v vs
  | [], [], .nil, _ => rfl
  | y :: xs, w :: vs, .cons r' t, e' => by
    rw [List.all_cons, Bool.and_eq_true] at e'
    unfold inV
    rw [List.any_cons, List.any_cons, eqF_at r' r e'.1 e, in_at r e t e'.2]
    rfl
/-! ### dicts -/
theorem keyT_at {f : Nat → Addr} {h : PH} {H : Hp} {x : PV} {v : V} {is : List Int} (rv : RV c f h.n H x v) (e : keyT x = some is) : ∃ b, v = .ref b ∧ H b = some (.tup ((kT is).map kV)) := by
  cases x with
  | tup xs =>
    cases rv with
    | tup h1 h2 =>
      obtain ⟨e1, _⟩ := intsP_vals h2 e
      refine ⟨_, rfl, ?_⟩
      rw [h1, e1]
      unfold kT
      rw [List.map_map]
      rfl
  | _ => cases e
/-- a look-up -/
theorem dLook_at {f : Nat → Addr} {h : PH} {H : Hp} (r : Rel c f h H) {x y : PV} {v w : V} {o : Option PV} (r1 : RV c f h.n H x v) (r2 : RV c f h.n H y w) (e : dLook x y h = some o) :
    ∃ a u, v = .ref a ∧ DGet H a w u ∧ ((o = none ∧ u = none) ∨ ∃ p q, o = some p ∧ u = some q ∧ RV c f h.n H p q) := by
  unfold dLook at e
  split at e
  · rename_i i
    cases r1 with
    | ref hi =>
      split at e
      · rename_i kvs g
        split at e
        · rename_i k
          cases e
          cases r2
          cases r.obj i _ g with
          | dK h1 h2 hn =>
            rename_i ws
            refine ⟨_, valV ws (kI k), rfl, .inl ⟨ws, kI k, .inl h1, rfl, rfl⟩, ?_⟩
            rcases h2.val kI_inj k with ⟨e1, e2⟩ | ⟨p, q, e1, e2, e3⟩
            · exact .inl ⟨e1, e2⟩
            · exact .inr ⟨p, q, e1, e2, e3⟩
        · cases e
      · rename_i kvs g
        split at e
        · rename_i k ek
          cases e
          obtain ⟨b, rfl, hb⟩ := keyT_at r2 ek
          cases r.obj i _ g with
          | dT h1 h2 hn =>
            rename_i ws
            refine ⟨_, valV ws (kT k), rfl, .inr ⟨ws, kT k, b, .inl h1, rfl, hb, rfl⟩, ?_⟩
            rcases h2.val kT_inj k with ⟨e1, e2⟩ | ⟨p, q, e1, e2, e3⟩
            · exact .inl ⟨e1, e2⟩
            · exact .inr ⟨p, q, e1, e2, e3⟩
        · cases e
      · cases e
  · cases e
theorem dGetP_at {f : Nat → Addr} {h : PH} {H : Hp} (r : Rel c f h H) {x y p : PV} {v w : V} (r1 : RV c f h.n H x v) (r2 : RV c f h.n H y w) (e : dGetP x y h = some p) : ∃ a q, v = .ref a ∧ DGet H a w (some q) ∧ RV c f h.n H p q := by
  unfold dGetP at e
  split at e
  · rename_i z e2
    cases e
    obtain ⟨a, u, e1, g, q⟩ := dLook_at r r1 r2 e2
    rcases q with ⟨z, _⟩ | ⟨p, q, z1, z2, z3⟩
    · cases z
    · cases z1
      subst z2
      exact ⟨a, q, e1, g, z3⟩
  · cases e
theorem dInP_at {f : Nat → Addr} {h : PH} {H : Hp} (r : Rel c f h H) {x y : PV} {v w : V} {k : Bool} (r1 : RV c f h.n H x v) (r2 : RV c f h.n H y w) (e : dInP x y h = some k) : ∃ a u, v = .ref a ∧ DGet H a w u ∧ u.isSome = k := by
  unfold dInP at e
  split at e
  · rename_i z e2
    cases e
    obtain ⟨a, u, e1, g, q⟩ := dLook_at r r1 r2 e2
    refine ⟨a, u, e1, g, ?_⟩
    rcases q with ⟨z1, z2⟩ | ⟨p, q, z1, z2, z3⟩
    · rw [z1, z2]; rfl
    · rw [z1, z2]; rfl
  · cases e
theorem dPutP_at {f : Nat → Addr} {h h' : PH} {H : Hp} (r : Rel c f h H) {x y p : PV} {v w q : V} (r1 : RV c f h.n H x v) (r2 : RV c f h.n H y w) (r3 : RV c f h.n H p q) (e : dPutP x y p h = some h') : ∃ a H', v = .ref a ∧ DPut H a w q H' ∧ Rel c f h' H' ∧ Ext f h.n H f h'.n H' := by
  unfold dPutP at e
  split at e
  · rename_i i
    cases r1 with
    | ref hi =>
      split at e
      · rename_i kvs g
        split at e
        · rename_i k hz
          cases e
          cases r2
          cases r.obj i _ g with
          | dK h1 h2 h3 =>
            rename_i ws
            obtain ⟨r4, e4⟩ := r.writeK g (h2.put kI_inj k r3 h3) h3.put
            refine ⟨_, _, rfl, .inl ⟨ws, kI k, h1, rfl, ?_, rfl⟩, r4, e4⟩
            rw [← h2.length]
            exact Nat.lt_of_le_of_lt (Nat.le_of_ble_eq_true hz) line_big
        · cases e
      · rename_i kvs g
        split at e
        · rename_i k ek hz
          cases e
          obtain ⟨b, rfl, hb⟩ := keyT_at r2 ek
          cases r.obj i _ g with
          | dT h1 h2 h3 =>
            rename_i ws
            obtain ⟨r4, e4⟩ := r.writeT g (h2.put kT_inj k r3 h3) h3.put
            refine ⟨_, _, rfl, .inr ⟨ws, kT k, b, h1, rfl, hb, ?_, rfl⟩, r4, e4⟩
            rw [← h2.length]
            exact Nat.lt_of_le_of_lt (Nat.le_of_ble_eq_true hz) line_big
        · cases e
      · cases e
  · cases e
def rIxD : R2 := fun x y H Q => ∃ a v, x = .ref a ∧ DGet H a y (some v) ∧ Q v H
theorem ix_dict (hu : X.A.units + 1 < cLine) : IxR X rIxD := by
  intro value slice pins s σ H x y v u Q I rx ry ⟨a, w, e, g, q⟩ hs
  subst e
  obtain rfl : v = Value.ref a := rx
  have hT := dict_typeIs I g
  unfold subscriptTail
  refine wpAny_bind ?_
  rw [getitemInPython_of_ne hT.not_modules]
  refine wpAny_bind (wpAny_specialOf hT PySem.F.slot_dict_getitem.lookup ?_)
  have fin : wpAny (model X.prog X.w) X.A (subscripted slice false (.ref a) u) (fun r s₃ => wpAny (model X.prog X.w) X.A (letTemporaryGo value (.ref a) r >>= fun _ => pure r) (EP X pins σ Q) X.xe s₃) X.xe s := by
    rw [hs]
    exact wpAny_operating (wpAny_mono (d_getItem hu I g ry fun w' s3 I3 rw' => (show EP X pins σ Q w' s3 from ⟨w, H, I3, rw', q⟩)) (fun r s₃ h₃ => wpAny_bind (wpAny_letTemporaryGo (wpAny_pure h₃))) fun _ _ x => x)
  first
    | exact wpAny_pure (wpAny_bind fin)
    | exact wpAny_bind (wpAny_pure (wpAny_bind fin))
    | exact wpAny_bind fin
theorem op_inP (hK : X.K = c.K) (hu : X.A.units + 65 < cLine) (ng : Bool) : OpR X (compareOp (if ng then .NotIn else .In)) (rInP c ng) := by
  intro pins s σ H x y v u Q I rx ry ⟨f, h, pv, pw, k, r, r1, r2, p, q⟩
  unfold inP at p
  split at p
  · rename_i xs e
    split at p
    · rename_i e'
      cases p
      rw [Bool.and_eq_true] at e'
      obtain ⟨a, vs, rfl, hs, rv⟩ := seqOf_at r r2 e
      rw [in_at r1 e'.1 rv e'.2] at q
      rw [← hK] at hs
      cases ng with
      | false => exact op_in_seq pins s σ H _ _ v u Q I rx ry ⟨a, vs, rfl, hs, flat_at r1 e'.1, flats_at rv e'.2, q⟩
      | true => exact op_notIn_seq pins s σ H _ _ v u Q I rx ry ⟨a, vs, rfl, hs, flat_at r1 e'.1, flats_at rv e'.2, q⟩
    · unfold inD at p
      split at p
      · rename_i d q1
        split at p
        · rename_i ds q2
          cases p
          obtain ⟨a1, a2⟩ := toDat_at r r1 q1
          obtain ⟨b1, b2⟩ := toDat_at r r2 q2
          rw [← hK] at a1 b1
          cases ng with
          | false => exact op_inD hu pins s σ H _ _ v u Q I rx ry ⟨d, ds, a1, b1, a2, b2, q⟩
          | true => exact op_notInD hu pins s σ H _ _ v u Q I rx ry ⟨d, ds, a1, b1, a2, b2, q⟩
        · cases p
      · cases p
  · obtain ⟨a, u2, rfl, g, e⟩ := dInP_at r r2 r1 p
    cases (show u = Value.ref a from ry)
    subst e
    cases ng with
    | false => exact d_in (by omega) I g rx fun s' I' => ⟨.bl _, H, I', rfl, q⟩
    | true => exact d_notIn (by omega) I g rx fun s' I' => ⟨.bl _, H, I', rfl, q⟩
theorem isEmpty_at {f : Nat → Addr} {n : Nat} {H : Hp} {xs : List PV} {vs : List V} (r : RVs c f n H xs vs) : xs.isEmpty = vs.isEmpty := by
  cases r <;> rfl
theorem tru_at (hK : X.K = c.K) : TruR X (rTru c) := by
  intro pins s σ H x v Q I rx ⟨f, h, pv, k, r, r1, p, q⟩
  refine tru_ok pins s σ H x v Q I rx ⟨k, ?_, q⟩
  unfold truth at p
  split at p
  · cases p; cases r1; rfl
  · cases p; cases r1; rfl
  · cases p; cases r1; rfl
  · cases p
    cases r1 with
    | tup h1 h2 => exact .inr (.inl ⟨_, SqT.of h1, by rw [isEmpty_at h2]⟩)
  · rename_i i
    split at p
    · rename_i xs e
      cases p
      obtain ⟨a, vs, rfl, hs, rv⟩ := seqL_at r r1 (show seqL (.ref i) h = some xs by unfold seqL; simp only [e])
      rw [← hK] at hs
      exact .inl ⟨vs, hs, by rw [isEmpty_at rv]⟩
    · rename_i xs e
      cases p
      obtain ⟨a, vs, rfl, hs, rv⟩ := seqL_at r r1 (show seqL (.ref i) h = some xs by unfold seqL; simp only [e])
      rw [← hK] at hs
      exact .inl ⟨vs, hs, by rw [isEmpty_at rv]⟩
    · cases p
  · cases p
theorem atI_at {f : Nat → Addr} {n : Nat} {H : Hp} {xs : List PV} {vs : List V} (r : RVs c f n H xs vs) {i : Int} {x : PV} (e : atI xs i = some x) : ∃ v, atI vs i = some v ∧ RV c f n H x v := by
  unfold atI at e ⊢
  rw [r.length] at e
  cases z : ixN vs.length i with
  | none => rw [z] at e; cases e
  | some j =>
    rw [z] at e
    exact r.get j x e
theorem ix_at (hK : X.K = c.K) (hu : X.A.units + 65 < cLine) : IxR X (rIxP c) := by
  intro value slice pins s σ H x y v u Q I rx ry ⟨f, h, pv, pw, pu, r, r1, r2, p, q⟩ hs
  have dict : dGetP pv pw h = some pu → wpAny (model X.prog X.w) X.A (subscriptTail value slice v u) (EP X pins σ Q) X.xe s := fun p => by
    obtain ⟨a, w, e, g, r3⟩ := dGetP_at r r1 r2 p
    exact ix_dict (by omega) value slice pins s σ H x y v u Q I rx ry ⟨a, w, e, g, q w r3⟩ hs
  unfold ixP at p
  split at p
  · rename_i i
    split at p
    · rename_i xs e
      cases r2
      refine ix_seq value slice pins s σ H x _ v u Q I rx ry ?_ hs
      obtain ⟨a, vs, rfl, hs, rv⟩ := seqOf_at r r1 e
      obtain ⟨w, e1, r3⟩ := atI_at rv p
      rw [← hK] at hs
      rcases hs with hs | hs
      · exact .inl ⟨a, vs, i, w, rfl, rfl, hs, e1, q w r3⟩
      · exact .inr (.inl ⟨a, vs, i, w, rfl, rfl, hs, e1, q w r3⟩)
    · exact dict p
  · exact dict p
theorem sl_at (hK : X.K = c.K) : SlR X (rSlP c) := by
  intro pins s σ H x v vl vu lo hi sl Q I rx hs pl pu ⟨f, h, pv, r, r1, p⟩
  unfold slP at p
  split at p
  · cases r1 with
    | tup h1 h2 =>
      obtain ⟨z, k1, k2⟩ := okT_at r (h2.cut lo hi) p
      refine sl_tupA pins s σ H _ v vl vu lo hi sl Q I rx hs pl pu ⟨_, _, rfl, SqT.of h1, fun e => ?_, fun _ => k1⟩
      refine k2 _ ?_
      rw [h1]
      unfold cutV
      rw [e.1, e.2, List.drop_zero, Nat.sub_zero, List.take_length]
  · split at p
    · rename_i i xs e
      obtain ⟨a, vs, rfl, hq, rv⟩ := seqL_at r r1 e
      rw [← hK] at hq
      obtain ⟨z, k⟩ := okL_at r (rv.cut lo hi) p
      exact sl_list pins s σ H _ v vl vu lo hi sl Q I rx hs pl pu ⟨a, vs, rfl, hq, k⟩
    · exact p.elim
  · exact p.elim
theorem set_at (hu : X.A.units + 65 < cLine) : PSet X (rSetP c) := by
  intro pins s σ H o i v ov iv u Q I ro ri rv ⟨f, h, po, pi, pv, h', r, r1, r2, r3, p, q⟩
  unfold setP at p
  split at p
  · rename_i k a xs e
    split at p
    · rename_i j ej
      cases p
      obtain ⟨vs, rfl, hg, h1, rs⟩ := lstAt_at r r1 e
      cases r2
      obtain ⟨r4, e4⟩ := r.write hg (rs.set j r3)
      exact set_list pins s σ H _ _ v ov iv u Q I ro ri rv ⟨f a, vs, k, j, rfl, rfl, h1, by rw [← rs.length]; exact ej, q _ r4 e4⟩
    · cases p
  · obtain ⟨a, H', rfl, g, r4, e4⟩ := dPutP_at r r1 r2 r3 p
    cases (show ov = Value.ref a from ro)
    exact d_setItem (by omega) I g ri rv fun s' I' => ⟨H', I', q _ r4 e4⟩
end
end Pyx

set_option Elab.async false
set_option linter.all false
set_option maxRecDepth 100000
set_option maxHeartbeats 4000000
/-! Pyx: sorted(list of tuples of ints), of any lengths. -/
namespace Pyx
open PySem PySem.Spec PyProof.Rows L2
/-- v is a tuple that holds these ints, one at least -/
def IsTI (h : Heap) (v : Value) (ns : List Int) : Prop := ∃ a o items n, v = .ref a ∧ h.get? a = some o ∧ o.cls = .type "tuple" ∧ o.data = .seq items n ∧ IntsAre items.toList ns ∧ ns ≠ []
theorem IsTI.keeps {h h' : Heap} {v : Value} {ns : List Int} (p : IsTI h v ns) (k : ∀ b o, h.get? b = some o → o.cls = .type "tuple" → h'.get? b = some o) : IsTI h' v ns := by
  obtain ⟨a, o, its, n, e, ho, hc, hd, r⟩ := p
  exact ⟨a, o, its, n, e, k _ _ ho hc, hc, hd, r⟩
theorem firstsTI {h : Heap} {k : Value → List Int} : ∀ {vs : List Value}, (∀ v ∈ vs, IsTI h v (k v)) → ∃ fs : List Value, PySem.W.KatTups h vs fs ∧ fs.length = vs.length ∧ ∀ f ∈ fs, ∃ x t, f = Value.int x t
  | [], _ => ⟨[], PySem.W.KatTups.nil, rfl, fun f hf => absurd hf (by simp)⟩
  | v :: vs, hp => by
    obtain ⟨fs, h1, h2, h3⟩ := firstsTI (vs := vs) fun u hu => hp u (List.mem_cons_of_mem _ hu)
    obtain ⟨a, o, its, n, rfl, ho, hc, hd, hi, hn⟩ := hp v List.mem_cons_self
    obtain ⟨y, ys, e⟩ : ∃ y ys, its.toList = y :: ys := by
      cases q : its.toList with
      | nil =>
        rw [q] at hi
        have l := hi.length
        exact absurd (List.eq_nil_of_length_eq_zero l.symm) hn
      | cons y ys => exact ⟨y, ys, rfl⟩
    obtain ⟨m, t, hy⟩ := hi.all y (by rw [e]; exact List.mem_cons_self)
    refine ⟨y :: fs, PySem.W.KatTups.cons ho hc hd ?_ h1, by rw [List.length_cons, List.length_cons, h2], ?_⟩
    · rw [← Array.getElem?_toList, e, List.getElem?_cons_zero]
    · intro f hf
      rcases List.mem_cons.mp hf with e2 | hf
      · exact ⟨m, t, e2.trans hy⟩
      · exact h3 f hf
section
variable {prog : Program} {w : World} {A : Around} {E : Value → Shared → Prop} {s : Shared} {Q : Bool → Shared → Prop}
theorem lexTI : ∀ {xs ys : List Value} {ns ms : List Int} (i : Nat) {b fin : Bool}, IntsAre xs ns → IntsAre ys ms → fin = decide (xs.length < ys.length) → Q (HT.lexLt ns ms) s → PySem.W.KatLex prog w A b fin Q (xs.zip ys) i s
  | _, _, _, _, i, b, fin, .nil, .nil, hf, h => by
    rw [HT.lexLt_nil_nil] at h
    subst hf
    exact PySem.W.kat_nil h
  | _, _, _, _, i, b, fin, .nil, .cons m u r, hf, h => by
    rw [HT.lexLt_nil_cons] at h
    have e : fin = true := by rw [hf]; exact decide_eq_true (Nat.succ_pos _)
    subst e
    exact PySem.W.kat_nil h
  | _, _, _, _, i, b, fin, .cons n t r, .nil, hf, h => by
    rw [HT.lexLt_cons_nil] at h
    have e : fin = false := by rw [hf]; exact decide_eq_false (Nat.not_lt_zero _)
    subst e
    exact PySem.W.kat_nil h
  | _, _, _, _, i, b, fin, .cons (vs := xs) (ns := ns) n t r, .cons (vs := ys) (ns := ms) m u r', hf, h => by
    have hf' : fin = decide (xs.length < ys.length) := by
      rw [hf]
      simp only [List.length_cons, Nat.add_lt_add_iff_right]
    rw [HT.lexLt_cons] at h
    show PySem.W.KatLex prog w A b fin Q ((Value.int n t, Value.int m u) :: xs.zip ys) i s
    refine PySem.W.kat_cons (wpAny_eqBool_int ?_)
    by_cases e : n = m
    · rw [if_pos e] at h
      subst e
      rw [beq_self_eq_true]
      exact PySem.W.kat_yes (lexTI (i + 1) r r' hf' h)
    · rw [if_neg e] at h
      rw [show (n == m) = false from beq_eq_false_iff_ne.mpr e]
      exact PySem.W.kat_no (TS.oneLt_ints _ h)
theorem cmpTI {vs : List Value} {k : Value → List Int} (hp : ∀ v ∈ vs, IsTI s.heap v (k v)) : SrtO.Cmp prog w A s (tuples' true) (fun p => p.1 ∈ vs) (SrtO.lt2 fun v u => HT.lexLt (k v) (k u)) := by
  intro p q hm hm'
  have h1 := hp _ hm
  have h2 := hp _ hm'
  show wpAny (model prog w) A (keyLt' (tuples' true) p.1 q.1) (fun r s' => s' = s ∧ r = HT.lexLt (k p.1) (k q.1)) (fun _ _ => False) s
  generalize k p.1 = ns at h1 ⊢
  generalize k q.1 = ms at h2 ⊢
  obtain ⟨a, o, its, n, e, ho, hc, hd, hi, _⟩ := h1
  obtain ⟨a', o', its', n', e', ho', hc', hd', hi', _⟩ := h2
  rw [e, e']
  refine PySem.W.kat_lt ho hd ho' hd' ?_
  exact lexTI (Q := fun r s' => s' = s ∧ r = HT.lexLt ns ms) 0 hi hi' (by rw [Array.length_toList, Array.length_toList]) ⟨rfl, rfl⟩
theorem sortableTI {a : Addr} {vs : List Value} {k : Value → List Int} (h0 : 0 < vs.length) (hp : ∀ v ∈ vs, IsTI s.heap v (k v)) (ha : ∀ o, s.heap.get? a = some o → o.cls ≠ .type "tuple") : SrtO.SortableO prog w A s a vs fun v u => HT.lexLt (k v) (k u) := by
  intro h' keep
  have hp' : ∀ v ∈ vs, IsTI h' v (k v) := fun v hm => (hp v hm).keeps fun b o e c => keep b o (fun z => by subst z; exact ha o e c) e
  obtain ⟨fs, h1, h2, h3⟩ := firstsTI hp'
  refine ⟨tuples' true, fun Q E hq => ?_, cmpTI hp'⟩
  refine PySem.W.kat_kind (T := .type "int") h1 (by omega) (fun f hm => ?_) (by rfl) ?_
  · obtain ⟨x, t, rfl⟩ := h3 f hm
    exact PySem.W.Looks.now
  · have e : (Value.type "int" != Value.type "tuple") = true := by first | decide +kernel | rfl | decide
    rw [e]
    exact hq
theorem sortedTI {l : Addr} {vs : List Value} {k : Value → List Int} {Q : Value → Shared → Prop} (hl : s.heap.IsList l vs.toArray) (hz : vs.length ≤ sizeLine) (hp : ∀ v ∈ vs, IsTI s.heap v (k v))
    (h : ∀ (h' : Heap) (d : Addr) (out : List Value), SrtO.Srtd (fun v u => HT.lexLt (k v) (k u)) out → out.Perm vs → (∀ b o, s.heap.get? b = some o → h'.get? b = some o) → s.heap.objs.size ≤ d → (∃ n, h'.get? d = some (seqObj "list" out.toArray n)) → Q (.ref d) { s with heap := h' }) :
    wpAny (model prog w) A (call (.builtin "sorted") [.ref l]) Q E s := by
  refine SrtO.sorted_ord (NtL.swo_lexL k) hl hz (fun h2 h₁ a ha kk => ?_) fun out hs hb => ?_
  · refine sortableTI (s := { s with heap := h₁ }) (by omega) (fun v hm => (hp v hm).keeps fun b o e _ => (kk b o e).2) fun o e => ?_
    have e' : some o = some (seqObj "list" vs.toArray 0) := e.symm.trans ha
    cases e'
    intro c
    exact absurd (Value.type.inj c) (by decide)
  · exact h _ _ out hs hb.perm (fun b o e => sortedAll_old e) (Nat.le_succ _) (sortedAll_at s.heap vs out.toArray)
end
/-- sorted(xs), xs a list of tuples of ints (k says which) -/
def rSortedTI (K : PySem.W.Frag) : List V → Hp → VK → Prop := fun vs H Q => ∃ (a : Addr) (xs : List V) (k : V → List Int), vs = [V.ref a] ∧ SqL K H a xs ∧ (∀ x ∈ xs, ∃ t, x = V.ref t ∧ H t = some (.tup ((k x).map V.int)) ∧ k x ≠ []) ∧
  ∀ ys p, ys.Pairwise (fun x y => HT.lexLt (k y) (k x) = false) → ys.Perm xs → H p = none → Q (.ref p) (upd H p (.lst ys))
section
variable {X : Cx}
theorem cr_sortedTI : CallR X (.builtin "sorted") (rSortedTI X.K) := by
  intro pins s σ H vs us Q I r h
  obtain ⟨a, xs, k, rfl, hs, hx, q⟩ := h
  obtain ⟨its, rv, hl, hz⟩ := I.list hs
  obtain ⟨u, rfl, ru⟩ := vals1 r
  obtain rfl : u = Value.ref a := ru
  obtain ⟨e1, e2⟩ := refs_back rv fun x m => by
    obtain ⟨t, e, _⟩ := hx x m
    exact ⟨t, e⟩
  refine sortedTI (k := fun u => k (backV u)) hl.isList (by rw [← rv.length]; exact hz) (fun v hv => ?_) fun h' d out h1 h2 kp hd hn => ?_
  · obtain ⟨t, rfl⟩ := e2 v hv
    have hm : V.ref t ∈ xs := by rw [e1]; exact List.mem_map.mpr ⟨_, hv, rfl⟩
    obtain ⟨t', e, ht, hne⟩ := hx _ hm
    cases e
    obtain ⟨_, its2, r2, o, ho, hc, n, hd⟩ := I.hok _ _ ht
    exact ⟨t, o, _, n, rfl, ho, hc, hd, r2.ints, hne⟩
  · have h3 : ∀ u ∈ out, ∃ a, u = Value.ref a := fun u hu => e2 u (h2.mem_iff.mp hu)
    obtain ⟨n, hn⟩ := hn
    have hb : (out.map backV).Perm xs := by
      rw [e1]
      exact h2.map backV
    refine ⟨.ref d, upd H d (.lst (out.map backV)), I.laid (t' := s.toks) kp hd ⟨?_, out, n, vals_back h3, hn⟩, rfl, q _ d (List.pairwise_map.mpr h1) hb (I.hok.fresh hd)⟩
    rw [hb.length_eq]
    exact hz
end
end Pyx

set_option Elab.async false
set_option linter.all false
set_option maxRecDepth 100000
set_option maxHeartbeats 4000000
/-! Pyx: set(list of ints), at the library's level. -/
namespace Pyx
open PySem PySem.Spec PyProof.Rows L2
/-- the empty set as it is made -/
abbrev setN (w : World) : Obj := { cls := .type "set", dict := none, data := .set #[] 0 (.fresh 0 0 (!w.params.followText "set-order")) }
section
variable {P : Program} {w : World} {A : Around} {E : Value → Shared → Prop} {s : Shared}
theorem call_set_lstI {l : Addr} {items : Array Value} (ns : List Int) {Q : Value → Shared → Prop} (hh : A.handled = none) (hl : s.heap.IsList l items) (hit : IntsAre items.toList ns) (hb : ns.length + 1 < scanBound)
    (h : ∀ (h' : Heap) (tk n : Nat), SetR w h' s.heap.objs.size (fun j => decide (j ∈ ns)) n → n ≤ ns.length → (∀ b o, s.heap.get? b = some o → h'.get? b = some o) → Q (.ref s.heap.objs.size) { s with heap := h', toks := tk }) : wpAny (model P w) A (call (.type "set") [.ref l]) Q E s := by
  have z0 : items.size = ns.length := by
    have q := IntsAre.length hit
    rw [← q, Array.length_toList]
  have m0 := F.called_set.mro
  obtain ⟨c0, r0, m1⟩ := m0
  have m2 := F.called_set.made
  have m3 := F.called_set.sub
  have m4 := F.called_set.notType
  have m5 := F.called_set.canCreate
  have m6 := F.typeCall_set_1 (.ref l)
  have nS : (s.heap.push (setN w)).get? s.heap.objs.size = some (setN w) := Heap.get?_push_size _ rfl
  have nT : Shared.TypeIs { s with heap := s.heap.push (setN w) } (.ref s.heap.objs.size) "set" := ⟨_, nS, rfl⟩
  have zI : (s.heap.push (setN w)).objs.size = s.heap.objs.size + 1 := Heap.size_push ..
  -- what stands behind __init__
  let R2 : Value → Shared → Prop := fun r t => r = .none ∧ ∃ (h' : Heap) (tk n : Nat), t = { s with heap := h', toks := tk } ∧ SetR w h' s.heap.objs.size (fun j => decide (j ∈ ns)) n ∧ n ≤ ns.length ∧ ∀ b o, s.heap.get? b = some o → h'.get? b = some o
  have body : ∀ A2 : Around, A2.handled = none → codeAny (model P w) A2 (.call (.builtin "set.__init__") ⟨[.ref s.heap.objs.size, .ref l], []⟩) (wants R2 E) { s with heap := s.heap.push (setN w) } := fun A2 hh2 => by
    refine codeAny_call_builtin F.called_set.init.plain F.entry_set_init (check_set_init_1 nT ?_)
    obtain ⟨⟨xc, xd, xa, xs⟩, g1, g2, gn, g3⟩ := hl
    simp only at g2 g3; subst g2; subst g3
    have f1 := F.sub_list_set
    have f2 := F.sub_list_frozenset
    have f3 : (Value.type "list" == Value.type "dict") = false := by decide
    have g4 : (s.heap.push (setN w)).get? l = some { cls := .type "list", dict := xd, data := .seq items gn, slots := xs } := Heap.get?_push_of_some _ g1
    have g5 : (s.heap.push (setN w)).IsList l items := ⟨_, g4, rfl, gn, rfl⟩
    unfold Builtin.«set.__init__» noKeywords Builtin.Frozenset.updateFrom; generalize hp : pyIter = PI; wp_walk; subst hp
    refine wpAny_pyIter_list g5 (wpAny_bind (wpAny_runValue ?_))
    have k1 : l < s.heap.objs.size := Heap.lt_size g1
    have k2 : l ≠ (s.heap.push (setN w)).objs.size := by rw [zI]; exact Nat.ne_of_lt (Nat.lt_succ_of_lt k1)
    have k3 : s.heap.objs.size ∉ [(s.heap.push (setN w)).objs.size, l] := by
      rw [zI]; intro q
      rcases List.mem_cons.mp q with q | q
      · exact absurd q (Nat.ne_of_lt (Nat.lt_succ_self _))
      · exact absurd (List.mem_singleton.mp q) (Nat.ne_of_gt k1)
    have k4 : ∀ (i : Nat) (v : Value), items[i]? = some v → ∃ k t, ns[i]? = some k ∧ v = .int k t := fun i v hv => by
      have hi : i < ns.length := z0 ▸ (Array.getElem?_eq_some_iff.mp hv).1
      obtain ⟨t, e⟩ := PyProof.Rows.IntsAre.int_at hit i v (Array.getElem?_toList ▸ hv)
      rw [List.getD_eq_getElem?_getD, List.getElem?_eq_getElem hi] at e
      exact ⟨ns[i], t, List.getElem?_eq_getElem hi, e⟩
    have k5 : A2.in1.handled = none := by simp [hh2]
    refine set_update_ints ((Walks.list (by first | exact k5 | simp [hh2]) _ l k2 items).toS) s.heap.objs.size k3 ns z0 hb k4 (items.size - 0) 0 _ (by omega) (Nat.zero_le _) ⟨⟨_, Heap.get?_push_size _ rfl, rfl, rfl⟩, g5.push _⟩ ⟨0, Nat.le_refl 0, setR_new_at (Heap.get?_push_of_some _ nS)⟩ ?_
    rintro ⟨h', gg, dd, tk, oo⟩ n1 mv le1 st
    have e1 : gg = s.gens := mv.gens
    have e2 : dd = s.drawn := mv.drawn
    have e3 : oo = s.os := mv.os
    subst e1 e2 e3
    show wpAny _ _ _ _ _ _
    refine wpAny_pure (show wpAny _ _ (ret Value.none) _ _ _ from wpAny_pure ⟨rfl, h', tk, n1, rfl, st, z0 ▸ le1, fun b o q => ?_⟩)
    have b1 : b < s.heap.objs.size := Heap.lt_size q
    refine mv.heap b o (fun hm => ?_) (Heap.get?_push_of_some _ (Heap.get?_push_of_some _ q))
    rcases List.mem_cons.mp hm with z | z
    · exact absurd z (Nat.ne_of_lt b1)
    · have z := List.mem_singleton.mp z
      rw [zI] at z
      exact absurd z (Nat.ne_of_lt (Nat.lt_succ_of_lt b1))
  have i1 := F.called_set.init.lookup
  have i2 := F.called_set.init.bind (.ref s.heap.objs.size)
  refine wpAny_call (codeAny_of_tree (show wpAny _ _ (callAny (.type "set") _) _ _ _ from ?_))
  refine wpAny_pure ⟨Code.quiet_builtin _ (by decide +kernel), codeAny_builtin F.entry_type_call ?_⟩; rw [Around.under_plain (weight_type_call_type "set" [.ref l] []) rfl]
  repeat (any_goals (first | assumption | wp_step))
  refine codeAny_mono (code_set_led1 (.ref l) (E := E) (Q₁ := fun u t => u = .ref s.heap.objs.size ∧ t = { s with heap := s.heap.push (setN w) }) ⟨rfl, rfl⟩) fun r t hr => ?_
  rcases r with e | fl
  · exact hr
  · cases fl with
    | ret u =>
      obtain ⟨rfl, rfl⟩ := hr
      repeat (any_goals (first | assumption | wp_step))
      refine codeAny_mono (body _ (by simp [hh])) fun r' t' hr' => ?_
      rcases r' with e | fl'
      · exact hr'
      · cases fl' with
        | ret u' =>
          obtain ⟨rfl, h', tk, n1, rfl, q1, q2, q3⟩ := hr'
          repeat (any_goals (first | assumption | wp_step))
          exact h _ _ _ q1 q2 q3
        | _ => exact hr'.elim
    | _ => exact hr.elim
end
end Pyx

set_option Elab.async false
set_option linter.all false
set_option maxRecDepth 100000
set_option maxHeartbeats 4000000
/-! Pyx: sum, max, min, sorted of a tuple of ints, at the library's level and over the layer. -/
namespace PySem
open PyProof.Rows
section
variable {prog : Program} {w : World} {A : Around} {E : Value → Shared → Prop} {s : Shared} {l : Addr} {its : List Value} {ns : List Int} {xs : Array (Int × Tok)}
theorem iter_intTup {Q : Value → Shared → Prop} (hl : s.heap.IsTuple l (intItems xs))
    (h : ∀ s₂ : Shared, s₂ = { s with heap := s.heap.push { cls := .type "tuple_iterator", data := .fields #[.ref l, .int 0 0] } } →
      (s₂.heap.IsTupleIter s.heap.objs.size l 0 ∧ s₂.heap.IsTuple l (intItems xs)) → (∀ b ∈ [s.heap.objs.size, l], b < s₂.heap.objs.size) → l ≠ s.heap.objs.size → Q (.ref s.heap.objs.size) s₂) :
    wpAny (model prog w) A (pyIter (.ref l)) Q E s := by
  have hlt : l < s.heap.objs.size := by obtain ⟨_, e, _⟩ := hl; exact Heap.lt_size e
  refine wpAny_pyIter_tuple hl (h _ rfl ⟨⟨_, Heap.get?_push_size _ rfl, rfl, rfl⟩, hl.push _⟩ (fun b hb => ?_) (Nat.ne_of_lt hlt))
  show b < (s.heap.push _).objs.size
  rw [Heap.size_push]
  rcases List.mem_cons.mp hb with rfl | hb
  · exact Nat.lt_succ_self _
  · rcases List.mem_cons.mp hb with rfl | hb
    · exact Nat.lt_succ_of_lt hlt
    · cases hb
theorem old_keptT {h' : Heap} (hk : ∀ b o, b ∉ [s.heap.objs.size] → (s.heap.push { cls := .type "tuple_iterator", data := .fields #[.ref l, .int 0 0] }).get? b = some o → h'.get? b = some o) :
    ∀ b o, s.heap.get? b = some o → h'.get? b = some o := fun b o e => by
  refine hk b o (fun hm => ?_) (Heap.get?_push_of_some _ e)
  rcases List.mem_cons.mp hm with e1 | hm
  · exact absurd (Heap.lt_size e) (by rw [e1]; exact Nat.lt_irrefl _)
  · cases hm
theorem sum_tup {Q : Value → Shared → Prop} (hh : A.handled = none) (hl : s.heap.IsTuple l its.toArray) (hi : IntsAre its ns)
    (h : ∀ h' tk t', (∀ b o, s.heap.get? b = some o → h'.get? b = some o) → Q (.int ns.sum t') { s with heap := h', toks := tk }) : wpAny (model prog w) A (call (.builtin "sum") [.ref l]) Q E s := by
  obtain ⟨xs, e⟩ := hi.allInts.items
  have hn : numsOf (intItems xs).toList = ns := by rw [← e]; exact hi.numsOf
  rw [nums_intItems] at hn
  rw [e] at hl
  refine call_sum_walkG (iter_intTup hl fun s₂ e st hfp hlI => ?_)
  subst e
  refine ⟨_, _, _, _, _, _, numAt xs, rfl, Walks.tuple (A := A.in1) hh _ l hlI (intItems xs), st, hfp, (fun _ _ => intItems_at), fun h' tk t' hk => ?_⟩
  have := h h' tk t' (old_keptT hk)
  rw [show (intItems xs).size = xs.size by simp [intItems], preSum_eq, List.take_of_length_le (by simp), hn]
  exact this
theorem collect_tup {vs : List Value} {Q : List Value → Shared → Prop} (hl : s.heap.IsTuple l vs.toArray)
    (h : Q vs { s with heap := (s.heap.push (seqObj "list" #[] 0)).update s.heap.objs.size (Obj.mapSeq (· ++ vs.toArray)) }) (hsz : vs.length ≤ sizeLine) :
    wpAny (model prog w) A (collect (.ref l)) Q E s := by
  obtain ⟨o, ho, hc, n, hd⟩ := id hl
  unfold collect
  refine wpAny_bind (wpAny_runValue (codeAny_builtin entry_proto_collect' ?_))
  show wpAny _ _ (do again (.builtin "list.__iadd__" ⟨[← newList [], .ref l], []⟩)) _ _ s
  refine wpAny_bind (wpAny_newList (wpAny_pure ⟨Code.quiet_builtin _ (by decide +kernel), codeAny_builtin entry_list_iadd' ?_⟩))
  show wpAny _ _ (Builtin.List.listExtendWith (.ref s.heap.objs.size) (.ref l) (.ref s.heap.objs.size)) _ _ { s with heap := s.heap.push (seqObj "list" #[] 0) }
  unfold Builtin.List.listExtendWith
  have ho' : (s.heap.push (seqObj "list" #[] 0)).get? l = some o := Heap.get?_push_of_some _ ho
  refine wpAny_bind (wpAny_typeOf (T := "tuple") ⟨o, ho', hc⟩ ?_)
  have ht : (Value.type "tuple" == Value.type "tuple") = true := by rfl
  rw [if_pos (by rw [ht, Bool.or_true])]
  refine wpAny_bind (listItems_at ho' hd ?_)
  refine wpAny_bind (listItems_at (xs := #[]) (n := 0) (Heap.get?_push_size _ rfl) rfl ?_)
  rw [if_neg (by simp)]
  refine wpAny_bind (listUpdate_at (xs := #[]) (n := 0) (Heap.get?_push_size _ rfl) rfl ?_ (Nat.zero_le _) (by show (#[] ++ vs.toArray).size ≤ sizeLine + 1; simp only [Array.size_append, List.size_toArray, List.length_nil]; omega))
  refine wpAny_pure ?_
  show wpAny (model prog w) A (do
      let o ← load s.heap.objs.size
      match o.data with
      | .seq xs _ => pure xs.toList
      | _ => unsupported "internal:collect") Q E { s with heap := (s.heap.push (seqObj "list" #[] 0)).update s.heap.objs.size (Obj.mapSeq (· ++ vs.toArray)) }
  refine wpAny_bind (wpAny_load (get?_update_seq (Heap.get?_push_size _ rfl) _) ?_)
  show wpAny _ _ (pure ((#[] : Array Value) ++ vs.toArray).toList) Q E _
  rw [show ((#[] : Array Value) ++ vs.toArray).toList = vs by simp]
  exact wpAny_pure h
end
end PySem
namespace SrtO
open PySem PySem.Spec PyProof.Rows
section
variable {prog : Program} {w : World} {A : Around} {E : Value → Shared → Prop} {s : Shared}
theorem sorted_ordT {l : Addr} {vs : List Value} {ltv : Value → Value → Bool} {Q : Value → Shared → Prop} (O : Swo ltv) (hl : s.heap.IsTuple l vs.toArray) (hz : vs.length ≤ sizeLine)
    (hS : 2 ≤ vs.length → ∀ (h₁ : Heap) (a : Addr), h₁.get? a = some (seqObj "list" vs.toArray 0) → (∀ b o, s.heap.get? b = some o → b ≠ a ∧ h₁.get? b = some o) → SortableO prog w A.in1.in1 { s with heap := h₁ } a vs ltv)
    (h : ∀ out : List Value, Srtd ltv out → Stb ltv out vs → Q (.ref (s.heap.objs.size + 1)) { s with heap := sortedAll s.heap vs out.toArray }) :
    wpAny (model prog w) A (call (.builtin "sorted") [.ref l]) Q E s := by
  refine Calls.call_function_entry kind_sorted plain_sorted entry_sorted (args_sorted1 _) ?_
  unfold Builtin.«sorted»
  refine wpAny_bind (m := checkCount "sorted" 1 1 _) (wpAny_pure ?_)
  refine wpAny_bind (collect_tup hl ?_ hz)
  refine wpAny_bind (wpAny_newList ?_ hz)
  have hsz : ((s.heap.push (seqObj "list" #[] 0)).update s.heap.objs.size (Obj.mapSeq (· ++ vs.toArray))).objs.size = s.heap.objs.size + 1 := by
    rw [Heap.size_update, size_push']
  have hoL : (((s.heap.push (seqObj "list" #[] 0)).update s.heap.objs.size (Obj.mapSeq (· ++ vs.toArray))).push (seqObj "list" vs.toArray 0)).get? (s.heap.objs.size + 1) = some (seqObj "list" vs.toArray 0) := by
    rw [← hsz]; exact Heap.get?_push_size _ rfl
  have keep : ∀ b o, s.heap.get? b = some o → b ≠ s.heap.objs.size + 1 ∧ (((s.heap.push (seqObj "list" #[] 0)).update s.heap.objs.size (Obj.mapSeq (· ++ vs.toArray))).push (seqObj "list" vs.toArray 0)).get? b = some o := fun b o q => by
    have hlt : b < s.heap.objs.size := Heap.lt_size q
    refine ⟨Nat.ne_of_lt (Nat.lt_succ_of_lt hlt), Heap.get?_push_of_some _ ?_⟩
    rw [Heap.get?_update_ne _ _ _ _ (Nat.ne_of_lt hlt)]
    exact Heap.get?_push_of_some _ q
  show wpAny _ _ _ _ _ { s with heap := ((s.heap.push (seqObj "list" #[] 0)).update s.heap.objs.size (Obj.mapSeq (· ++ vs.toArray))).push (seqObj "list" vs.toArray 0) }
  rw [hsz]
  refine wpAny_bind (wpAny_holding (wpAny_call_entry slot_list_sort ⟨_, hoL, rfl⟩ entry_list_sort (list_sort_ord O hoL hz (fun h2 => hS h2 _ _ hoL keep) fun out hs hb => ⟨_, rfl, ?_⟩) (args_list_sort _)))
  exact wpAny_pure ⟨_, rfl, h out hs hb⟩
end
end SrtO
namespace Pyx
open PySem PySem.Spec PyProof.Rows L2
def rSumT (K : PySem.W.Frag) : List V → Hp → VK → Prop := fun vs H Q => ∃ (a : Addr) (ns : List Int), vs = [V.ref a] ∧ SqT K H a (ns.map V.int) ∧ Q (.int ns.sum) H
def rSortedIT (K : PySem.W.Frag) : List V → Hp → VK → Prop := fun vs H Q => ∃ (a : Addr) (ns : List Int), vs = [V.ref a] ∧ SqT K H a (ns.map V.int) ∧
  ∀ (ns' : List Int) (p : Addr), ns'.Perm ns → ns'.Pairwise (· ≤ ·) → H p = none → Q (.ref p) (upd H p (.lst (ns'.map V.int)))
section
variable {X : Cx}
theorem cr_sumT (hc : X.calm = true) : CallR X (.builtin "sum") (rSumT X.K) := by
  intro pins s σ H vs us Q I r h
  obtain ⟨a, ns, rfl, hs, q⟩ := h
  obtain ⟨its, rv, hl, _⟩ := I.tuple hs
  rw [Vals.ref1 r]
  exact sum_tup (I.ok.hd hc) hl rv.ints fun h' tk t' hk => ⟨.int _, H, I.kept hk, ⟨_, rfl⟩, q⟩
theorem cr_sortedIT : CallR X (.builtin "sorted") (rSortedIT X.K) := by
  intro pins s σ H vs us Q I r h
  obtain ⟨a, ns, rfl, hs, q⟩ := h
  obtain ⟨its, rv, hl, hz⟩ := I.tuple hs
  rw [Vals.ref1 r]
  have hi := rv.ints
  refine SrtO.sorted_ordT SrtO.swo_int hl (by rw [← rv.length]; exact hz) (fun h2 h₁ a' _ _ => SrtO.ints_sortable hi h2) fun out h1 h2 => ?_
  obtain ⟨k1, k2, k3⟩ := SrtO.ints_out hi h1 h2
  obtain ⟨ep, he'⟩ := PyProof.Rows.sortedAll_at s.heap its out.toArray
  have hlen : ((out.map SrtO.iv).map V.int).length ≤ sizeLine := by
    rw [List.length_map, k2.length_eq]
    rw [List.length_map] at hz
    exact hz
  exact ⟨.ref _, upd H (s.heap.objs.size + 1) (.lst ((out.map SrtO.iv).map V.int)), I.laid (t' := s.toks) (fun _ _ => PyProof.Rows.sortedAll_old) (Nat.le_succ _) ⟨hlen, out, ep, vals_of_ints k1, he'⟩, rfl, q _ _ k2 k3 (I.hok.fresh (Nat.le_succ _))⟩
end
end Pyx

set_option Elab.async false
set_option linter.all false
set_option maxRecDepth 100000
set_option maxHeartbeats 4000000
/-! Pyx: built-in functions and methods keep what the pure ones say. -/
namespace Pyx
open PySem PySem.Spec PyProof.Rows L2
/-! ### sums, orders -/
theorem sumI_eq : ∀ is : List Int, sumI is = is.sum
  | [] => rfl
  | i :: is => by
    rw [List.sum_cons, ← sumI_eq is]
    rfl
theorem maxI_is : ∀ (is : List Int) (m : Int), maxI m is ∈ m :: is ∧ ∀ y ∈ m :: is, y ≤ maxI m is
  | [], m => ⟨List.mem_cons_self, fun y hy => by
      rcases List.mem_cons.mp hy with e | e
      · rw [e]; exact Int.le_refl _
      · cases e⟩
  | x :: is, m => by
    unfold maxI
    split
    · rename_i e
      have e := of_decide_eq_true e
      obtain ⟨h1, h2⟩ := maxI_is is x
      refine ⟨List.mem_cons_of_mem _ h1, fun y hy => ?_⟩
      rcases List.mem_cons.mp hy with e2 | e2
      · rw [e2]; exact Int.le_trans e (h2 x List.mem_cons_self)
      · exact h2 y e2
    · rename_i e
      have e := of_decide_eq_false e
      obtain ⟨h1, h2⟩ := maxI_is is m
      refine ⟨?_, fun y hy => ?_⟩
      · rcases List.mem_cons.mp h1 with e2 | e2
        · rw [e2]; exact List.mem_cons_self
        · exact List.mem_cons_of_mem _ (List.mem_cons_of_mem _ e2)
      · rcases List.mem_cons.mp hy with e2 | e2
        · rw [e2]; exact h2 m List.mem_cons_self
        · rcases List.mem_cons.mp e2 with e3 | e3
          · rw [e3]; exact Int.le_trans (by omega) (h2 m List.mem_cons_self)
          · exact h2 y (List.mem_cons_of_mem _ e3)
theorem minI_is : ∀ (is : List Int) (m : Int), minI m is ∈ m :: is ∧ ∀ y ∈ m :: is, minI m is ≤ y
  | [], m => ⟨List.mem_cons_self, fun y hy => by
      rcases List.mem_cons.mp hy with e | e
      · rw [e]; exact Int.le_refl _
      · cases e⟩
  | x :: is, m => by
    unfold minI
    split
    · rename_i e
      have e := of_decide_eq_true e
      obtain ⟨h1, h2⟩ := minI_is is x
      refine ⟨List.mem_cons_of_mem _ h1, fun y hy => ?_⟩
      rcases List.mem_cons.mp hy with e2 | e2
      · rw [e2]; exact Int.le_trans (h2 x List.mem_cons_self) e
      · exact h2 y e2
    · rename_i e
      have e := of_decide_eq_false e
      obtain ⟨h1, h2⟩ := minI_is is m
      refine ⟨?_, fun y hy => ?_⟩
      · rcases List.mem_cons.mp h1 with e2 | e2
        · rw [e2]; exact List.mem_cons_self
        · exact List.mem_cons_of_mem _ (List.mem_cons_of_mem _ e2)
      · rcases List.mem_cons.mp hy with e2 | e2
        · rw [e2]; exact h2 m List.mem_cons_self
        · rcases List.mem_cons.mp e2 with e3 | e3
          · rw [e3]; exact Int.le_trans (h2 m List.mem_cons_self) (by omega)
          · exact h2 y (List.mem_cons_of_mem _ e3)
theorem insI_perm (x : Int) : ∀ l : List Int, (insI x l).Perm (x :: l)
  | [] => .refl _
  | y :: r => by
    unfold insI
    split
    · exact .refl _
    · exact ((insI_perm x r).cons y).trans (.swap x y r)
theorem insI_mem {x z : Int} {l : List Int} (h : z ∈ insI x l) : z = x ∨ z ∈ l := by
  have q := (insI_perm x l).mem_iff.mp h
  exact List.mem_cons.mp q
theorem insI_srt (x : Int) : ∀ l : List Int, l.Pairwise (· ≤ ·) → (insI x l).Pairwise (· ≤ ·)
  | [], _ => List.pairwise_cons.mpr ⟨fun _ h => (nomatch h), .nil⟩
  | y :: r, h => by
    obtain ⟨h1, h2⟩ := List.pairwise_cons.mp h
    unfold insI
    split
    · rename_i e
      have e := of_decide_eq_true e
      refine List.pairwise_cons.mpr ⟨fun z hz => ?_, h⟩
      rcases List.mem_cons.mp hz with e2 | e2
      · rw [e2]; exact e
      · exact Int.le_trans e (h1 z e2)
    · rename_i e
      have e := of_decide_eq_false e
      refine List.pairwise_cons.mpr ⟨fun z hz => ?_, insI_srt x r h2⟩
      rcases insI_mem hz with e2 | e2
      · rw [e2]; omega
      · exact h1 z e2
theorem sortI_perm : ∀ l : List Int, (sortI l).Perm l
  | [] => .refl _
  | x :: r => (insI_perm x (sortI r)).trans ((sortI_perm r).cons x)
theorem sortI_srt : ∀ l : List Int, (sortI l).Pairwise (· ≤ ·)
  | [] => .nil
  | x :: r => insI_srt x (sortI r) (sortI_srt r)
/-! ### tuples of ints in order -/
theorem insT_perm (x : List Int) : ∀ l : List (List Int), (insT x l).Perm (x :: l)
  | [] => .refl _
  | y :: r => by
    unfold insT
    split
    · exact ((insT_perm x r).cons y).trans (.swap x y r)
    · exact .refl _
theorem insT_srt (x : List Int) : ∀ l : List (List Int), l.Pairwise (fun a b => HT.lexLt b a = false) → (insT x l).Pairwise (fun a b => HT.lexLt b a = false)
  | [], _ => List.pairwise_cons.mpr ⟨fun _ h => (nomatch h), .nil⟩
  | y :: r, h => by
    obtain ⟨h1, h2⟩ := List.pairwise_cons.mp h
    unfold insT
    split
    · rename_i e
      refine List.pairwise_cons.mpr ⟨fun z hz => ?_, insT_srt x r h2⟩
      rcases List.mem_cons.mp ((insT_perm x r).mem_iff.mp hz) with e2 | e2
      · rw [e2]; exact NtL.lex_asym _ _ e
      · exact h1 z e2
    · rename_i e
      refine List.pairwise_cons.mpr ⟨fun z hz => ?_, h⟩
      rcases List.mem_cons.mp hz with e2 | e2
      · rw [e2]; exact e
      · exact NtL.lex_tr _ _ _ e (h1 z e2)
theorem sortT_perm : ∀ l : List (List Int), (sortT l).Perm l
  | [] => .refl _
  | x :: r => (insT_perm x (sortT r)).trans ((sortT_perm r).cons x)
theorem sortT_srt : ∀ l : List (List Int), (sortT l).Pairwise (fun a b => HT.lexLt b a = false)
  | [] => .nil
  | x :: r => insT_srt x (sortT r) (sortT_srt r)
theorem lex_eq : ∀ xs ys : List Int, HT.lexLt xs ys = false → HT.lexLt ys xs = false → xs = ys
  | [], [], _, _ => rfl
  | [], y :: ys, h, _ => by rw [HT.lexLt_nil_cons] at h; cases h
  | x :: xs, [], _, h => by rw [HT.lexLt_nil_cons] at h; cases h
  | x :: xs, y :: ys, h, h' => by
    rw [HT.lexLt_cons] at h h'
    by_cases e : x = y
    · subst e
      rw [if_pos rfl] at h h'
      rw [lex_eq xs ys h h']
    · rw [if_neg e] at h
      rw [if_neg (fun z => e z.symm)] at h'
      have h := of_decide_eq_false h
      have h' := of_decide_eq_false h'
      omega
theorem srtT_same : ∀ {l m : List (List Int)}, l.Perm m → l.Pairwise (fun a b => HT.lexLt b a = false) → m.Pairwise (fun a b => HT.lexLt b a = false) → l = m
  | [], m, h, _, _ => (List.Perm.eq_nil h.symm).symm
  | x :: l, [], h, _, _ => absurd h.length_eq (by simp)
  | x :: l, y :: m, h, hl, hm => by
    obtain ⟨a1, a2⟩ := List.pairwise_cons.mp hl
    obtain ⟨b1, b2⟩ := List.pairwise_cons.mp hm
    have e : x = y := by
      rcases List.mem_cons.mp (h.mem_iff.mp (List.mem_cons_self (a := x) (l := l))) with e | hx
      · exact e
      · rcases List.mem_cons.mp (h.mem_iff.mpr (List.mem_cons_self (a := y) (l := m))) with e | hy
        · exact e.symm
        · exact lex_eq x y (b1 x hx) (a1 y hy)
    subst e
    rw [srtT_same h.cons_inv a2 b2]
def intsV : List V → List Int
  | [] => []
  | .int i :: r => i :: intsV r
  | _ :: r => intsV r
theorem intsV_map : ∀ is : List Int, intsV (is.map V.int) = is
  | [] => rfl
  | i :: is => congrArg (i :: ·) (intsV_map is)
def kOf (H : Hp) : V → List Int
  | .ref t => match H t with
    | some (.tup us) => intsV us
    | _ => []
  | _ => []
theorem tupsP_vals {c : Rc} {f : Nat → Addr} {h : PH} {H : Hp} : ∀ {xs : List PV} {vs : List V} {ts : List (List Int)}, RVs c f h.n H xs vs → tupsP xs = some ts →
    (∀ v ∈ vs, ∃ t, v = V.ref t ∧ H t = some (.tup ((kOf H v).map V.int)) ∧ kOf H v ≠ []) ∧ vs.map (kOf H) = ts
  | [], [], ts, .nil, e => by
    cases e
    exact ⟨fun v hv => (nomatch hv), rfl⟩
  | .tup us :: xs, v :: vs, ts, .cons r t, e => by
    unfold tupsP at e
    split at e
    · rename_i i is q
      split at e
      · rename_i ts' q'
        cases e
        obtain ⟨h1, h2⟩ := tupsP_vals t q'
        cases r with
        | tup g1 g2 =>
          rename_i a ws
          obtain ⟨e1, _⟩ := intsP_vals g2 q
          rw [e1] at g1
          have ek : kOf H (.ref a) = i :: is := by
            unfold kOf
            simp only [g1]
            exact intsV_map (i :: is)
          refine ⟨fun v hv => ?_, by rw [List.map_cons, ek, h2]⟩
          rcases List.mem_cons.mp hv with e2 | hv
          · rw [e2, ek]
            exact ⟨a, rfl, g1, by intro z; cases z⟩
          · exact h1 v hv
      · cases e
    · cases e
  | .non :: _, _, _, _, e => by cases e
  | .bl _ :: _, _, _, _, e => by cases e
  | .int _ :: _, _, _, _, e => by cases e
  | .str _ :: _, _, _, _, e => by cases e
  | .ref _ :: _, _, _, _, e => by cases e
  | .fn _ :: _, _, _, _, e => by cases e
theorem rvs_intV {c : Rc} {f : Nat → Addr} {n : Nat} {H : Hp} : ∀ is : List Int, RVs c f n H (is.map PV.int) (is.map V.int)
  | [] => .nil
  | i :: is => .cons (.int i) (rvs_intV is)
theorem rvs_tups {c : Rc} {f : Nat → Addr} {n : Nat} {H : Hp} : ∀ {ys : List V}, (∀ v ∈ ys, ∃ t, v = V.ref t ∧ H t = some (.tup ((kOf H v).map V.int)) ∧ kOf H v ≠ []) → RVs c f n H ((ys.map (kOf H)).map tupI) ys
  | [], _ => .nil
  | v :: ys, h => by
    obtain ⟨t, e, h1, _⟩ := h v List.mem_cons_self
    refine .cons ?_ (rvs_tups fun u hu => h u (List.mem_cons_of_mem _ hu))
    unfold tupI
    generalize kOf H v = is at h1 ⊢
    subst e
    exact .tup h1 (rvs_intV is)
/-! ### values -/
section
variable {c : Rc} {f : Nat → Addr} {h : PH} {H : Hp}
theorem tupsOfL_at {x : PV} {v : V} {ts : List (List Int)} (r : Rel c f h H) (rv : RV c f h.n H x v) (e : tupsOfL x h = some ts) : ∃ a vs, v = .ref a ∧ SqL c.K H a vs ∧
    (∀ v ∈ vs, ∃ t, v = V.ref t ∧ H t = some (.tup ((kOf H v).map V.int)) ∧ kOf H v ≠ []) ∧ vs.map (kOf H) = ts := by
  unfold tupsOfL at e
  split at e
  · rename_i xs q
    obtain ⟨a, vs, rfl, h1, h2⟩ := seqL_at r rv q
    obtain ⟨g1, g2⟩ := tupsP_vals h2 e
    exact ⟨a, vs, rfl, h1, g1, g2⟩
  · cases e
theorem intsOfL_at {x : PV} {v : V} {is : List Int} (r : Rel c f h H) (rv : RV c f h.n H x v) (e : intsOfL x h = some is) : ∃ a, v = .ref a ∧ SqL c.K H a (is.map V.int) := by
  unfold intsOfL at e
  split at e
  · rename_i xs q
    obtain ⟨a, vs, rfl, h1, h2⟩ := seqL_at r rv q
    obtain ⟨e1, _⟩ := intsP_vals h2 e
    rw [e1] at h1
    exact ⟨a, rfl, h1⟩
  · cases e
theorem intsOf_at {x : PV} {v : V} {is : List Int} (r : Rel c f h H) (rv : RV c f h.n H x v) (e : intsOf x h = some is) : ∃ a, v = .ref a ∧ (SqL c.K H a (is.map V.int) ∨ SqT c.K H a (is.map V.int)) := by
  unfold intsOf at e
  split at e
  · rename_i xs q
    obtain ⟨a, vs, rfl, h1, h2⟩ := seqOf_at r rv q
    obtain ⟨e1, _⟩ := intsP_vals h2 e
    rw [e1] at h1
    exact ⟨a, rfl, h1⟩
  · cases e
theorem setOf_at {x : PV} {v : V} {is : List Int} (r : Rel c f h H) (rv : RV c f h.n H x v) (e : setOf x h = some is) : ∃ a S m, v = .ref a ∧ H a = some (SetO c.w a S m) ∧ (∀ j, S j = true ↔ j ∈ is) ∧ m = is.length ∧ is.Nodup := by
  unfold setOf at e
  split at e
  · cases rv with
    | ref hi =>
      split at e
      · rename_i xs q
        cases e
        cases r.obj _ _ q with
        | set h1 h2 h3 h4 => exact ⟨_, _, _, rfl, h1, h2, h3, h4⟩
      · cases e
  · cases e
theorem dedI_mem {j : Int} : ∀ {l : List Int}, j ∈ dedI l ↔ j ∈ l
  | [] => Iff.rfl
  | x :: r => by
    unfold dedI
    split
    · rename_i e
      have e : x ∈ r := List.mem_of_elem_eq_true e
      rw [dedI_mem]
      refine ⟨fun q => List.mem_cons_of_mem _ q, fun q => ?_⟩
      rcases List.mem_cons.mp q with z | z
      · rw [z]; exact e
      · exact z
    · rw [List.mem_cons, List.mem_cons, dedI_mem]
theorem dedI_nodup : ∀ l : List Int, (dedI l).Nodup
  | [] => List.nodup_nil
  | x :: r => by
    unfold dedI
    split
    · exact dedI_nodup r
    · rename_i e
      refine List.nodup_cons.mpr ⟨fun q => ?_, dedI_nodup r⟩
      have q := List.elem_eq_true_of_mem (dedI_mem.mp q)
      have e : r.elem x = false := e
      rw [q] at e
      cases e
theorem setR_count {w : World} {hh : Heap} {a : Addr} {S : Int → Bool} {m : Nat} {xs : List Int} (R0 : SetR w hh a S m) (nd : xs.Nodup) (hm : ∀ j, S j = true ↔ j ∈ xs) : m = xs.length := by
  obtain ⟨o, es, ep, t, _, _, _, _, h1, h2, _, _, h3, _⟩ := R0
  have q := (List.perm_ext_iff_of_nodup h1 nd).mpr fun j => by rw [← h2, hm]
  have q2 := q.length_eq
  rw [List.length_map, Array.length_toList] at q2
  omega
def tyS : Ty → String
  | .int => "int"
  | .bool => "bool"
  | .str => "str"
  | .tuple => "tuple"
  | .list => "list"
def tyP (x : PV) (h : PH) : String := match x with
  | .non => "NoneType"
  | .bl _ => "bool"
  | .int _ => "int"
  | .str _ => "str"
  | .tup _ => "tuple"
  | .ref i => match h.get i with
    | some (.dK _) => "dict"
    | some (.dT _) => "dict"
    | _ => "list"
  | .fn _ => "list"
theorem isTy_at {x : PV} {v : V} {t : Ty} {k : Bool} (r : Rel c f h H) (rv : RV c f h.n H x v) (e : isTy x h t = some k) : TyX c.K H v (.type (tyP x h)) ∧ kitB (tyP x h) (tyS t) = some k := by
  unfold isTy at e
  split at e
  · cases rv; exact ⟨.base .non, by show kitB "NoneType" _ = _; cases e; cases t <;> decide +kernel⟩
  · cases rv; exact ⟨.base (.bl _), by show kitB "bool" _ = _; cases t <;> cases e <;> decide +kernel⟩
  · cases rv; exact ⟨.base (.int _), by show kitB "int" _ = _; cases t <;> cases e <;> decide +kernel⟩
  · cases rv; exact ⟨.base (.str _), by show kitB "str" _ = _; cases t <;> cases e <;> decide +kernel⟩
  · cases rv with
    | tup h1 h2 => exact ⟨.base (.tup h1), by show kitB "tuple" _ = _; cases t <;> cases e <;> decide +kernel⟩
  · rename_i i
    cases rv with
    | ref hi =>
      unfold tyP
      dsimp only
      split at e
      · rename_i xs q
        rw [q]
        cases r.obj _ _ q with
        | lst h1 h2 => exact ⟨.base (.lst h1), by show kitB "list" _ = _; cases t <;> cases e <;> decide +kernel⟩
      · rename_i xs q
        rw [q]
        cases r.obj _ _ q with
        | fz h1 h2 =>
          rcases h1 with ⟨o, h1⟩ | ⟨o, its, n, h1, h3, _⟩
          · exact ⟨.base (.frz h1), by show kitB "list" _ = _; cases t <;> cases e <;> decide +kernel⟩
          · exact ⟨.kList h1 h3, by show kitB "list" _ = _; cases t <;> cases e <;> decide +kernel⟩
      · rename_i kvs q
        rw [q]
        cases r.obj _ _ q with
        | dK h1 _ _ => exact ⟨.base (.dK h1), by show kitB "dict" _ = _; cases e; cases t <;> decide +kernel⟩
      · rename_i kvs q
        rw [q]
        cases r.obj _ _ q with
        | dT h1 _ _ => exact ⟨.base (.dT h1), by show kitB "dict" _ = _; cases e; cases t <;> decide +kernel⟩
      · cases e
  · cases e
end
def biV : Bi → Value
  | .len => .builtin "len"
  | .min => .builtin "min"
  | .max => .builtin "max"
  | .sum => .builtin "sum"
  | .sorted => .builtin "sorted"
  | .abs => .builtin "abs"
  | .list => .type "list"
  | .tuple => .type "tuple"
  | .int => .type "int"
  | .set => .type "set"
section
variable {X : Cx} {c : Rc}
theorem call_bi (hK : X.K = c.K) (hW : X.w = c.w) (hc : X.calm = true) (b : Bi) : CallR X (biV b) (rBi c b) := by
  intro pins s σ H vs us Q I rvs ⟨f, h, ps, r, rs, p⟩
  unfold biP at p
  split at p
  · -- len
    cases rs with
    | cons r1 rn =>
      cases rn
      split at p
      · rename_i xs e
        obtain ⟨a, ws, rfl, hs, rv⟩ := seqOf_at r r1 e
        rw [← hK] at hs
        refine call_len pins s σ H _ us Q I rvs ⟨_, ws.length, rfl, ?_, ?_⟩
        · rcases hs with hs | hs
          · exact .inl ⟨ws, hs, rfl⟩
          · exact .inr ⟨ws, hs, rfl⟩
        · rw [← rv.length]
          exact p _ _ .refl r _ (.int _)
      · split at p
        · rename_i n e
          unfold dLen at e
          split at e
          · cases r1 with
            | ref hi =>
              split at e
              · rename_i kvs g
                split at e
                · cases e
                  cases r.obj _ _ g with
                  | dK h1 h2 hn =>
                    refine call_lenD pins s σ H _ us Q I rvs ⟨_, _, rfl, h1, ?_⟩
                    rw [← h2.length]
                    exact p _ _ .refl r _ (.int _)
                · cases e
              · rename_i kvs g
                split at e
                · cases e
                  cases r.obj _ _ g with
                  | dT h1 h2 hn =>
                    refine call_len_dT pins s σ H _ us Q I rvs ⟨_, _, rfl, h1, ?_⟩
                    rw [← h2.length]
                    exact p _ _ .refl r _ (.int _)
                · cases e
              · cases e
          · cases e
        · exact p.elim
  · -- abs
    cases rs with
    | cons r1 rn =>
      cases rn
      cases r1
      exact call_abs pins s σ H _ us Q I rvs ⟨_, rfl, p _ _ .refl r _ (.int _)⟩
  · cases rs with
    | cons r1 rn =>
      cases rn with
      | cons r2 rn =>
        cases rn
        cases r1; cases r2
        exact call_min2 hc pins s σ H _ us Q I rvs ⟨_, _, rfl, p _ _ .refl r _ (.int _)⟩
  · cases rs with
    | cons r1 rn =>
      cases rn with
      | cons r2 rn =>
        cases rn
        cases r1; cases r2
        exact call_max2 hc pins s σ H _ us Q I rvs ⟨_, _, rfl, p _ _ .refl r _ (.int _)⟩
  · -- min of a list
    cases rs with
    | cons r1 rn =>
      cases rn
      split at p
      · rename_i i is e
        obtain ⟨a, rfl, hs⟩ := intsOfL_at r r1 e
        rw [← hK] at hs
        refine cr_min hc pins s σ H _ us Q I rvs ⟨a, i :: is, rfl, hs, Nat.succ_pos _, fun m h1 h2 => ?_⟩
        obtain ⟨z1, z2⟩ := minI_is is i
        have e1 : m = minI i is := Int.le_antisymm (h2 _ z1) (z2 _ h1)
        rw [e1]
        exact p _ _ .refl r _ (.int _)
      · exact p.elim
  · cases rs with
    | cons r1 rn =>
      cases rn
      split at p
      · rename_i i is e
        obtain ⟨a, rfl, hs⟩ := intsOfL_at r r1 e
        rw [← hK] at hs
        refine cr_max hc pins s σ H _ us Q I rvs ⟨a, i :: is, rfl, hs, Nat.succ_pos _, fun m h1 h2 => ?_⟩
        obtain ⟨z1, z2⟩ := maxI_is is i
        have e1 : m = maxI i is := Int.le_antisymm (z2 _ h1) (h2 _ z1)
        rw [e1]
        exact p _ _ .refl r _ (.int _)
      · exact p.elim
  · -- sum
    cases rs with
    | cons r1 rn =>
      cases rn
      split at p
      · rename_i is e
        obtain ⟨a, rfl, hs⟩ := intsOf_at r r1 e
        rw [← hK] at hs
        have q := p _ _ .refl r _ (.int _)
        rw [sumI_eq] at q
        rcases hs with hs | hs
        · exact cr_sum hc pins s σ H _ us Q I rvs ⟨a, is, rfl, hs, q⟩
        · exact cr_sumT hc pins s σ H _ us Q I rvs ⟨a, is, rfl, hs, q⟩
      · exact p.elim
  · -- sorted
    cases rs with
    | cons r1 rn =>
      cases rn
      split at p
      · rename_i is e
        split at p
        · rename_i e64
          obtain ⟨z, k⟩ := okL_at r (rvs_ints _) p
          obtain ⟨a, S, m, rfl, h1, h2, h3, h4⟩ := setOf_at r r1 e
          rw [← hW] at h1
          refine cr_sortedSet hc pins s σ H _ us Q I rvs ⟨a, S, m, rfl, h1, by rw [h3]; exact Nat.le_of_ble_eq_true e64, fun ns q g1 g2 g3 g4 => ?_⟩
          have e1 : ns = sortI is := by
            refine PySem.W.ksm_same ?_ (g1.imp fun h => Int.le_of_lt h) (sortI_srt is)
            refine List.Perm.trans ?_ (sortI_perm is).symm
            refine (List.perm_ext_iff_of_nodup (g1.imp fun h => Int.ne_of_lt h) h4).mpr fun j => ?_
            rw [g2, h2]
          rw [e1]
          exact k q g4
        · exact p.elim
      · split at p
        · rename_i is e
          obtain ⟨a, rfl, hs⟩ := intsOf_at r r1 e
          rw [← hK] at hs
          obtain ⟨z, k⟩ := okL_at r (rvs_ints _) p
          have fin : ∀ (ns : List Int) (q : Addr), ns.Perm is → ns.Pairwise (· ≤ ·) → H q = none → Q (.ref q) (upd H q (.lst (ns.map V.int))) := fun ns q h1 h2 h3 => by
            have e1 : ns = sortI is := PySem.W.ksm_same (h1.trans (sortI_perm is).symm) h2 (sortI_srt is)
            rw [e1]
            exact k q h3
          rcases hs with hs | hs
          · exact cr_sortedI pins s σ H _ us Q I rvs ⟨a, is, rfl, hs, fin⟩
          · exact cr_sortedIT pins s σ H _ us Q I rvs ⟨a, is, rfl, hs, fin⟩
        · split at p
          · rename_i ts e
            obtain ⟨a, vs, rfl, hs, hk, ht⟩ := tupsOfL_at r r1 e
            rw [← hK] at hs
            refine cr_sortedTI pins s σ H _ us Q I rvs ⟨a, vs, kOf H, rfl, hs, hk, fun ys q h1 h2 h3 => ?_⟩
            have e1 : ys.map (kOf H) = sortT ts := by
              refine srtT_same ?_ (List.pairwise_map.mpr h1) (sortT_srt ts)
              rw [← ht]
              exact (h2.map _).trans (sortT_perm _).symm
            have rvs := rvs_tups (c := c) (f := f) (n := h.n) fun v hv => hk v (h2.mem_iff.mp hv)
            rw [e1] at rvs
            obtain ⟨z, k⟩ := okL_at r rvs p
            exact k q h3
          · exact p.elim
  · -- set
    cases rs with
    | cons r1 rn =>
      cases rn
      split at p
      · rename_i is e
        split at p
        · rename_i e60
          have h60 : is.length ≤ 60 := Nat.le_of_ble_eq_true e60
          obtain ⟨a, rfl, hs⟩ := intsOf_at r r1 e
          rw [← hK] at hs
          cases rvs with
          | cons rv rn =>
            cases rn
            cases rv
            have fin : ∀ (h' : Heap) (tk m : Nat), SetR X.w h' s.heap.objs.size (fun j => decide (j ∈ is)) m → (∀ b o, s.heap.get? b = some o → h'.get? b = some o) → EP X pins σ Q (.ref s.heap.objs.size) { s with heap := h', toks := tk } := fun h' tk m R0 k0 => by
              have fr := I.hok.fresh (Nat.le_refl s.heap.objs.size)
              have hm : m = (dedI is).length := setR_count R0 (dedI_nodup is) fun j => by rw [decide_eq_true_eq, dedI_mem]
              obtain ⟨r2, x2⟩ := r.lays (o := .set (dedI is)) (u := SetO c.w s.heap.objs.size (fun j => decide (j ∈ is)) m) fr (.set upd_same (fun j => by rw [decide_eq_true_eq, dedI_mem]) hm (dedI_nodup is))
              refine ⟨.ref s.heap.objs.size, _, I.laid (t' := tk) k0 (Nat.le_refl _) (setO_new R0), rfl, ?_⟩
              rw [hW]
              refine p _ _ x2 r2 _ ?_
              have z := RV.ref (c := c) (f := ext1 f h.n s.heap.objs.size) (n := h.n + 1) (H := upd H s.heap.objs.size (SetO c.w s.heap.objs.size (fun j => decide (j ∈ is)) m)) (Nat.lt_succ_self h.n)
              rw [ext1_at] at z
              exact z
            rcases hs with hs | hs
            · obtain ⟨its, rv, pl, hz⟩ := I.list hs
              exact call_set_lstI is (I.ok.hd hc) pl.isList rv.ints (by unfold scanBound; omega) fun h' tk m R0 _ k0 => fin h' tk m R0 k0
            · obtain ⟨its, rv, pl, hz⟩ := I.tuple hs
              exact call_set_tupI is (I.ok.hd hc) pl rv.ints (by unfold scanBound; omega) fun h' tk m R0 _ k0 => fin h' tk m R0 k0
        · exact p.elim
      · exact p.elim
  · -- list
    cases rs with
    | cons r1 rn =>
      cases rn
      split at p
      · rename_i xs e
        obtain ⟨a, ws, rfl, hs, rv⟩ := seqOf_at r r1 e
        rw [← hK] at hs
        obtain ⟨z, k⟩ := okL_at r rv p
        exact call_list_of pins s σ H _ us Q I rvs ⟨a, ws, rfl, hs, k⟩
      · exact p.elim
  · -- tuple
    cases rs with
    | cons r1 rn =>
      cases rn
      split at p
      · rename_i xs e
        obtain ⟨a, ws, rfl, hs, rv⟩ := seqOf_at2 r r1 e
        obtain ⟨z, k1, k2⟩ := okT_at r rv p
        rw [← hK] at hs
        refine call_tuple_of pins s σ H _ us Q I rvs ⟨a, ws, rfl, ?_⟩
        rcases hs with hs | ⟨_, hs⟩
        · exact .inl ⟨hs, k1⟩
        · exact .inr ⟨SqT.of hs, k2 _ hs⟩
      · exact p.elim
  · cases rs with
    | cons r1 rn =>
      cases rn
      cases r1
      exact call_int1 pins s σ H _ us Q I rvs (.inl ⟨_, rfl, p _ _ .refl r _ (.int _)⟩)
  · cases rs with
    | cons r1 rn =>
      cases rn
      cases r1
      exact call_int1 pins s σ H _ us Q I rvs (.inr ⟨_, rfl, p _ _ .refl r _ (.int _)⟩)
  · exact p.elim
theorem mt_app : MtM X "list.append" (rMt c .append) := by
  intro pins s σ H x xs v us Q I rx rxs ⟨f, h, pv, ps, r, r1, rs, p⟩
  have p : Post c f h.n H (appP pv ps h) (VQ c Q) := p
  unfold appP at p
  split at p
  · cases rs with
    | cons r2 rn =>
      cases rn
      split at p
      · rename_i i ys e
        split at p
        · rename_i sm
          obtain ⟨vs, rfl, hg, h1, h2⟩ := lstAt_at r r1 e
          obtain ⟨r4, e4⟩ := r.write hg (h2.app (.cons r2 .nil))
          exact mt_append pins s σ H _ _ v us Q I rx rxs ⟨f i, vs, _, rfl, rfl, h1, by rw [← h2.length]; exact small_size sm, p _ _ e4 r4 _ .non⟩
        · exact p.elim
      · exact p.elim
  · exact p.elim
theorem mt_popP : MtM X "list.pop" (rMt c .pop) := by
  intro pins s σ H x xs v us Q I rx rxs ⟨f, h, pv, ps, r, r1, rs, p⟩
  have p : Post c f h.n H (popP pv ps h) (VQ c Q) := p
  unfold popP at p
  split at p
  · cases rs
    split at p
    · rename_i i ys e
      split at p
      · rename_i w ew
        obtain ⟨vs, rfl, hg, h1, h2⟩ := lstAt_at r r1 e
        obtain ⟨r4, e4⟩ := r.write hg h2.dropLast
        obtain ⟨y, ey, ry⟩ := h2.get _ _ ew
        exact mt_pop pins s σ H _ _ v us Q I rx rxs ⟨f i, vs, y, rfl, rfl, h1, by rw [← h2.length]; exact ey, p _ _ e4 r4 _ (ry.mono e4)⟩
      · exact p.elim
    · exact p.elim
  · exact p.elim
theorem mt_cnt (hK : X.K = c.K) : MtM X "list.count" (rMt c .count) := by
  intro pins s σ H x xs v us Q I rx rxs ⟨f, h, pv, ps, r, r1, rs, p⟩
  have p : Post c f h.n H (cntP pv ps h) (VQ c Q) := p
  unfold cntP at p
  split at p
  · cases rs with
    | cons r2 rn =>
      cases rn
      cases r2
      split at p
      · rename_i is e
        obtain ⟨a, rfl, hs⟩ := intsOfL_at r r1 e
        rw [← hK] at hs
        exact mt_lcount pins s σ H _ _ v us Q I rx rxs ⟨a, is, _, rfl, rfl, hs, p _ _ .refl r _ (.int _)⟩
      · exact p.elim
  · exact p.elim
end
end Pyx

set_option Elab.async false
set_option linter.all false
set_option maxRecDepth 100000
set_option maxHeartbeats 4000000
/-! Pyx: expressions. -/
namespace Pyx
open PySem PySem.Spec PyProof.Rows L2
def noStar : Expr → Bool
  | .Starred _ _ => false
  | _ => true
def noSlice : Expr → Bool
  | .Slice _ _ _ _ => false
  | _ => true
def noSet : Expr → Bool
  | .Set _ _ _ => false
  | _ => true
def noComp : Expr → Bool
  | .ListComp _ _ _ _ => false
  | .SetComp _ _ _ _ => false
  | .DictComp _ _ _ _ _ => false
  | _ => true
def noBase : Expr → Bool
  | .Call _ [] _ _ => false
  | _ => true
def plainT : Expr → Bool
  | .UnaryOp _ _ _ => false
  | .BoolOp _ _ _ => false
  | .IfExp _ _ _ _ => false
  | .Compare _ _ _ _ => false
  | _ => true
theorem star_of {e : Expr} (h : noStar e = true) (rest : List Expr) (env : Env) : starEach (e :: rest) env = (false, eval e env) :: starEach rest env := by
  cases e <;> first | rfl | (cases h; done)
theorem slice_of {e : Expr} (h : noSlice e = true) : PlainIx e := by
  intro o i
  cases e <;> first | rfl | (cases h; done)
theorem set_of {e : Expr} (h : noSet e = true) (env : Env) (x : Value) : foldedSetIterable e env x = pure x := by
  cases e <;> first | rfl | (cases h; done)
theorem mark_of {e : Expr} (h : noSet e = true) (op : CmpOp) : behindInMarks op e = false := by
  cases e <;> first | rfl | (cases h; done)
theorem comp_of {e : Expr} (h : noComp e = true) (t : Option Expr) (l : Nat) (env : Env) : swapsWith e t l env = pure false := by
  cases e <;> first | rfl | (cases h; done)
theorem base_of {e : Expr} (h : noBase e = true) (x : Str) (env : Env) (w : Sem Value) : attributeBase e x env w = w := by
  cases e with
  | Call f as ks p =>
    cases as with
    | nil => cases h
    | cons a as => cases f <;> rfl
  | _ => first | rfl | (cases h; done)
theorem plain_of {e : Expr} (h : plainT e = true) (env : Env) (whole : Sem Value) : isTrue e env whole = (do let v ← whole; standAt e.pos; holding [v] (truthy v)) := by
  cases e <;> first | rfl | (cases h; done)
section
variable {X : Cx} {c : Rc} {call : Nat → List PV → PH → R PV} {n : Nat} {rec : CE → PSt → PH → R PV} {a b d e : Expr} {ca cb cd ce : CE} {pos : Pos}
theorem pe_w {t t' : TE} (h : PE X e t) (k : ∀ σ H Q, t' σ H Q → t σ H Q) : PE X e t' := ⟨fun pins s σ H Q I q => h.run pins s σ H Q I (k σ H Q q)⟩
theorem pt_w {t t' : TT} (h : PT X e t) (k : ∀ σ H Q, t' σ H Q → t σ H Q) : PT X e t' := ⟨fun pins s σ H Q I q => h.run pins s σ H Q I (k σ H Q q)⟩
theorem pa_w {es : List Expr} {t t' : TA} (h : PA X es t) (k : ∀ σ H Q, t' σ H Q → t σ H Q) : PA X es t' := ⟨fun pos pins s σ H Q I q => h.run pos pins s σ H Q I (k σ H Q q)⟩
theorem s_stuck {ev : PSt → PH → R PV} (hs : ∀ st h, ev st h = .stuck) : PE X e (tE c ev) := ⟨fun pins s σ H Q I ⟨f, h, st, r, r', p⟩ => by rw [hs] at p; exact p.elim⟩
theorem s_var {i : Nat} {x : Str} (hN : X.N[i]? = some x) (hv : Vis X.env.scope x) (hd : (x == ("__debug__" : Str)) = false) (hcd : (x == ("__classdict__" : Str)) = false) : PE X (.Name x pos) (tE c (eVar rec i)) := by
  refine pe_w (pe_var hN hv hd hcd) fun σ H Q ⟨f, h, st, r, rs, p⟩ => ?_
  have p : Post c f h.n H (match st[i]? with | some (some v) => R.ok v h | _ => .stuck) (VQ c Q) := p
  split at p
  · rename_i v e
    obtain ⟨w, e1, r1⟩ := rs.2 _ _ e
    exact ⟨w, e1, p _ _ .refl r _ r1⟩
  · exact p.elim
theorem s_const {v : PV} {w : V} (hp : PE X e (tC w)) (hv : ∀ f n H, RV c f n H v w) : PE X e (tE c (eVal rec v)) := by
  refine pe_w hp fun σ H Q ⟨f, h, st, r, rs, p⟩ => ?_
  exact p _ _ .refl r _ (hv _ _ _)
theorem s_bin (hK : X.K = c.K) (op : Bop) (ha : PE X a (tE c (rec ca))) (hb : PE X b (tE c (rec cb))) : PE X (.BinOp a (opB op) b pos) (tE c (eBin rec op ca cb)) := by
  refine pe_w (pe_op (op_bin hK op) ha hb) fun σ H Q ⟨f, h, st, r, rs, p⟩ => ?_
  unfold eBin at p
  split at p
  · exact p.elim
  · rename_i v h1 e1
    refine tE_of e1 r rs fun f1 H1 x x1 r1 rs1 rv1 => ?_
    split at p
    · exact p.elim
    · rename_i w h2 e2
      exact tE_of e2 r1 rs1 fun f2 H2 y x2 r2 rs2 rv2 => ⟨f2, h2, v, w, r2, rv1.mono x2, rv2, (p.mono x1).mono x2⟩
theorem s_neg (ha : PE X a (tE c (rec ca))) : PE X (.UnaryOp .USub a pos) (tE c (eNeg rec ca)) := by
  refine pe_w (pe_un un_neg ha) fun σ H Q ⟨f, h, st, r, rs, p⟩ => ?_
  unfold eNeg at p
  split at p
  · rename_i i h1 e1
    refine tE_of e1 r rs fun f1 H1 x x1 r1 rs1 rv1 => ?_
    cases rv1
    exact ⟨_, rfl, p _ _ x1 r1 _ (.int _)⟩
  · exact p.elim
theorem s_cmp (hK : X.K = c.K) (hu : X.A.units + 65 < cLine) (op : Cop) (hm : behindInMarks (opC op) b = false) (ha : PE X a (tE c (rec ca))) (hb : PE X b (tE c (rec cb))) : PE X (.Compare a [opC op] [b] pos) (tE c (eCmp rec op ca cb)) := by
  refine pe_w (pe_cmpR (op_cmp hK hu op) ha hb hm) fun σ H Q ⟨f, h, st, r, rs, p⟩ => ?_
  unfold eCmp at p
  split at p
  · exact p.elim
  · rename_i v h1 e1
    refine tE_of e1 r rs fun f1 H1 x x1 r1 rs1 rv1 => ?_
    split at p
    · exact p.elim
    · rename_i w h2 e2
      refine tE_of e2 r1 rs1 fun f2 H2 y x2 r2 rs2 rv2 => ?_
      split at p
      · rename_i k e3
        exact ⟨f2, h2, v, w, k, r2, rv1.mono x2, rv2, e3, p _ _ (x1.trans x2) r2 _ (.bl _)⟩
      · exact p.elim
theorem s_chain (hK : X.K = c.K) (hu : X.A.units + 65 < cLine) (o1 o2 : Cop) (hm : lastMarks [opC o1, opC o2] [b, d] = false) (ha : PE X a (tE c (rec ca))) (hb : PE X b (tE c (rec cb))) (hd : PE X d (tE c (rec cd))) :
    PE X (.Compare a [opC o1, opC o2] [b, d] pos) (tE c (eChain rec o1 o2 ca cb cd)) := by
  refine pe_w (pe_chain (op_cmp hK hu o1) (op_cmp hK hu o2) ha hb hd hm) fun σ H Q ⟨f, h, st, r, rs, p⟩ => ?_
  unfold eChain at p
  split at p
  · exact p.elim
  · rename_i v h1 e1
    refine tE_of e1 r rs fun f1 H1 x x1 r1 rs1 rv1 => ?_
    split at p
    · exact p.elim
    · rename_i w h2 e2
      refine tE_of e2 r1 rs1 fun f2 H2 y x2 r2 rs2 rv2 => ?_
      split at p
      · rename_i e3
        refine ⟨f2, h2, v, w, true, r2, rv1.mono x2, rv2, e3, true, rfl, ?_⟩
        rw [if_pos rfl]
        split at p
        · exact p.elim
        · rename_i u h3 e4
          refine tE_of e4 r2 rs2 fun f3 H3 z x3 r3 rs3 rv3 => ?_
          split at p
          · rename_i k e5
            exact ⟨f3, h3, w, u, k, r3, rv2.mono x3, rv3, e5, p _ _ ((x1.trans x2).trans x3) r3 _ (.bl _)⟩
          · exact p.elim
      · rename_i e3
        refine ⟨f2, h2, v, w, false, r2, rv1.mono x2, rv2, e3, false, rfl, ?_⟩
        rw [if_neg Bool.false_ne_true]
        exact p _ _ (x1.trans x2) r2 _ (.bl _)
      · exact p.elim
theorem s_in (hK : X.K = c.K) (hu : X.A.units + 65 < cLine) (ng : Bool) (hm : behindInMarks (if ng then .NotIn else .In) b = false) (ha : PE X a (tE c (rec ca))) (hb : PE X b (tE c (rec cb))) : PE X (.Compare a [if ng then .NotIn else .In] [b] pos) (tE c (eIsin rec ng ca cb)) := by
  refine pe_w (pe_cmpR (op_inP hK hu ng) ha hb hm) fun σ H Q ⟨f, h, st, r, rs, p⟩ => ?_
  unfold eIsin at p
  split at p
  · exact p.elim
  · rename_i v h1 e1
    refine tE_of e1 r rs fun f1 H1 x x1 r1 rs1 rv1 => ?_
    split at p
    · exact p.elim
    · rename_i w h2 e2
      refine tE_of e2 r1 rs1 fun f2 H2 y x2 r2 rs2 rv2 => ?_
      split at p
      · rename_i k e3
        exact ⟨f2, h2, v, w, k, r2, rv1.mono x2, rv2, e3, p _ _ (x1.trans x2) r2 _ (.bl _)⟩
      · exact p.elim
theorem s_and (ha : PE X a (tE c (rec ca))) {rest : List Expr} (hb : PE X (.BoolOp .And (b :: rest) pos) (tE c (rec cb))) : PE X (.BoolOp .And (a :: b :: rest) pos) (tE c (eAnd rec ca cb)) := by
  refine pe_w (pe_and ha hb) fun σ H Q ⟨f, h, st, r, rs, p⟩ => ?_
  unfold eAnd at p
  split at p
  · rename_i h1 e1
    refine tE_of e1 r rs fun f1 H1 x x1 r1 rs1 rv1 => ?_
    cases rv1
    refine ⟨_, rfl, ?_⟩
    rw [if_pos rfl]
    exact ⟨f1, h1, st, r1, rs1, p.mono x1⟩
  · rename_i h1 e1
    refine tE_of e1 r rs fun f1 H1 x x1 r1 rs1 rv1 => ?_
    cases rv1
    refine ⟨_, rfl, ?_⟩
    rw [if_neg Bool.false_ne_true]
    exact p _ _ x1 r1 _ (.bl _)
  · exact p.elim
theorem s_or (ha : PE X a (tE c (rec ca))) {rest : List Expr} (hb : PE X (.BoolOp .Or (b :: rest) pos) (tE c (rec cb))) : PE X (.BoolOp .Or (a :: b :: rest) pos) (tE c (eOr rec ca cb)) := by
  refine pe_w (pe_or ha hb) fun σ H Q ⟨f, h, st, r, rs, p⟩ => ?_
  unfold eOr at p
  split at p
  · rename_i h1 e1
    refine tE_of e1 r rs fun f1 H1 x x1 r1 rs1 rv1 => ?_
    cases rv1
    refine ⟨_, rfl, ?_⟩
    rw [if_pos rfl]
    exact p _ _ x1 r1 _ (.bl _)
  · rename_i h1 e1
    refine tE_of e1 r rs fun f1 H1 x x1 r1 rs1 rv1 => ?_
    cases rv1
    refine ⟨_, rfl, ?_⟩
    rw [if_neg Bool.false_ne_true]
    exact ⟨f1, h1, st, r1, rs1, p.mono x1⟩
  · exact p.elim
theorem s_not (ha : PE X a (tE c (rec ca))) : PE X (.UnaryOp .Not a pos) (tE c (eNot rec ca)) := by
  refine pe_w (pe_not ha) fun σ H Q ⟨f, h, st, r, rs, p⟩ => ?_
  unfold eNot at p
  split at p
  · rename_i k h1 e1
    refine tE_of e1 r rs fun f1 H1 x x1 r1 rs1 rv1 => ?_
    cases rv1
    exact ⟨_, rfl, p _ _ x1 r1 _ (.bl _)⟩
  · exact p.elim
theorem s_ite {t : Expr} {bt : CB} (ht : PT X t (tB' c (evB rec bt))) (ha : PE X a (tE c (rec ca))) (hb : PE X b (tE c (rec cb))) : PE X (.IfExp t a b pos) (tE c (eIte rec bt ca cb)) := by
  refine pe_w (pe_ifExp ht ha hb) fun σ H Q ⟨f, h, st, r, rs, p⟩ => ?_
  unfold eIte at p
  split at p
  · exact p.elim
  · rename_i h1 e1
    refine tB_of e1 r rs fun f1 H1 x1 r1 rs1 => ?_
    rw [if_pos rfl]
    exact ⟨f1, h1, st, r1, rs1, p.mono x1⟩
  · rename_i h1 e1
    refine tB_of e1 r rs fun f1 H1 x1 r1 rs1 => ?_
    rw [if_neg Bool.false_ne_true]
    exact ⟨f1, h1, st, r1, rs1, p.mono x1⟩
/-! ### tests -/
theorem b_val (hK : X.K = c.K) (he : plainT e = true) (h1 : PE X e (tE c (rec ce))) : PT X e (tB' c (evB rec (.val ce))) := by
  refine pt_w (pt_truth h1 (fun whole => plain_of he X.env whole)) fun σ H Q ⟨f, h, st, r, rs, p⟩ => ?_
  unfold evB at p
  split at p
  · exact p.elim
  · rename_i v h2 e1
    refine tE_of e1 r rs fun f1 H1 x x1 r1 rs1 rv1 => ?_
    cases q : truth v h2 with
    | none => rw [q] at p; exact p.elim
    | some k =>
      rw [q] at p
      refine ⟨k, ?_, p _ _ x1 r1⟩
      unfold truth at q
      split at q
      · cases q; cases rv1; rfl
      · cases q; cases rv1; rfl
      · cases q; cases rv1; rfl
      · cases q
        cases rv1 with
        | tup a1 a2 => exact .inr (.inl ⟨_, SqT.of a1, by rw [isEmpty_at a2]⟩)
      · rename_i i
        have key : ∀ xs, seqL (.ref i) h2 = some xs → k = !xs.isEmpty → TruV X.K x H1 k := fun xs e2 e3 => by
          obtain ⟨a, vs, rfl, hs, rv⟩ := seqL_at r1 rv1 e2
          rw [← hK] at hs
          exact .inl ⟨vs, hs, by rw [e3, isEmpty_at rv]⟩
        split at q
        · rename_i xs e2
          cases q
          exact key xs (by unfold seqL; simp only [e2]) rfl
        · rename_i xs e2
          cases q
          exact key xs (by unfold seqL; simp only [e2]) rfl
        · cases q
      · cases q
end
end Pyx

set_option Elab.async false
set_option linter.all false
set_option maxRecDepth 100000
set_option maxHeartbeats 4000000
/-! Pyx: tests, argument lists, displays, calls, subscripts. -/
namespace Pyx
open PySem PySem.Spec PyProof.Rows L2
section
variable {X : Cx} {c : Rc} {call : Nat → List PV → PH → R PV} {n : Nat} {rec : CE → PSt → PH → R PV} {a b d e : Expr} {ca cb cd ce : CE} {pos : Pos}
/-! ### tests -/
theorem b_bl {t : TE} (h : PT X e (tTest t)) (rd : ∀ σ H Q, tE c (rec ce) σ H Q → t σ H Q) : PT X e (tB' c (evB rec (.bl ce))) := by
  refine pt_w h fun σ H Q ⟨f, h, st, r, rs, p⟩ => rd σ H _ ⟨f, h, st, r, rs, ?_⟩
  unfold evB at p
  split at p
  · rename_i k h1 e1
    rw [e1]
    intro f1 H1 x1 r1 w rw1
    cases rw1
    exact ⟨k, rfl, p _ _ x1 r1⟩
  · exact p.elim
theorem rd_cmp (op : Cop) : ∀ σ H Q, tE c (eCmp rec op ca cb) σ H Q → tOp (rCmp c op) (tE c (rec ca)) (tE c (rec cb)) σ H Q := fun σ H Q ⟨f, h, st, r, rs, p⟩ => by
  unfold eCmp at p
  split at p
  · exact p.elim
  · rename_i v h1 e1
    refine tE_of e1 r rs fun f1 H1 x x1 r1 rs1 rv1 => ?_
    split at p
    · exact p.elim
    · rename_i w h2 e2
      refine tE_of e2 r1 rs1 fun f2 H2 y x2 r2 rs2 rv2 => ?_
      split at p
      · rename_i k e3
        exact ⟨f2, h2, v, w, k, r2, rv1.mono x2, rv2, e3, p _ _ (x1.trans x2) r2 _ (.bl _)⟩
      · exact p.elim
theorem rd_in (ng : Bool) : ∀ σ H Q, tE c (eIsin rec ng ca cb) σ H Q → tOp (rInP c ng) (tE c (rec ca)) (tE c (rec cb)) σ H Q := fun σ H Q ⟨f, h, st, r, rs, p⟩ => by
  unfold eIsin at p
  split at p
  · exact p.elim
  · rename_i v h1 e1
    refine tE_of e1 r rs fun f1 H1 x x1 r1 rs1 rv1 => ?_
    split at p
    · exact p.elim
    · rename_i w h2 e2
      refine tE_of e2 r1 rs1 fun f2 H2 y x2 r2 rs2 rv2 => ?_
      split at p
      · rename_i k e3
        exact ⟨f2, h2, v, w, k, r2, rv1.mono x2, rv2, e3, p _ _ (x1.trans x2) r2 _ (.bl _)⟩
      · exact p.elim
theorem rd_chain (o1 o2 : Cop) : ∀ σ H Q, tE c (eChain rec o1 o2 ca cb cd) σ H Q → tChain (rCmp c o1) (rCmp c o2) (tE c (rec ca)) (tE c (rec cb)) (tE c (rec cd)) σ H Q := fun σ H Q ⟨f, h, st, r, rs, p⟩ => by
  unfold eChain at p
  split at p
  · exact p.elim
  · rename_i v h1 e1
    refine tE_of e1 r rs fun f1 H1 x x1 r1 rs1 rv1 => ?_
    split at p
    · exact p.elim
    · rename_i w h2 e2
      refine tE_of e2 r1 rs1 fun f2 H2 y x2 r2 rs2 rv2 => ?_
      split at p
      · rename_i e3
        refine ⟨f2, h2, v, w, true, r2, rv1.mono x2, rv2, e3, true, rfl, ?_⟩
        rw [if_pos rfl]
        split at p
        · exact p.elim
        · rename_i u h3 e4
          refine tE_of e4 r2 rs2 fun f3 H3 z x3 r3 rs3 rv3 => ?_
          split at p
          · rename_i k e5
            exact ⟨f3, h3, w, u, k, r3, rv2.mono x3, rv3, e5, p _ _ ((x1.trans x2).trans x3) r3 _ (.bl _)⟩
          · exact p.elim
      · rename_i e3
        refine ⟨f2, h2, v, w, false, r2, rv1.mono x2, rv2, e3, false, rfl, ?_⟩
        rw [if_neg Bool.false_ne_true]
        exact p _ _ (x1.trans x2) r2 _ (.bl _)
      · exact p.elim
theorem b_not {ba : CB} (ha : PT X a (tB' c (evB rec ba))) : PT X (.UnaryOp .Not a pos) (tB' c (evB rec (.not ba))) := by
  refine pt_w (pt_not ha) fun σ H Q ⟨f, h, st, r, rs, p⟩ => ?_
  unfold evB at p
  split at p
  · exact p.elim
  · rename_i k h1 e1
    exact tB_of e1 r rs fun f1 H1 x1 r1 rs1 => p _ _ x1 r1
theorem pw_w {t t' : TT} (h : PW X e t) (k : ∀ σ H Q, t' σ H Q → t σ H Q) : PW X e t' := ⟨fun whole pins s σ H Q I q => h.run whole pins s σ H Q I (k σ H Q q)⟩
theorem b_and {ba bb : CB} {rest : List Expr} (ha : PT X a (tB' c (evB rec ba))) (hb : PW X (.BoolOp .And (b :: rest) pos) (tB' c (evB rec bb))) : PW X (.BoolOp .And (a :: b :: rest) pos) (tB' c (evB rec (.and ba bb))) := by
  refine pw_w (pw_and ha hb) fun σ H Q ⟨f, h, st, r, rs, p⟩ => ?_
  unfold evB at p
  split at p
  · exact p.elim
  · rename_i h1 e1
    refine tB_of e1 r rs fun f1 H1 x1 r1 rs1 => ?_
    rw [if_pos rfl]
    exact ⟨f1, h1, st, r1, rs1, p.mono x1⟩
  · rename_i h1 e1
    refine tB_of e1 r rs fun f1 H1 x1 r1 rs1 => ?_
    rw [if_neg Bool.false_ne_true]
    exact p _ _ x1 r1
theorem b_or {ba bb : CB} {rest : List Expr} (ha : PT X a (tB' c (evB rec ba))) (hb : PW X (.BoolOp .Or (b :: rest) pos) (tB' c (evB rec bb))) : PW X (.BoolOp .Or (a :: b :: rest) pos) (tB' c (evB rec (.or ba bb))) := by
  refine pw_w (pw_or ha hb) fun σ H Q ⟨f, h, st, r, rs, p⟩ => ?_
  unfold evB at p
  split at p
  · exact p.elim
  · rename_i h1 e1
    refine tB_of e1 r rs fun f1 H1 x1 r1 rs1 => ?_
    rw [if_pos rfl]
    exact p _ _ x1 r1
  · rename_i h1 e1
    refine tB_of e1 r rs fun f1 H1 x1 r1 rs1 => ?_
    rw [if_neg Bool.false_ne_true]
    exact ⟨f1, h1, st, r1, rs1, p.mono x1⟩
/-! ### lists of expressions -/
inductive PEs (X : Cx) (c : Rc) (rec : CE → PSt → PH → R PV) : List Expr → List CE → Prop where
  | nil : PEs X c rec [] []
  | cons {e : Expr} {ce : CE} {es : List Expr} {ces : List CE} : noStar e = true → PE X e (tE c (rec ce)) → PEs X c rec es ces → PEs X c rec (e :: es) (ce :: ces)
theorem pa_of : ∀ {es : List Expr} {ces : List CE}, PEs X c rec es ces → PA X es (tA c (evL rec ces))
  | [], [], .nil => pa_w pa_nil fun σ H Q ⟨f, h, st, r, rs, p⟩ => p _ _ .refl r _ .nil
  | e :: es, ce :: ces, .cons hs he ht => by
    refine pa_w (pa_cons he (pa_of ht) (star_of hs es X.env)) fun σ H Q ⟨f, h, st, r, rs, p⟩ => ?_
    unfold evL at p
    split at p
    · exact p.elim
    · rename_i v h1 e1
      refine tE_of e1 r rs fun f1 H1 x x1 r1 rs1 rv1 => ?_
      split at p
      · exact p.elim
      · rename_i vs h2 e2
        exact tA_of e2 r1 rs1 fun f2 H2 ws x2 r2 rs2 rv2 => p _ _ (x1.trans x2) r2 _ (.cons (rv1.mono x2) rv2)
theorem plain_args : ∀ {es : List Expr} {ces : List CE}, PEs X c rec es ces → ∀ (p : Pos) (env : Env), (backTo p (starEach es env)).any (·.1) = false
  | [], [], .nil, _, _ => rfl
  | e :: es, ce :: ces, .cons hs he ht, p, env => by
    have ih := plain_args ht p env
    rw [star_of hs es env]
    show (false || (backTo p (starEach es env)).any (·.1)) = false
    rw [ih]
    rfl
theorem s_tup {es : List Expr} {ces : List CE} {k : Nat} (h : PEs X c rec es ces) : PE X (.Tuple es k pos) (tE c (eTup rec ces)) := by
  refine pe_w (pe_tup (pa_of h)) fun σ H Q ⟨f, h, st, r, rs, p⟩ => ?_
  unfold eTup at p
  split at p
  · exact p.elim
  · rename_i vs h1 e1
    refine tA_of e1 r rs fun f1 H1 ws x1 r1 rs1 rv1 => ?_
    obtain ⟨z, k1, _⟩ := okT_at r1 rv1 (p.mono x1)
    exact ⟨Nat.le_of_lt z, k1⟩
theorem s_lst {es : List Expr} {ces : List CE} (h : PEs X c rec es ces) : PE X (.List es pos) (tE c (eLst rec ces)) := by
  refine pe_w (pe_lst (pa_of h)) fun σ H Q ⟨f, h, st, r, rs, p⟩ => ?_
  unfold eLst at p
  split at p
  · exact p.elim
  · rename_i vs h1 e1
    refine tA_of e1 r rs fun f1 H1 ws x1 r1 rs1 rv1 => ?_
    obtain ⟨z, k1⟩ := okL_at r1 rv1 (p.mono x1)
    exact ⟨Nat.le_of_lt z, k1⟩
/-! ### calls -/
/-- what a def promises: the pure call's answer -/
def spF (c : Rc) (call : Nat → List PV → PH → R PV) (k ar : Nat) : Sp := fun vs H Q _ => vs.length = ar ∧ ∃ f h ps, Rel c f h H ∧ RVs c f h.n H ps vs ∧ Post c f h.n H (call k ps h) (VQ c Q)
theorem s_call {k ar lvl : Nat} {fd : FuncData} {ps : List Str} {x : Str} {es : List Expr} {ces : List CE} {p : Pos} (F : FnOk X.prog X.w X.K X.mg X.base CX0 lvl (c.F k) fd ps (spF c call k ar)) (hl : es.length = ar) (hr : Room lvl X.A) (hg : Gl X x) (hm : X.mg x = some (.ref (c.F k)))
    (hk : PySem.W.keepIn X.K (.ref (c.F k)) = true) (hb : Binds X.K fd ps []) (hdb : (x == ("__debug__" : Str)) = false) (h : PEs X c rec es ces) : PE X (.Call (.Name x p) es [] pos) (tE c (eCall call rec k ces)) := by
  have key : ∀ σ H Q, tE c (eCall call rec k ces) σ H Q → tCall (spF c call k ar) [] E0 (tA c (evL rec ces)) σ H Q := fun σ H Q ⟨f, h', st, r, rs, p⟩ => by
    unfold eCall at p
    split at p
    · exact p.elim
    · rename_i vs h1 e1
      refine tA_of e1 r rs fun f1 H1 ws x1 r1 rs1 rv1 => ?_
      refine ⟨?_, f1, h1, vs, r1, ?_, p.mono x1⟩
      · rw [List.append_nil, ← rv1.length, ← hl]
        have len : ∀ {es : List Expr} {ces : List CE} {vs : List PV} {h h1 : PH}, PEs X c rec es ces → evL rec ces st h = .ok vs h1 → vs.length = es.length := by
          intro es
          induction es with
          | nil =>
            intro ces vs h h1 q e
            cases q
            cases e
            rfl
          | cons e es ih =>
            intro ces vs h h1 q e
            cases q with
            | cons _ _ t =>
              unfold evL at e
              split at e
              · cases e
              · split at e
                · cases e
                · rename_i e2
                  cases e
                  rw [List.length_cons, List.length_cons, ih t e2]
        exact len h e1
      · rw [List.append_nil]; exact rv1
  cases h with
  | nil =>
    refine pe_w (pe_call0 F hr hg hm hk hb .nil pass0 hdb) fun σ H Q q => ?_
    obtain ⟨f, h', st, r, rs, p⟩ := key σ H Q q
    exact p _ _ .refl r _ .nil
  | cons hs he ht =>
    exact pe_w (pe_call F hr hg hm hk hb .nil pass0 (pa_of (.cons hs he ht)) hdb (star_of hs _ X.env) (plain_args ht _ X.env)) key
def biN : Bi → Str
  | .len => "len"
  | .min => "min"
  | .max => "max"
  | .sum => "sum"
  | .sorted => "sorted"
  | .abs => "abs"
  | .list => "list"
  | .tuple => "tuple"
  | .int => "int"
  | .set => "set"
theorem s_bi (hK : X.K = c.K) (hW : X.w = c.w) (hc : X.calm = true) {bi : Bi} {x : Str} {es : List Expr} {ces : List CE} {p : Pos} (hx : x = biN bi) (hg : Gl X x) (hm : X.mg x = none) (h : PEs X c rec es ces) (hne : es ≠ []) : PE X (.Call (.Name x p) es [] pos) (tE c (eBi rec bi ces)) := by
  have key : ∀ σ H Q, tE c (eBi rec bi ces) σ H Q → tCB (rBi c bi) (tA c (evL rec ces)) σ H Q := fun σ H Q ⟨f, h', st, r, rs, p⟩ => by
    unfold eBi at p
    split at p
    · exact p.elim
    · rename_i vs h1 e1
      exact tA_of e1 r rs fun f1 H1 ws x1 r1 rs1 rv1 => ⟨f1, h1, vs, r1, rv1, p.mono x1⟩
  cases h with
  | nil => exact absurd rfl hne
  | cons hs he ht =>
    have hA := pa_of (.cons hs he ht)
    have h2 := plain_args ht pos X.env
    subst hx
    refine pe_w ?_ key
    cases bi with
    | len => exact pe_callB (call_bi hK hW hc .len) hg hm PySem.boot_len hA (by decide) (by decide) (star_of hs _ X.env) h2
    | min => exact pe_callB (call_bi hK hW hc .min) hg hm boot_min hA (by decide) (by decide) (star_of hs _ X.env) h2
    | max => exact pe_callB (call_bi hK hW hc .max) hg hm boot_max hA (by decide) (by decide) (star_of hs _ X.env) h2
    | sum => exact pe_callB (call_bi hK hW hc .sum) hg hm boot_sum hA (by decide) (by decide) (star_of hs _ X.env) h2
    | sorted => exact pe_callB (call_bi hK hW hc .sorted) hg hm boot_sorted hA (by decide) (by decide) (star_of hs _ X.env) h2
    | abs => exact pe_callB (call_bi hK hW hc .abs) hg hm boot_abs hA (by decide) (by decide) (star_of hs _ X.env) h2
    | list => exact pe_callTy (call_bi hK hW hc .list) hg hm (by decide +kernel) hA (by decide) (by decide) (star_of hs _ X.env) h2
    | tuple => exact pe_callTy (call_bi hK hW hc .tuple) hg hm (by decide +kernel) hA (by decide) (by decide) (star_of hs _ X.env) h2
    | int => exact pe_callTy (call_bi hK hW hc .int) hg hm (by decide +kernel) hA (by decide) (by decide) (star_of hs _ X.env) h2
    | set => exact pe_callTy (call_bi hK hW hc .set) hg hm (by decide +kernel) hA (by decide) (by decide) (star_of hs _ X.env) h2
theorem pe_ty {t : Ty} {x : Str} {p : Pos} (hx : x = tyS t) (hg : Gl X x) (hm : X.mg x = none) : PE X (.Name x p) (tC (.ty (tyS t))) := by
  subst hx
  cases t <;> exact pe_bltn hg hm (by decide +kernel) rfl (by decide) (by decide)
theorem s_isi (hK : X.K = c.K) {t : Ty} {x : Str} {p p2 : Pos} (hs : noStar a = true) (ha : PE X a (tE c (rec ca))) (hx : x = tyS t) (hg : Gl X x) (hm : X.mg x = none) (hg2 : Gl X "isinstance") (hm2 : X.mg "isinstance" = none) :
    PE X (.Call (.Name "isinstance" p) [a, .Name x p2] [] pos) (tE c (eIsi rec ca t)) := by
  refine pe_w (pe_callB call_isi hg2 hm2 boot_isinstance (pa_cons ha (pa_cons (pe_ty (p := p2) hx hg hm) pa_nil rfl) (star_of hs _ X.env)) (by decide) (by decide) (star_of hs _ X.env) rfl) fun σ H Q ⟨f, h, st, r, rs, p⟩ => ?_
  unfold eIsi at p
  split at p
  · exact p.elim
  · rename_i v h1 e1
    refine tE_of e1 r rs fun f1 H1 x x1 r1 rs1 rv1 => ?_
    split at p
    · rename_i k e2
      obtain ⟨t1, t2⟩ := isTy_at r1 rv1 e2
      rw [← hK] at t1
      exact ⟨_, _, _, _, k, rfl, .ty _, t1, kit_ty t2, p _ _ x1 r1 _ (.bl _)⟩
    · exact p.elim
theorem s_isis (hK : X.K = c.K) {t u : Ty} {x y : Str} {p p2 p3 p4 : Pos} {k : Nat} (hs : noStar a = true) (ha : PE X a (tE c (rec ca))) (hx : x = tyS t) (hg : Gl X x) (hm : X.mg x = none) (hy : y = tyS u) (hgy : Gl X y) (hmy : X.mg y = none) (hg2 : Gl X "isinstance") (hm2 : X.mg "isinstance" = none) :
    PE X (.Call (.Name "isinstance" p) [a, .Tuple [.Name x p2, .Name y p3] k p4] [] pos) (tE c (eIsis rec ca t u)) := by
  refine pe_w (pe_callB call_isiT hg2 hm2 boot_isinstance (pa_cons ha (pa_cons (pe_tup (pa_cons (pe_ty (p := p2) hx hg hm) (pa_cons (pe_ty (p := p3) hy hgy hmy) pa_nil rfl) rfl)) pa_nil rfl) (star_of hs _ X.env)) (by decide) (by decide) (star_of hs _ X.env) rfl) fun σ H Q ⟨f, h, st, r, rs, p⟩ => ?_
  unfold eIsis at p
  split at p
  · exact p.elim
  · rename_i v h1 e1
    refine tE_of e1 r rs fun f1 H1 x x1 r1 rs1 rv1 => ?_
    refine ⟨(by show 2 ≤ sizeLine; rw [sizeLine_eq]; decide), fun tp htp => ?_⟩
    obtain ⟨r2, x2⟩ := r1.same (same_upd (o := .tup [.ty (tyS t), .ty (tyS u)]) htp)
    have fin : ∀ k : Bool, Post c f h.n H (.ok (.bl k) h1) (VQ c Q) → (∃ ty, TyX c.K H1 x (.type ty) ∧ PySem.W.kitAny X.K (.type ty) [.type (tyS t), .type (tyS u)] = some k) → rIsiT X.K [x, .ref tp] (upd H1 tp (.tup [.ty (tyS t), .ty (tyS u)])) Q := fun k p ⟨ty, t1, t2⟩ => by
      refine ⟨x, tp, _, .type ty, _, k, rfl, upd_same, .cons (.ty _) (.cons (.ty _) .nil), ?_, t2, p _ _ (x1.trans x2) r2 _ (.bl _)⟩
      rw [hK]
      have up : ∀ b o, H1 b = some o → upd H1 tp (.tup [.ty (tyS t), .ty (tyS u)]) b = some o := same_upd htp
      cases t1 with
      | base z =>
        refine .base ?_
        cases z with
        | non => exact .non
        | bl => exact .bl _
        | int => exact .int _
        | str => exact .str _
        | flt => exact .flt _
        | lst e => exact .lst (up _ _ e)
        | frz e => exact .frz (up _ _ e)
        | tup e => exact .tup (up _ _ e)
        | dK e => exact .dK (up _ _ e)
        | dT e => exact .dT (up _ _ e)
      | byt => exact .byt _
      | set e => exact .set (up _ _ e)
      | kList e q => exact .kList e q
      | kTuple e q => exact .kTuple e q
      | kDict e q => exact .kDict e q
      | fTuple e => exact .fTuple (up _ _ e)
      | fDict e => exact .fDict (up _ _ e)
    split at p
    · rename_i e2
      obtain ⟨t1, t2⟩ := isTy_at r1 rv1 e2
      exact fin true p ⟨_, t1, kitAny_cons (kit_ty t2) (fun z => Bool.noConfusion z) fun _ => rfl⟩
    · rename_i e2
      obtain ⟨t1, t2⟩ := isTy_at r1 rv1 e2
      split at p
      · rename_i k e3
        obtain ⟨_, t3⟩ := isTy_at r1 rv1 e3
        exact fin k p ⟨_, t1, kitAny_cons (kit_ty t2) (fun _ => kitAny_cons (kit_ty t3) (fun z => by rw [z]; exact kitAny_nil) fun z => z) fun z => Bool.noConfusion z⟩
      · exact p.elim
    · exact p.elim
/-! ### subscripts, methods -/
theorem s_ix (hK : X.K = c.K) (hu : X.A.units + 65 < cLine) (hs : noSlice b = true) (ha : PE X a (tE c (rec ca))) (hb : PE X b (tE c (rec cb))) : PE X (.Subscript a b pos) (tE c (eIx rec ca cb)) := by
  refine pe_w (pe_ix (ix_at hK hu) ha hb (slice_of hs)) fun σ H Q ⟨f, h, st, r, rs, p⟩ => ?_
  unfold eIx at p
  split at p
  · exact p.elim
  · rename_i v h1 e1
    refine tE_of e1 r rs fun f1 H1 x x1 r1 rs1 rv1 => ?_
    split at p
    · exact p.elim
    · rename_i w h2 e2
      refine tE_of e2 r1 rs1 fun f2 H2 y x2 r2 rs2 rv2 => ?_
      cases e3 : ixP v w h2 with
      | none => rw [e3] at p; exact p.elim
      | some u =>
        rw [e3] at p
        exact ⟨f2, h2, v, w, u, r2, rv1.mono x2, rv2, e3, fun z rz => p _ _ (x1.trans x2) r2 z rz⟩
def tO' (c : Rc) (ev : PSt → PH → R (Option Int)) : TO := fun σ H Q => ∃ f h st, Rel c f h H ∧ RSt c f h.n H st σ ∧ Post c f h.n H (ev st h) (fun _ _ H' o => Q o H')
theorem po_w {o : Option Expr} {t t' : TO} (h : L2.PO X o t) (k : ∀ σ H Q, t' σ H Q → t σ H Q) : L2.PO X o t' := ⟨fun pins s σ H Q I q => h.run pins s σ H Q I (k σ H Q q)⟩
theorem po_no : L2.PO X none (tO' c (evO rec none)) := po_w po_none fun σ H Q ⟨f, h, st, r, rs, p⟩ => p _ _ .refl r
theorem po_so (ha : PE X a (tE c (rec ca))) : L2.PO X (some a) (tO' c (evO rec (some ca))) := by
  refine po_w (po_some ha) fun σ H Q ⟨f, h, st, r, rs, p⟩ => ?_
  have p : Post c f h.n H (match rec ca st h with | .ok (.int i) h1 => R.ok (some i) h1 | _ => .stuck) (fun _ _ H' o => Q o H') := p
  split at p
  · rename_i i h1 e1
    refine tE_of e1 r rs fun f1 H1 x x1 r1 rs1 rv1 => ?_
    cases rv1
    exact ⟨_, rfl, p _ _ x1 r1⟩
  · exact p.elim
theorem tO_of {f : Nat → Addr} {h h1 : PH} {H : Hp} {st : PSt} {σ : L2.St} {ev : PSt → PH → R (Option Int)} {x : Option Int} {Q : Option Int → Hp → Prop} (hr : ev st h = .ok x h1) (r : Rel c f h H) (s : RSt c f h.n H st σ)
    (k : ∀ f1 H1, Ext f h.n H f1 h1.n H1 → Rel c f1 h1 H1 → RSt c f1 h1.n H1 st σ → Q x H1) : tO' c ev σ H Q :=
  ⟨f, h, st, r, s, by rw [hr]; exact fun f1 H1 e1 R1 => k f1 H1 e1 R1 (s.mono e1)⟩
theorem s_sl (hK : X.K = c.K) {lo hi : Option Expr} {cl ch : Option CE} {p2 : Pos} (ha : PE X a (tE c (rec ca))) (hl : L2.PO X lo (tO' c (evO rec cl))) (hh : L2.PO X hi (tO' c (evO rec ch))) : PE X (.Subscript a (.Slice lo hi none p2) pos) (tE c (eSl rec ca cl ch)) := by
  refine pe_w (pe_slice (sl_at hK) ha hl hh) fun σ H Q ⟨f, h, st, r, rs, p⟩ => ?_
  unfold eSl at p
  split at p
  · exact p.elim
  · rename_i v h1 e1
    refine tE_of e1 r rs fun f1 H1 x x1 r1 rs1 rv1 => ?_
    split at p
    · exact p.elim
    · rename_i l h2 e2
      refine tO_of e2 r1 rs1 fun f2 H2 x2 r2 rs2 => ?_
      split at p
      · exact p.elim
      · rename_i u h3 e3
        exact tO_of e3 r2 rs2 fun f3 H3 x3 r3 rs3 => ⟨f3, h3, v, r3, (rv1.mono x2).mono x3, ((p.mono x1).mono x2).mono x3⟩
theorem list_ty {f : Nat → Addr} {h : PH} {H : Hp} (r : Rel c f h H) {x : PV} {v : V} {xs : List PV} (rv : RV c f h.n H x v) (e : seqL x h = some xs) : tyV c.K "list" v H := by
  obtain ⟨a, vs, rfl, hs, _⟩ := seqL_at r rv e
  exact .inl ⟨rfl, vs, hs⟩
theorem seqL_of_lstAt {x : PV} {h : PH} {i : Nat} {xs : List PV} (e : lstAt x h = some (i, xs)) : seqL x h = some xs := by
  unfold lstAt at e
  unfold seqL
  split at e
  · rename_i j
    split at e
    · rename_i ys q
      cases e
      simp only [q]
    · cases e
  · cases e
/-- a list's method needs a list -/
theorem mtP_list {m : Mt} {x : PV} {ps : List PV} {h : PH} {f : Nat → Addr} {H : Hp} {Q : (Nat → Addr) → PH → Hp → PV → Prop} {k : Nat} (p : Post c f k H (mtP m x ps h) Q) : ∃ xs, seqL x h = some xs := by
  cases m with
  | append =>
    have p : Post c f k H (appP x ps h) Q := p
    unfold appP at p
    split at p
    · split at p
      · rename_i e; exact ⟨_, seqL_of_lstAt e⟩
      · exact p.elim
    · exact p.elim
  | pop =>
    have p : Post c f k H (popP x ps h) Q := p
    unfold popP at p
    split at p
    · split at p
      · rename_i e; exact ⟨_, seqL_of_lstAt e⟩
      · exact p.elim
    · exact p.elim
  | count =>
    have p : Post c f k H (cntP x ps h) Q := p
    unfold cntP at p
    split at p
    · split at p
      · rename_i is e
        unfold intsOfL at e
        split at e
        · rename_i xs q; exact ⟨_, q⟩
        · cases e
      · exact p.elim
    · exact p.elim
end
end Pyx

set_option Elab.async false
set_option linter.all false
set_option maxRecDepth 100000
set_option maxHeartbeats 4000000
/-! Pyx: methods, what is walked, targets. -/
namespace Pyx
open PySem PySem.Spec PyProof.Rows L2
section
variable {X : Cx} {c : Rc} {call : Nat → List PV → PH → R PV} {n : Nat} {rec : CE → PSt → PH → R PV} {a b d e : Expr} {ca cb cd ce : CE} {pos : Pos}
def mtN : Mt → Str
  | .append => "append"
  | .pop => "pop"
  | .count => "count"
theorem rd_mt {m : Mt} {co : CE} {ces : List CE} {o : Expr} {t : TA} (hK : X.K = c.K) (ht : ∀ σ H Q, tA c (evL rec ces) σ H Q → t σ H Q) : ∀ σ H Q, tE c (eMt rec m co ces) σ H Q → tBM X.K "list" (rMt c m) (tE c (rec co)) t σ H Q := fun σ H Q ⟨f, h, st, r, rs, p⟩ => by
  unfold eMt at p
  split at p
  · exact p.elim
  · rename_i v h1 e1
    split at p
    · exact p.elim
    · rename_i xs e2
      refine tE_of e1 r rs fun f1 H1 x x1 r1 rs1 rv1 => ⟨by rw [hK]; exact list_ty r1 rv1 e2, ?_⟩
      split at p
      · exact p.elim
      · rename_i vs h2 e3
        exact ht _ _ _ (tA_of e3 r1 rs1 fun f2 H2 ws x2 r2 rs2 rv2 => ⟨f2, h2, v, vs, r2, rv1.mono x2, rv2, (p.mono x1).mono x2⟩)
theorem s_append (hK : X.K = c.K) {o : Expr} {co : CE} {apos cpos : Pos} (hb : noBase o = true) (hs : noStar e = true) (hline : (apos.endLine == cpos.line) = true) (ho : PE X o (tE c (rec co))) (he : PE X e (tE c (rec ce))) :
    PE X (.Call (.Attribute o "append" apos) [e] [] cpos) (tE c (eMt rec .append co [ce])) :=
  pe_w (pe_bm PySem.F.plainAttrs_list PySem.F.slot_list_append PySem.F.type_list_append mt_app ho (pa_of (.cons hs he .nil)) (base_of hb _ _ _) (by rw [star_of hs]; rfl) hline (star_of hs _ _) rfl) (rd_mt (o := o) hK fun _ _ _ h => h)
theorem s_count (hK : X.K = c.K) {o : Expr} {co : CE} {apos cpos : Pos} (hb : noBase o = true) (hs : noStar e = true) (hline : (apos.endLine == cpos.line) = true) (ho : PE X o (tE c (rec co))) (he : PE X e (tE c (rec ce))) :
    PE X (.Call (.Attribute o "count" apos) [e] [] cpos) (tE c (eMt rec .count co [ce])) :=
  pe_w (pe_bm PySem.F.plainAttrs_list PySem.F.slot_list_count PySem.F.type_list_count (mt_cnt hK) ho (pa_of (.cons hs he .nil)) (base_of hb _ _ _) (by rw [star_of hs]; rfl) hline (star_of hs _ _) rfl) (rd_mt (o := o) hK fun _ _ _ h => h)
theorem s_pop (hK : X.K = c.K) {o : Expr} {co : CE} {apos cpos : Pos} (hb : noBase o = true) (hline : (apos.endLine == cpos.line) = true) (ho : PE X o (tE c (rec co))) :
    PE X (.Call (.Attribute o "pop" apos) [] [] cpos) (tE c (eMt rec .pop co [])) := by
  refine pe_w (pe_bm0 PySem.F.plainAttrs_list PySem.F.slot_list_pop PySem.F.type_list_pop (mt_popP (c := c)) ho (base_of hb _ _ _) hline) fun σ H Q q => ?_
  have z := rd_mt (o := o) (t := tNil) hK (fun σ H Q ⟨f, h, st, r, rs, p⟩ => p _ _ .refl r _ .nil) σ H Q q
  exact z
/-! ### what is walked -/
/-- a tuple's items in new pairs with their numbers -/
def IteT (K : PySem.W.Frag) (a : Addr) : It :=
  ⟨fun i H => ∃ (xs : List V) (x : V), SqT K H a xs ∧ xs[i]? = some x, fun i H v H' => ∃ T x, v = .ref T ∧ H T = none ∧ H' = upd H T (.tup [.int (i : Nat), x]) ∧ ∀ xs, SqT K H a xs → xs[i]? = some x, fun i H => ∃ xs : List V, SqT K H a xs ∧ xs.length ≤ i⟩
inductive JOk (c : Rc) (f : Nat → Addr) (n : Nat) (H : Hp) : IV → It → Prop where
  | lst {i : Nat} : i < n → JOk c f n H (.lst i) (Itl c.K (f i))
  | tup {xs : List PV} {vs : List V} {a : Addr} : H a = some (.tup vs) → RVs c f n H xs vs → JOk c f n H (.tup xs) (Itt c.K a)
  | rng (lo : Int) (k : Nat) : JOk c f n H (.rng lo k) (Itr lo k)
  | enumL {i : Nat} : i < n → JOk c f n H (.enumL i) (Ite c.K (f i))
  | enumT {xs : List PV} {vs : List V} {a : Addr} : H a = some (.tup vs) → RVs c f n H xs vs → JOk c f n H (.enumT xs) (IteT c.K a)
  | zipL {i j : Nat} : i < n → j < n → JOk c f n H (.zipL i j) (Itz c.K (f i) (f j))
  | zipT {xs ys : List PV} {vs ws : List V} {a b : Addr} : H a = some (.tup vs) → RVs c f n H xs vs → H b = some (.tup ws) → RVs c f n H ys ws → JOk c f n H (.zipT xs ys) (RZ.ItzT c.K a b)
theorem JOk.mono {f f' : Nat → Addr} {k k' : Nat} {H H' : Hp} {iv : IV} {J : It} (e : Ext f k H f' k' H') : JOk c f k H iv J → JOk c f' k' H' iv J
  | .lst h => by rw [← e.eq _ h]; exact .lst (Nat.lt_of_lt_of_le h e.le)
  | .tup h r => .tup (e.tup _ _ h) (r.mono e)
  | .rng lo k => .rng lo k
  | .enumL h => by rw [← e.eq _ h]; exact .enumL (Nat.lt_of_lt_of_le h e.le)
  | .enumT h r => .enumT (e.tup _ _ h) (r.mono e)
  | .zipL h g => by rw [← e.eq _ h, ← e.eq _ g]; exact .zipL (Nat.lt_of_lt_of_le h e.le) (Nat.lt_of_lt_of_le g e.le)
  | .zipT h r g q => .zipT (e.tup _ _ h) (r.mono e) (e.tup _ _ g) (q.mono e)
theorem sqL_inj {K : PySem.W.Frag} {H : Hp} {a : Addr} {xs ys : List V} : True := trivial
theorem seqL_ref {f : Nat → Addr} {h : PH} {H : Hp} {i : Nat} {xs : List PV} (r : Rel c f h H) (hi : i < h.n) (e : seqL (.ref i) h = some xs) : ∃ vs, SqL c.K H (f i) vs ∧ RVs c f h.n H xs vs := by
  obtain ⟨a, vs, e1, h1, h2⟩ := seqL_at r (.ref hi) e
  cases e1
  exact ⟨vs, h1, h2⟩
theorem get_none {f : Nat → Addr} {n : Nat} {H : Hp} {xs : List PV} {vs : List V} (r : RVs c f n H xs vs) {k : Nat} (e : xs[k]? = none) : vs.length ≤ k := by
  rw [← r.length]
  exact List.getElem?_eq_none_iff.mp e
theorem ivN_stop {f : Nat → Addr} {h : PH} {H : Hp} {iv : IV} {J : It} {k : Nat} (r : Rel c f h H) (j : JOk c f h.n H iv J) (e : ivN iv k h = .stop) : J.stop k H := by
  unfold ivN at e
  cases j with
  | lst hi =>
    dsimp only at e
    split at e
    · rename_i xs q
      obtain ⟨vs, h1, h2⟩ := seqL_ref r hi q
      unfold pick at e
      split at e
      · cases e
      · rename_i q2
        exact ⟨vs, h1, get_none h2 q2⟩
    · cases e
  | tup h1 h2 =>
    dsimp only at e
    unfold pick at e
    split at e
    · cases e
    · rename_i q2
      exact ⟨_, SqT.of h1, get_none h2 q2⟩
  | rng lo m =>
    dsimp only at e
    split at e
    · cases e
    · rename_i q
      show m ≤ k
      have z : ¬ k < m := fun z => by rw [show Nat.blt k m = true from Nat.ble_eq_true_of_le z] at q; cases q
      omega
  | enumL hi =>
    dsimp only at e
    split at e
    · rename_i xs q
      obtain ⟨vs, h1, h2⟩ := seqL_ref r hi q
      split at e
      · cases e
      · rename_i q2
        exact ⟨vs, h1, get_none h2 q2⟩
    · cases e
  | enumT h1 h2 =>
    dsimp only at e
    split at e
    · cases e
    · rename_i q2
      exact ⟨_, SqT.of h1, get_none h2 q2⟩
  | zipL hi hj =>
    dsimp only at e
    split at e
    · rename_i xs ys q1 q2
      obtain ⟨vs, h1, h2⟩ := seqL_ref r hi q1
      obtain ⟨ws, h3, h4⟩ := seqL_ref r hj q2
      refine ⟨vs, ws, h1, h3, ?_⟩
      split at e
      · cases e
      · rename_i no
        cases z1 : xs[k]? with
        | none => exact .inl (get_none h2 z1)
        | some x =>
          cases z2 : ys[k]? with
          | none => exact .inr (get_none h4 z2)
          | some y => exact absurd z2 (no x y z1)
    · cases e
  | zipT h1 h2 h3 h4 =>
    dsimp only at e
    refine ⟨_, _, SqT.of h1, SqT.of h3, ?_⟩
    rename_i xs ys vs ws a b
    split at e
    · cases e
    · rename_i no
      cases z1 : xs[k]? with
      | none => exact .inl (get_none h2 z1)
      | some x =>
        cases z2 : ys[k]? with
        | none => exact .inr (get_none h4 z2)
        | some y => exact absurd z2 (no x y z1)
/-- what an iterator yields -/
def Yields (c : Rc) (f : Nat → Addr) (h : PH) (H : Hp) (J : It) (k : Nat) (v : PV) : Prop :=
  J.go k H ∧ ∀ x H', J.yld k H x H' → Rel c f h H' ∧ Ext f h.n H f h.n H' ∧ RV c f h.n H' v x
theorem pair_new {f : Nat → Addr} {h : PH} {H : Hp} {x y : PV} {v w : V} {T : Addr} (r : Rel c f h H) (hT : H T = none) (r1 : RV c f h.n H x v) (r2 : RV c f h.n H y w) :
    Rel c f h (upd H T (.tup [v, w])) ∧ Ext f h.n H f h.n (upd H T (.tup [v, w])) ∧ RV c f h.n (upd H T (.tup [v, w])) (.tup [x, y]) (.ref T) := by
  obtain ⟨r3, e3⟩ := r.same (same_upd (o := .tup [v, w]) hT)
  exact ⟨r3, e3, .tup upd_same (.cons (r1.mono e3) (.cons (r2.mono e3) .nil))⟩
theorem ivN_item {f : Nat → Addr} {h : PH} {H : Hp} {iv : IV} {J : It} {k : Nat} {v : PV} (r : Rel c f h H) (j : JOk c f h.n H iv J) (e : ivN iv k h = .item v) : Yields c f h H J k v := by
  unfold ivN at e
  cases j with
  | lst hi =>
    dsimp only at e
    split at e
    · rename_i xs q
      obtain ⟨vs, h1, h2⟩ := seqL_ref r hi q
      unfold pick at e
      split at e
      · rename_i q2
        cases e
        obtain ⟨w, e1, r1⟩ := h2.get _ _ q2
        refine ⟨⟨vs, w, h1, e1⟩, fun x H' ⟨z1, z2⟩ => ?_⟩
        subst z1
        have z3 := z2 vs h1
        rw [e1] at z3
        cases z3
        exact ⟨r, .refl, r1⟩
      · cases e
    · cases e
  | tup h1 h2 =>
    dsimp only at e
    unfold pick at e
    split at e
    · rename_i q2
      cases e
      obtain ⟨w, e1, r1⟩ := h2.get _ _ q2
      refine ⟨⟨_, w, SqT.of h1, e1⟩, fun x H' ⟨z1, z2⟩ => ?_⟩
      subst z1
      have z3 := z2 _ (SqT.of h1)
      rw [e1] at z3
      cases z3
      exact ⟨r, .refl, r1⟩
    · cases e
  | rng lo m =>
    dsimp only at e
    split at e
    · rename_i q
      cases e
      refine ⟨Nat.le_of_ble_eq_true q, fun x H' ⟨z1, z2⟩ => ?_⟩
      subst z1
      subst z2
      exact ⟨r, .refl, .int _⟩
    · cases e
  | enumL hi =>
    dsimp only at e
    split at e
    · rename_i xs q
      obtain ⟨vs, h1, h2⟩ := seqL_ref r hi q
      split at e
      · rename_i q2
        cases e
        obtain ⟨w, e1, r1⟩ := h2.get _ _ q2
        refine ⟨⟨vs, w, h1, e1⟩, fun x H' ⟨T, y, z1, z2, z3, z4⟩ => ?_⟩
        have z5 := z4 vs h1
        rw [e1] at z5
        cases z5
        subst z1
        subst z3
        exact pair_new r z2 (.int _) r1
      · cases e
    · cases e
  | enumT h1 h2 =>
    dsimp only at e
    split at e
    · rename_i q2
      cases e
      obtain ⟨w, e1, r1⟩ := h2.get _ _ q2
      refine ⟨⟨_, w, SqT.of h1, e1⟩, fun x H' ⟨T, y, z1, z2, z3, z4⟩ => ?_⟩
      have z5 := z4 _ (SqT.of h1)
      rw [e1] at z5
      cases z5
      subst z1
      subst z3
      exact pair_new r z2 (.int _) r1
    · cases e
  | zipL hi hj =>
    dsimp only at e
    split at e
    · rename_i xs ys q1 q2
      obtain ⟨vs, h1, h2⟩ := seqL_ref r hi q1
      obtain ⟨ws, h3, h4⟩ := seqL_ref r hj q2
      split at e
      · rename_i x y z1 z2
        cases e
        obtain ⟨v, e1, r1⟩ := h2.get _ _ z1
        obtain ⟨w, e2, r2⟩ := h4.get _ _ z2
        refine ⟨⟨vs, ws, v, w, h1, h3, e1, e2⟩, fun x H' ⟨T, x', y', g1, g2, g3, g4, g5⟩ => ?_⟩
        have g6 := g4 vs h1
        have g7 := g5 ws h3
        rw [e1] at g6
        rw [e2] at g7
        cases g6
        cases g7
        subst g1
        subst g3
        exact pair_new r g2 r1 r2
      · cases e
    · cases e
  | zipT h1 h2 h3 h4 =>
    dsimp only at e
    split at e
    · rename_i x y z1 z2
      cases e
      obtain ⟨v, e1, r1⟩ := h2.get _ _ z1
      obtain ⟨w, e2, r2⟩ := h4.get _ _ z2
      refine ⟨⟨_, _, v, w, SqT.of h1, SqT.of h3, e1, e2⟩, fun x H' ⟨T, x', y', g1, g2, g3, g4, g5⟩ => ?_⟩
      have g6 := g4 _ (SqT.of h1)
      have g7 := g5 _ (SqT.of h3)
      rw [e1] at g6
      rw [e2] at g7
      cases g6
      cases g7
      subst g1
      subst g3
      exact pair_new r g2 r1 r2
    · cases e
/-- the reading of what is walked -/
def tI (c : Rc) (ev : PSt → PH → R IV) : TI := fun σ H R' => ∃ f h st, Rel c f h H ∧ RSt c f h.n H st σ ∧ Post c f h.n H (ev st h) (fun f' h' H' iv => ∀ J, JOk c f' h'.n H' iv J → R' J H')
theorem sqL_of {f : Nat → Addr} {h : PH} {H : Hp} {x : PV} {v : V} {xs : List PV} (r : Rel c f h H) (rv : RV c f h.n H x v) (e : seqL x h = some xs) : ∃ i vs, x = .ref i ∧ i < h.n ∧ v = .ref (f i) ∧ SqL c.K H (f i) vs := by
  cases rv with
  | ref hi =>
    obtain ⟨vs, h1, _⟩ := seqL_ref r hi e
    exact ⟨_, vs, rfl, hi, rfl, h1⟩
  | _ => cases e
theorem i_over {tg : Expr} (hK : X.K = c.K) (he : PE X e (tE c (rec ce))) : PI X tg e (tI c (evI rec (.over ce))) := by
  refine ⟨fun pins s σ H R' I ⟨f, h, st, r, rs, p⟩ => ?_⟩
  unfold evI at p
  dsimp only at p
  split at p
  · rename_i i h1 e1
    split at p
    · rename_i xs e2
      refine (pi_list he).run pins s σ H R' I (tE_of e1 r rs fun f1 H1 x x1 r1 rs1 rv1 => ?_)
      cases rv1 with
      | ref hi =>
        obtain ⟨vs, h2, _⟩ := seqL_ref r1 hi e2
        rw [hK]
        exact ⟨_, rfl, ⟨vs, h2⟩, p _ _ x1 r1 _ (.lst hi)⟩
    · exact p.elim
  · rename_i xs h1 e1
    refine (pi_tup he).run pins s σ H R' I (tE_of e1 r rs fun f1 H1 x x1 r1 rs1 rv1 => ?_)
    cases rv1 with
    | tup a1 a2 =>
      rw [hK]
      exact ⟨_, rfl, ⟨_, SqT.of a1⟩, p _ _ x1 r1 _ (.tup a1 a2)⟩
  · exact p.elim
theorem i_rng1 {tg : Expr} {p pos : Pos} (hg : Gl X "range") (hm : X.mg "range" = none) (hs : noStar e = true) (he : PE X e (tE c (rec ce))) : PI X tg (.Call (.Name "range" p) [e] [] pos) (tI c (evI rec (.rng1 ce))) := by
  refine ⟨fun pins s σ H R' I ⟨f, h, st, r, rs, p⟩ => ?_⟩
  unfold evI at p
  dsimp only at p
  split at p
  · rename_i j h1 e1
    split at p
    · rename_i e2
      simp only [Bool.and_eq_true, decide_eq_true_eq] at e2
      refine (pi_range1 hg hm (pa_cons he pa_nil (star_of hs _ _)) (star_of hs _ _)).run pins s σ H R' I (tE_of e1 r rs fun f1 H1 x x1 r1 rs1 rv1 => ?_)
      cases rv1
      exact ⟨j, rfl, by omega, by omega, p _ _ x1 r1 _ (.rng _ _)⟩
    · exact p.elim
  · exact p.elim
theorem i_rng2 {tg : Expr} {p pos : Pos} (hg : Gl X "range") (hm : X.mg "range" = none) (hsa : noStar a = true) (hsb : noStar b = true) (ha : PE X a (tE c (rec ca))) (hb : PE X b (tE c (rec cb))) : PI X tg (.Call (.Name "range" p) [a, b] [] pos) (tI c (evI rec (.rng2 ca cb))) := by
  refine ⟨fun pins s σ H R' I ⟨f, h, st, r, rs, p⟩ => ?_⟩
  unfold evI at p
  dsimp only at p
  split at p
  · rename_i i h1 e1
    split at p
    · rename_i j h2 e3
      split at p
      · rename_i e2
        simp only [Bool.and_eq_true, decide_eq_true_eq] at e2
        have z1 : starEach [a, b] X.env = [(false, eval a X.env), (false, eval b X.env)] := by rw [star_of hsa, star_of hsb]; rfl
        refine (pi_range2 hg hm (pa_cons ha (pa_cons hb pa_nil (star_of hsb _ _)) (star_of hsa _ _)) z1 (star_of hsb _ _)).run pins s σ H R' I (tE_of e1 r rs fun f1 H1 x x1 r1 rs1 rv1 => tE_of e3 r1 rs1 fun f2 H2 y x2 r2 rs2 rv2 => ?_)
        cases rv1
        cases rv2
        exact ⟨i, j, rfl, ⟨by omega, by omega, by omega, by omega⟩, p _ _ (x1.trans x2) r2 _ (.rng _ _)⟩
      · exact p.elim
    · exact p.elim
  · exact p.elim
theorem rvs_intf {f : Nat → Addr} {k : Nat} {H : Hp} (g : Nat → Int) : ∀ l : List Nat, RVs c f k H (l.map fun j => PV.int (g j)) (l.map fun j => V.int (g j))
  | [] => .nil
  | j :: l => .cons (.int _) (rvs_intf g l)
theorem s_lrg {p pos p2 pos2 : Pos} (hc : X.calm = true) (hgl : Gl X "list") (hml : X.mg "list" = none) (hg : Gl X "range") (hm : X.mg "range" = none) (hsa : noStar a = true) (hsb : noStar b = true) (ha : PE X a (tE c (rec ca))) (hb : PE X b (tE c (rec cb))) :
    PE X (.Call (.Name "list" p) [.Call (.Name "range" p2) [a, b] [] pos2] [] pos) (tE c (eLrg rec ca cb)) := by
  refine pe_w (pe_listRg hc hgl hml (prg_2 hg hm ha hb (star_of hsa _ _) (star_of hsb _ _) (by rw [star_of hsb]; rfl)) rfl) fun σ H Q ⟨f, h, st, r, rs, p⟩ => ?_
  unfold eLrg at p
  split at p
  · rename_i i h1 e1
    refine tE_of e1 r rs fun f1 H1 x x1 r1 rs1 rv1 => ?_
    split at p
    · rename_i j h2 e3
      refine tE_of e3 r1 rs1 fun f2 H2 y x2 r2 rs2 rv2 => ?_
      split at p
      · rename_i e2
        simp only [Bool.and_eq_true, decide_eq_true_eq] at e2
        cases rv1
        cases rv2
        obtain ⟨z, k1⟩ := okL_at (vs := rgV i j) r2 (rvs_intf _ _) (p.mono (x1.trans x2))
        exact ⟨i, j, rfl, rfl, ⟨by omega, by omega, by omega, by omega, by omega⟩, k1⟩
      · exact p.elim
    · exact p.elim
  · exact p.elim
theorem i_zip {p pos tpos : Pos} {elts : List Expr} {kk : Nat} (hK : X.K = c.K) (hg : Gl X "zip") (hm : X.mg "zip" = none) (hsa : noStar a = true) (hsb : noStar b = true) (ha : PE X a (tE c (rec ca))) (hb : PE X b (tE c (rec cb))) :
    PI X (.Tuple elts kk tpos) (.Call (.Name "zip" p) [a, b] [] pos) (tI c (evI rec (.zip ca cb))) := by
  refine ⟨fun pins s σ H R' I ⟨f, h, st, r, rs, p⟩ => ?_⟩
  unfold evI at p
  dsimp only at p
  split at p
  · rename_i x h1 e1
    split at p
    · rename_i y h2 e2
      refine (RZ.pi_zipA hg hm (pa_cons ha (pa_cons hb pa_nil (star_of hsb _ _)) (star_of hsa _ _)) (star_of hsa _ _) (by rw [star_of hsb]; rfl)).run pins s σ H R' I (tE_of e1 r rs fun f1 H1 v x1 r1 rs1 rv1 => tE_of e2 r1 rs1 fun f2 H2 w x2 r2 rs2 rv2 => ?_)
      have rv3 := rv1.mono x2
      rw [hK]
      split at p
      · split at p
        · rename_i q1 q2
          cases rv3 with
          | ref hi =>
            cases rv2 with
            | ref hj =>
              obtain ⟨vs, g1, _⟩ := seqL_ref r2 hi q1
              obtain ⟨ws, g2, _⟩ := seqL_ref r2 hj q2
              exact ⟨_, _, vs, ws, rfl, .inl ⟨g1, g2, p _ _ (x1.trans x2) r2 _ (.zipL hi hj)⟩⟩
        · exact p.elim
      · cases rv3 with
        | tup a1 a2 =>
          cases rv2 with
          | tup b1 b2 => exact ⟨_, _, _, _, rfl, .inr ⟨SqT.of a1, SqT.of b1, p _ _ (x1.trans x2) r2 _ (.zipT a1 a2 b1 b2)⟩⟩
      · exact p.elim
    · exact p.elim
  · exact p.elim
/-! ### targets -/
theorem wipe_comm {σ : L2.St} {i : Nat} {v : Option V} : ∀ {vs : List Nat}, i ∉ vs → L2.wipe (σ.set i v) vs = (L2.wipe σ vs).set i v
  | [], _ => rfl
  | j :: vs, h => by
    have h1 : i ≠ j := fun z => h (by rw [z]; exact List.mem_cons_self)
    have h2 : i ∉ vs := fun z => h (List.mem_cons_of_mem _ z)
    unfold L2.wipe
    rw [wipe_comm h2, List.set_comm _ _ h1]
theorem wipe_set {σ : L2.St} {i : Nat} {v : Option V} : ∀ {vs : List Nat}, i ∈ vs → L2.wipe (σ.set i v) vs = L2.wipe σ vs
  | j :: vs, h => by
    unfold L2.wipe
    by_cases hi : i ∈ vs
    · rw [wipe_set hi]
    · rw [wipe_comm hi]
      rcases List.mem_cons.mp h with z | z
      · subst z
        rw [List.set_set]
      · exact absurd z hi
def tT (c : Rc) (t : CT) : TG := fun v σ H Q => ∃ f h st x st', Rel c f h H ∧ RSt c f h.n H st σ ∧ RV c f h.n H x v ∧ asgT t x st = some st' ∧ ∀ σ', RSt c f h.n H st' σ' → (∀ vs, tgIn t vs = true → L2.wipe σ' vs = L2.wipe σ vs) → Q σ' H
def tTs (c : Rc) (ts : List CT) : TGs := fun ws σ H Q => ∃ f h st xs st', Rel c f h H ∧ RSt c f h.n H st σ ∧ RVs c f h.n H xs ws ∧ asgTs ts xs st = some st' ∧ ∀ σ', RSt c f h.n H st' σ' → (∀ vs, tgsIn ts vs = true → L2.wipe σ' vs = L2.wipe σ vs) → Q σ' H
theorem pg_w {tg : Expr} {t t' : TG} (h : PG X tg t) (k : ∀ v σ H Q, t' v σ H Q → t v σ H Q) : PG X tg t' := ⟨fun pins s σ H v u Q I r q => h.run pins s σ H v u Q I r (k v σ H Q q)⟩
theorem pgs_w {tgs : List Expr} {t t' : TGs} (h : PGs X tgs t) (k : ∀ v σ H Q, t' v σ H Q → t v σ H Q) : PGs X tgs t' := ⟨fun pins s σ H v u Q I r q => h.run pins s σ H v u Q I r (k v σ H Q q)⟩
theorem g_nm {i : Nat} {x : Str} (hN : X.N.Nodup) (hi : X.N[i]? = some x) (hx : Loc X.env.scope x) (hf : X.fn x = true ∨ X.env.scope.names.lookup x = some .local) : PG X (.Name x pos) (tT c (.nm i)) :=
  pg_w (pg_name hN hi hx hf) fun v σ H Q ⟨f, h, st, x, st', r, rs, rv, e, q⟩ => by
    cases e
    refine q _ (rs.set i rv) fun vs hv => wipe_set ?_
    exact List.mem_of_elem_eq_true hv
inductive PTgs (X : Cx) (c : Rc) : List Expr → List CT → Prop where
  | nil : PTgs X c [] []
  | cons {e : Expr} {t : CT} {es : List Expr} {ts : List CT} : noStar e = true → PG X e (tT c t) → PTgs X c es ts → PTgs X c (e :: es) (t :: ts)
theorem aeach_of {e : Expr} (h : noStar e = true) (rest : List Expr) (env : Env) : assignEach (e :: rest) env = (false, assign e env) :: assignEach rest env := by
  cases e <;> first | rfl | (cases h; done)
theorem PTgs.shape {es : List Expr} {ts : List CT} (h : PTgs X c es ts) (env : Env) : (assignEach es env).length = es.length ∧ (assignEach es env).findIdx? (·.1) = none ∧ es.length = ts.length := by
  induction h with
  | nil => exact ⟨rfl, rfl, rfl⟩
  | cons hs _ _ ih =>
    rw [aeach_of hs]
    refine ⟨congrArg (· + 1) ih.1, ?_, congrArg (· + 1) ih.2.2⟩
    rw [List.findIdx?_cons, ih.2.1]
    rfl
theorem asgTs_len : ∀ {ts : List CT} {xs : List PV} {st st' : PSt}, asgTs ts xs st = some st' → ts.length = xs.length
  | [], [], _, _, _ => rfl
  | t :: ts, x :: xs, st, st', e => by
    unfold asgTs at e
    split at e
    · rw [List.length_cons, List.length_cons, asgTs_len e]
    · cases e
  | [], _ :: _, _, _, e => by unfold asgTs at e; cases e
  | _ :: _, [], _, _, e => by unfold asgTs at e; cases e
theorem gs_of : ∀ {es : List Expr} {ts : List CT}, PTgs X c es ts → PGs X es (tTs c ts)
  | [], [], .nil => pgs_w pgs_nil fun ws σ H Q ⟨f, h, st, xs, st', r, rs, rv, e, q⟩ => by
    cases rv with
    | nil =>
      unfold asgTs at e
      cases e
      exact ⟨rfl, q _ rs fun _ _ => rfl⟩
    | cons _ _ => unfold asgTs at e; cases e
  | e :: es, t :: ts, .cons hs he ht => by
    refine pgs_w (pgs_cons he (gs_of ht) (by rw [aeach_of hs]; rfl)) fun ws σ H Q ⟨f, h, st, xs, st', r, rs, rv, e, q⟩ => ?_
    cases rv with
    | nil => unfold asgTs at e; cases e
    | cons rv1 rvs =>
      unfold asgTs at e
      split at e
      · rename_i st1 e1
        refine ⟨_, _, rfl, f, h, st, _, st1, r, rs, rv1, e1, fun σ1 rs1 w1 => ?_⟩
        refine ⟨f, h, st1, _, st', r, rs1, rvs, e, fun σ2 rs2 w2 => q σ2 rs2 fun vs hv => ?_⟩
        unfold tgsIn at hv
        rw [Bool.and_eq_true] at hv
        exact (w2 vs hv.2).trans (w1 vs hv.1)
      · cases e
theorem g_tup {es : List Expr} {ts : List CT} {k : Nat} (hK : X.K = c.K) (hc : X.calm = true) (h : PTgs X c es ts) : PG X (.Tuple es k pos) (tT c (.tup ts)) := by
  obtain ⟨z1, z2, z3⟩ := h.shape X.env
  refine pg_w (pg_tup (n := es.length) hc (gs_of h) z1 z2) fun v σ H Q ⟨f, h, st, x, st', r, rs, rv, e, q⟩ => ?_
  unfold asgT at e
  split at e
  · cases rv with
    | tup a1 a2 =>
      rw [hK]
      refine ⟨_, _, rfl, SqT.of a1, ?_, f, h, st, _, st', r, rs, a2, e, fun σ' rs' w => q σ' rs' fun vs hv => w vs ?_⟩
      · rw [← a2.length, ← asgTs_len e, z3]
      · unfold tgIn at hv
        exact hv
  · cases e
end
end Pyx

set_option Elab.async false
set_option linter.all false
set_option maxRecDepth 100000
set_option maxHeartbeats 4000000
/-! Pyx: enumerate of a tuple. -/
namespace Pyx
open PySem PySem.Spec PyProof.Rows L2
def enumO (it : Addr) : Obj := { cls := .type "enumerate", data := .fields #[.none, .bool false, .ref it, rawInt 0, .none, .none] }
theorem enum_new1 {v : Value} {o : Obj} {HH : Heap → Prop} (B : Begins v o HH) :
    Meets (Builtin.«enumerate.__new__» ⟨[.type "enumerate", v], []⟩) (fun _ R s => HH s.heap ∧ R (.ok (.ret (.ref (s.heap.push o).objs.size))) { s with heap := (s.heap.push o).push (enumO s.heap.objs.size) }) :=
  .of_wp fun prog w A R s hh => by
    obtain ⟨hp, g, d, tk, os⟩ := s
    obtain ⟨h1, h2⟩ := hh
    have e1 := sub_enumerate
    have q1 : ∀ {A' : Around} {E : Value → Shared → Prop} {Q : Value → Shared → Prop}, Q (.ref hp.objs.size) ⟨hp.push o, g, d, tk, os⟩ → wpAny (model prog w) A' (pyIter v) Q E ⟨hp, g, d, tk, os⟩ := fun q =>
      B.iter prog w _ _ ⟨hp, g, d, tk, os⟩ _ h1 q
    wp_walk using q1
    refine wpAny_stack_any fun st => wpAny_pure ?_
    split <;> first | (wp_walk using q1; exact ⟨_, rfl, h2⟩) | (rename_i z _ _ _ _ _; cases (z == Value.type "enumerate") <;> (wp_walk using q1; exact ⟨_, rfl, h2⟩))
theorem call_enum1 {prog : Program} {w : World} {A : Around} {E : Value → Shared → Prop} {s : Shared} {v : Value} {o : Obj} {HH : Heap → Prop} {Q : Value → Shared → Prop} (B : Begins v o HH) (h1 : HH s.heap)
    (h : ∀ h', IsEnum h' (s.heap.objs.size + 1) s.heap.objs.size 0 .none → h'.get? s.heap.objs.size = some o → (∀ b u, s.heap.get? b = some u → h'.get? b = some u) → Q (.ref (s.heap.objs.size + 1)) { s with heap := h' }) :
    wpAny (model prog w) A (call (.type "enumerate") [v]) Q E s := by
  refine callType_new F.called_enumerate (by decide) (F.typeCall_enumerate_1 _) (F.newCall_enumerate_1 _) (fun obj => F.args_object_init_2 obj _) F.entry_enumerate_new (enum_new1 B) ⟨h1, ?_⟩
  have z : (s.heap.push o).objs.size = s.heap.objs.size + 1 := Heap.size_push ..
  show _ ∧ _
  rw [z]
  have e : IsEnum ((s.heap.push o).push (enumO s.heap.objs.size)) (s.heap.objs.size + 1) s.heap.objs.size 0 .none := by
    have q := Heap.get?_push_size (s.heap.push o) (o := enumO s.heap.objs.size) rfl
    rw [z] at q
    exact q
  have f0 : (s.heap.push o).get? s.heap.objs.size = some o := Heap.get?_push_size _ B.free
  exact ⟨⟨_, e, rfl⟩, h _ e (Heap.get?_push_of_some _ f0) fun b u q => Heap.get?_push_of_some _ (Heap.get?_push_of_some _ q)⟩
theorem turn_enumT {P : Program} {w : World} {K : PySem.W.Frag} {elts : List Expr} {kk : Nat} {tpos : Pos} (a e it : Addr) :
    Turn P w K (.Tuple elts kk tpos) (IteT K a) [e, it] e (fun i h => (∃ old, IsEnum h e it ((i : Nat) : Int) old) ∧ h.IsTupleIter it a i ∧ e ≠ it ∧ a ≠ it ∧ a ≠ e) where
  mem := List.mem_cons_self
  obj := fun i h st b hb => by
    obtain ⟨⟨old, he⟩, ⟨o, ho, hc, hd⟩, _⟩ := st
    rcases List.mem_cons.mp hb with z | z
    · subst z
      exact ⟨_, he, fun v q => by cases q⟩
    · have z : b = it := by simpa using z
      exact ⟨o, by rw [z]; exact ho, fun v q => by rw [hd] at q; cases q⟩
  keep := fun i h h' st k => by
    obtain ⟨⟨old, he⟩, hi, n1, n2, n3⟩ := st
    exact ⟨⟨old, k e List.mem_cons_self _ he⟩, hi.at fun o q => k it (by simp) o q, n1, n2, n3⟩
  item := by
    intro X hP hw hK hc i pins s σ H E I hf st hg
    subst hP hw hK
    obtain ⟨⟨old, he⟩, hit, hne, n2, n3⟩ := st
    obtain ⟨xs, x, hq, hx⟩ := hg
    obtain ⟨its, rv, p, hz⟩ := I.tuple hq
    obtain ⟨u, hu, ru⟩ := rv.get hx
    have le : e < s.heap.objs.size := Heap.lt_size he
    have li : it < s.heap.objs.size := by
      obtain ⟨_, q, _⟩ := hit
      exact Heap.lt_size q
    have hlen : i < its.toArray.size := by
      have z := (List.getElem?_eq_some_iff.mp hu).1
      simpa using z
    have hh : X.A.in1.handled = none := by simp [I.ok.hd hc]
    have D := Draws.tuple (prog := X.prog) (w := X.w) (A := X.A.in1) hh it a n2 its.toArray
    refine wpAny_pyNext_enum_itemD D he ⟨hit, p⟩ hlen hne (by simp; exact ⟨hne, Ne.symm n3⟩) fun y h' tk hy ho hst hT hsz hk => ?_
    have ey : y = u := by
      have z : its.toArray[i]? = some y := hy
      have z2 : its[i]? = some y := by simpa using z
      rw [hu] at z2
      exact (Option.some.inj z2).symm
    subst ey
    refine ⟨_, rfl, wpAny_letOwnedTupleGo_enum (s := { s with heap := h', toks := tk + 1 }) ho fun h2 he2 sb => ?_⟩
    have hT2 : h2.get? s.heap.objs.size = some { cls := .type "tuple", data := .seq #[.int i tk, y] } := (sb.2 _ (Nat.ne_of_gt le)).trans hT
    have new : ObjOk X.prog X.w (upd H s.heap.objs.size (.tup [.int (i : Nat), x])) h2 s.heap.objs.size (.tup [.int (i : Nat), x]) :=
      ⟨(by show 2 ≤ sizeLine; rw [sizeLine_eq]; decide), [.int i tk, y], .cons ⟨_, rfl⟩ (.cons ru .nil), ⟨_, hT2, rfl, _, rfl⟩⟩
    have I2 : L2.Inv X pins σ (upd H s.heap.objs.size (.tup [.int (i : Nat), x])) { s with heap := h2, toks := tk + 1 } :=
      I.turnedNew (ch := [e, it]) (fun b ob hb q => by
        have b1 : b ≠ e := fun z => hb (by simp [z])
        have b2 : b ≠ it := fun z => hb (by simp [z])
        exact (sb.2 b b1).trans (hk b ob b1 b2 q)) hf (Nat.le_refl _) new
    refine ⟨.ref s.heap.objs.size, _, I2, rfl, ⟨_, x, rfl, I.hok.fresh (Nat.le_refl _), rfl, fun ys hy => by rw [I.tuple_inj hy hq]; exact hx⟩, ⟨⟨y, ?_⟩, hst.1.at fun o q => (sb.2 it (Ne.symm hne)).trans q, hne, n2, n3⟩, fun b hb => ?_⟩
    · have e1 : ((i + 1 : Nat) : Int) = (i : Int) + 1 := by omega
      rw [e1]
      exact he2
    · have lb : b < s.heap.objs.size := by
        rcases List.mem_cons.mp hb with z | z
        · rw [z]; exact le
        · have z : b = it := by simpa using z
          rw [z]; exact li
      rw [upd_ne (Nat.ne_of_lt lb)]
      exact (hf b hb).1
  done := by
    intro X hP hw hK hc i pins s σ H E I hf st hg
    subst hP hw hK
    obtain ⟨⟨old, he⟩, hit, hne, n2, n3⟩ := st
    obtain ⟨xs, hq, hx⟩ := hg
    obtain ⟨its, rv, p, hz⟩ := I.tuple hq
    obtain ⟨f0, f1, f2, f3, f4, f5⟩ := hf it (by simp)
    have hl := rv.length
    have hh : X.A.in1.handled = none := by simp [I.ok.hd hc]
    have hx2 : its.toArray[i]? = none := by
      rw [Array.getElem?_eq_none]
      simp
      omega
    have D : Draws X.prog X.w X.A.in1 it [it, a] i (fun _ _ => False) (fun k h => k = i ∧ h.IsTupleIter it a i ∧ h.IsTuple a its.toArray) :=
      ⟨fun k h st => let ⟨o, ho, _⟩ := st.2.1; ⟨o, ho⟩, fun k h h' st hk => ⟨st.1, st.2.1.at fun o q => hk it (by simp) o q, st.2.2.at fun o q => hk a (by simp) o q⟩,
        fun k s Q E hk st _ => absurd st.1 (Nat.ne_of_lt hk), fun s Q E st hE => wpAny_nextOf_tuple_end hh st.2.1 st.2.2 hx2 hE⟩
    exact wpAny_pyNext_enum_endD D he ⟨rfl, hit, p⟩ fun h' eb => ⟨rfl, I.turned (t' := s.toks) (fun b o hb q => eb b o hb q) f0 f1 f3 f4 f5⟩
  self := fun A i s Q E st h => by
    obtain ⟨⟨_, he⟩, _⟩ := st
    exact wpAny_pyIter_enum he h
section
variable {X : Cx} {c : Rc} {rec : CE → PSt → PH → R PV} {e : Expr} {ce : CE}
theorem i_enum {p pos tpos : Pos} {elts : List Expr} {kk : Nat} (hK : X.K = c.K) (hg : Gl X "enumerate") (hm : X.mg "enumerate" = none) (hs : noStar e = true) (he : PE X e (tE c (rec ce))) :
    PI X (.Tuple elts kk tpos) (.Call (.Name "enumerate" p) [e] [] pos) (tI c (evI rec (.enum ce))) := by
  refine ⟨fun pins s σ H R' I ⟨f, h, st, r, rs, q⟩ => ?_⟩
  unfold evI at q
  dsimp only at q
  have z1 : starEach [e] X.env = [(false, eval e X.env)] := star_of hs _ _
  split at q
  · rename_i i h1 e1
    split at q
    · rename_i xs e2
      refine (pi_enum hg hm (pa_cons he pa_nil (star_of hs _ _)) z1).run pins s σ H R' I (tE_of e1 r rs fun f1 H1 x x1 r1 rs1 rv1 => ?_)
      cases rv1 with
      | ref hi =>
        obtain ⟨vs, h2, _⟩ := seqL_ref r1 hi e2
        rw [hK]
        exact ⟨_, vs, rfl, h2, q _ _ x1 r1 _ (.enumL hi)⟩
    · exact q.elim
  · rename_i xs h1 e1
    have hA : PA X [e] (tCons (tE c (rec ce)) tNil) := pa_cons he pa_nil (star_of hs _ _)
    have hrd : tCons (tE c (rec ce)) tNil σ H fun vs H1 => ∃ a ws, vs = [.ref a] ∧ H1 a = some (.tup ws) ∧ R' (IteT c.K a) H1 := tE_of e1 r rs fun f1 H1 x x1 r1 rs1 rv1 => by
      cases rv1 with
      | tup a1 a2 => exact ⟨_, _, rfl, a1, q _ _ x1 r1 _ (.enumT a1 a2)⟩
    refine Call_ (ld_blt I hg hm boot_enumerate (PyProof.Rows.callWith_type1 (thn (hA.run pos pins s σ H _ I hrd) fun us s1 ⟨vs, H1, I1, r1, q1⟩ => ?_) z1 rfl))
    obtain ⟨a, ws, ex, hq, q2⟩ := q1
    subst ex
    cases r1 with
    | cons rr rn =>
      cases rn
      cases rr
      obtain ⟨its, rv, pt, hz⟩ := I1.tuple (SqT.of (K := X.K) hq)
      refine call_enum1 (begins_tuple a its.toArray) pt fun h' he' hit hk => wpAny_pyIter_enum he' ?_
      have I2 : L2.Inv X pins σ H1 { s1 with heap := h' } := I1.kept (t' := s1.toks) hk
      have la : a < s1.heap.objs.size := by
        obtain ⟨_, q, _⟩ := pt
        exact Heap.lt_size q
      refine ⟨s1.heap.objs.size + 1, [s1.heap.objs.size + 1, s1.heap.objs.size], _, _, H1, rfl, I2, turn_enumT a (s1.heap.objs.size + 1) s1.heap.objs.size, ⟨⟨.none, he'⟩, ⟨_, hit, rfl, rfl⟩, Nat.succ_ne_self _, Nat.ne_of_lt la, Nat.ne_of_lt (Nat.lt_succ_of_lt la)⟩, fun b hb => ?_, by rw [hK]; exact q2⟩
      have hle : s1.heap.objs.size ≤ b := by
        rcases List.mem_cons.mp hb with z | z
        · rw [z]; exact Nat.le_add_right _ _
        · have z : b = s1.heap.objs.size := by simpa using z
          rw [z]; exact Nat.le_refl _
      exact I1.fpOk hle (I1.hok.fresh hle)
  · exact q.elim
end
end Pyx

set_option Elab.async false
set_option linter.all false
set_option maxRecDepth 100000
set_option maxHeartbeats 4000000
/-! Pyx: comprehensions, statements. -/
namespace Pyx
open PySem PySem.Spec PyProof.Rows L2
section
variable {X : Cx} {c : Rc} {call : Nat → List PV → PH → R PV} {n : Nat} {rec : CE → PSt → PH → R PV} {a b d e : Expr} {ca cb cd ce : CE} {pos : Pos}
theorem tI_of {f : Nat → Addr} {h h1 : PH} {H : Hp} {st : PSt} {σ : L2.St} {ev : PSt → PH → R IV} {iv : IV} {Q : It → Hp → Prop} (hr : ev st h = .ok iv h1) (r : Rel c f h H) (s : RSt c f h.n H st σ)
    (k : ∀ f1 H1 J, Ext f h.n H f1 h1.n H1 → Rel c f1 h1 H1 → RSt c f1 h1.n H1 st σ → JOk c f1 h1.n H1 iv J → Q J H1) : tI c ev σ H Q :=
  ⟨f, h, st, r, s, by rw [hr]; exact fun f1 H1 e1 R1 J j => k f1 H1 J e1 R1 (s.mono e1) j⟩
def tIf' (c : Rc) (rec : CE → PSt → PH → R PV) (o : Option CB) : TT := tB' c (evIf rec o)
theorem rd_lc {it : CI} {tg : CT} {vs : List Nat} {ifs : Option CB} {elt : CE} :
    ∀ σ H Q, tE c (eLc n rec it tg vs ifs elt) σ H Q → tLc (tI c (evI rec it)) (tT c tg) (tIf' c rec ifs) (tE c (rec elt)) vs σ H Q := fun σ H Q ⟨f, h, st, r, rs, p⟩ => by
  unfold eLc at p
  split at p
  · exact p.elim
  · rename_i htg
    split at p
    · exact p.elim
    · rename_i iv h1 e1
      refine tI_of e1 r rs fun f1 H1 J x1 r1 rs1 j1 => fun D hD => ?_
      obtain ⟨r2, x2⟩ := r1.laid (xs := []) (vs := []) hD .nil
      refine ⟨fun i m H' => ∃ f' h', Ext f1 h1.n H1 f' h'.n H' ∧ h1.n < h'.n ∧ Rel c f' h' H' ∧ f' h1.n = D ∧ Post c f' h'.n H' (lcL rec iv tg ifs elt (wipeP st vs) h1.n m i h') (fun f2 h2 H2 _ => ∀ v, RV c f2 h2.n H2 (.ref h1.n) v → Q v H2), ⟨n, ext1 f1 h1.n D, h1.push (.lst []), x2, Nat.lt_succ_self _, r2, ext1_at, ?_⟩, ?_⟩
      · have p2 := (p.mono x1).mono x2
        cases z : lcL rec iv tg ifs elt (wipeP st vs) h1.n n 0 (h1.push (.lst [])) with
        | stuck => rw [z] at p2; exact p2.elim
        | ok u hz =>
          rw [z] at p2
          exact fun f3 H3 x3 r3 v rv => p2 f3 H3 x3 r3 v rv
      · rintro i m H2 ⟨f2, h2, x3, hlt, r3, fD, p3⟩
        have j2 := j1.mono x3
        cases m with
        | zero => exact p3.elim
        | succ m =>
          unfold lcL at p3
          split at p3
          · exact p3.elim
          · rename_i e2
            refine .inl ⟨ivN_stop r3 j2 e2, ?_⟩
            have q := p3 _ _ .refl r3 (.ref (f2 h1.n)) (.ref hlt)
            rw [fD] at q
            exact q
          · rename_i v e2
            obtain ⟨g1, g2⟩ := ivN_item r3 j2 e2
            split at p3
            · exact p3.elim
            · rename_i st1 e3
              refine .inr ⟨g1, fun H' => ∃ f' h', Ext f1 h1.n H1 f' h'.n H' ∧ h1.n < h'.n ∧ Rel c f' h' H' ∧ f' h1.n = D ∧ Post c f' h'.n H' (lcL rec iv tg ifs elt (wipeP st vs) h1.n m (i + 1) h') (fun f2 h2 H2 _ => ∀ v, RV c f2 h2.n H2 (.ref h1.n) v → Q v H2), fun H' w => ⟨m, Nat.lt_succ_self _, w⟩, fun x H' hy => ?_⟩
              obtain ⟨r4, x4, rv4⟩ := g2 x H' hy
              refine ⟨f2, h2, wipeP st vs, v, st1, r4, (rs1.mono (x3.trans x4)).wipe vs, rv4, e3, fun σ' rs5 hw => ⟨?_, ?_⟩⟩
              · rw [hw vs htg]
                have ww : ∀ (l : List Nat), (∀ i ∈ l, i ∈ vs) → L2.wipe (L2.wipe σ vs) l = L2.wipe σ vs := by
                  intro l
                  induction l with
                  | nil => intro _; rfl
                  | cons i l ih =>
                    intro hl
                    unfold L2.wipe
                    rw [ih fun i hi => hl i (List.mem_cons_of_mem _ hi)]
                    have none_at : ∀ (l : List Nat) (i : Nat), i ∈ l → (L2.wipe σ l).set i none = L2.wipe σ l := by
                      intro l i hi
                      have q := wipe_set (σ := σ) (v := none) hi
                      by_cases hd : True
                      · clear q
                        induction l with
                        | nil => cases hi
                        | cons k l ih2 =>
                          unfold L2.wipe
                          rcases List.mem_cons.mp hi with z | z
                          · subst z
                            rw [List.set_set]
                          · by_cases hk : k = i
                            · subst hk
                              rw [List.set_set]
                            · rw [List.set_comm _ _ hk, ih2 z]
                      · exact absurd trivial hd
                    cases vs with
                    | nil => exact absurd (hl i List.mem_cons_self) (by simp)
                    | cons k vs' => exact none_at (k :: vs') i (hl i List.mem_cons_self)
                exact ww vs fun _ h => h
              · refine ⟨f2, h2, st1, r4, rs5, ?_⟩
                have p4 := p3.mono x4
                cases z : evIf rec ifs st1 h2 with
                | stuck => rw [z] at p4; exact p4.elim
                | ok k h3 =>
                  rw [z] at p4
                  intro f3 H3 x5 r5
                  cases k with
                  | false =>
                    rw [if_neg Bool.false_ne_true]
                    exact ⟨f3, h3, (x3.trans x4).trans x5, Nat.lt_of_lt_of_le hlt x5.le, r5, by rw [x5.eq _ hlt]; exact fD, p4.mono x5⟩
                  | true =>
                    rw [if_pos rfl]
                    have p5 : Post c f2 h2.n H' (match rec elt st1 h3 with
                        | .stuck => .stuck
                        | .ok v h2 => match lstAt (.ref h1.n) h2 with
                          | some (_, acc) => match small acc with
                            | true => lcL rec iv tg ifs elt (wipeP st vs) h1.n m (i + 1) (h2.set h1.n (.lst (acc ++ [v])))
                            | false => .stuck
                          | none => .stuck) (fun f2 h2 H2 _ => ∀ v, RV c f2 h2.n H2 (.ref h1.n) v → Q v H2) := p4
                    have rs6 := rs5.mono x5
                    cases z2 : rec elt st1 h3 with
                    | stuck => rw [z2] at p5; exact p5.elim
                    | ok w h4 =>
                      rw [z2] at p5
                      refine tE_of z2 r5 rs6 fun f4 H4 y x6 r6 rs7 rv7 => ?_
                      dsimp only at p5
                      split at p5
                      · rename_i e4
                        split at p5
                        · rename_i sm
                          have lt3 : h1.n < h3.n := Nat.lt_of_lt_of_le hlt x5.le
                          have lt4 : h1.n < h4.n := Nat.lt_of_lt_of_le lt3 x6.le
                          have f4D : f4 h1.n = D := by rw [x6.eq _ lt3, x5.eq _ hlt]; exact fD
                          obtain ⟨ws, ew, hg, hH, rvs⟩ := lstAt_at r6 (.ref lt4) e4
                          have ei : ∀ {k : Nat} {acc : List PV}, lstAt (.ref h1.n) h4 = some (k, acc) → k = h1.n := fun {k acc} q => by
                            unfold lstAt at q
                            dsimp only at q
                            split at q
                            · cases q; rfl
                            · cases q
                          have ek := ei e4
                          subst ek
                          obtain ⟨r8, x8⟩ := r6.write hg (rvs.app (.cons rv7 .nil))
                          rw [f4D] at hH r8 x8
                          refine ⟨ws, hH, by rw [← rvs.length]; exact small_size sm, f4, h4.set _ _, ((((x3.trans x4).trans x5).trans x6).trans x8), lt4, r8, f4D, ?_⟩
                          exact ((p5.mono x5).mono x6).mono x8
                        · exact p5.elim
                      · exact p5.elim
theorem pts_of {o : Option CB} {ifs : List Expr} (h : (o = none ∧ ifs = []) ∨ ∃ b cb, o = some cb ∧ ifs = [b] ∧ PT X b (tB' c (evB rec cb))) : PTs X ifs (tIf' c rec o) := by
  rcases h with ⟨rfl, rfl⟩ | ⟨b, cb, rfl, rfl, h⟩
  · exact ⟨fun pins s σ H Q I ⟨f, h, st, r, rs, p⟩ => pts_nil.run pins s σ H Q I (p _ _ .refl r)⟩
  · exact pts_one h
/-! ### statements -/
def FQ (c : Rc) (D : Ends) : (Nat → Addr) → PH → Hp → FR → Prop := fun f h H r => match r with
  | .nx st => ∀ σ, RSt c f h.n H st σ → D.nx σ H
  | .rt v => ∀ w, RV c f h.n H v w → D.rt w H
  | .bk st => ∀ σ, RSt c f h.n H st σ → D.bk σ H
  | .ct st => ∀ σ, RSt c f h.n H st σ → D.ct σ H
def tS (c : Rc) (ev : PSt → PH → R FR) : TS := fun D σ H => ∃ f h st, Rel c f h H ∧ RSt c f h.n H st σ ∧ Post c f h.n H (ev st h) (FQ c D)
variable {s : Stmt} {ss : List Stmt} {recS : CS → PSt → PH → R FR} {ev : CE → PSt → PH → R PV}
theorem ps_w {t t' : TS} (h : PS X s t) (k : ∀ D σ H, t' D σ H → t D σ H) : PS X s t' := ⟨fun pins s σ H D I q => h.run pins s σ H D I (k D σ H q)⟩
theorem pss_w {t t' : TS} (h : PSs X ss t) (k : ∀ D σ H, t' D σ H → t D σ H) : PSs X ss t' := ⟨fun pins s σ H D I q => h.run pins s σ H D I (k D σ H q)⟩
theorem t_stuck {ev : PSt → PH → R FR} (hs : ∀ st h, ev st h = .stuck) : PS X s (tS c ev) := ⟨fun pins s σ H D I ⟨f, h, st, r, r', p⟩ => by rw [hs] at p; exact p.elim⟩
inductive PSS (X : Cx) (c : Rc) (recS : CS → PSt → PH → R FR) : List Stmt → List CS → Prop where
  | nil : PSS X c recS [] []
  | cons {s : Stmt} {k : CS} {ss : List Stmt} {ks : List CS} : PS X s (tS c (recS k)) → PSS X c recS ss ks → PSS X c recS (s :: ss) (k :: ks)
theorem pss_of : ∀ {ss : List Stmt} {ks : List CS}, PSS X c recS ss ks → PSs X ss (tS c (evSs recS ks))
  | [], [], .nil => pss_w pss_nil fun D σ H ⟨f, h, st, r, rs, p⟩ => p _ _ .refl r _ rs
  | s :: ss, k :: ks, .cons hs ht => by
    refine pss_w (pss_cons hs (pss_of ht)) fun D σ H ⟨f, h, st, r, rs, p⟩ => ?_
    refine ⟨f, h, st, r, rs, ?_⟩
    unfold evSs at p
    cases z : recS k st h with
    | stuck => rw [z] at p; exact p.elim
    | ok q h1 =>
      rw [z] at p
      cases q with
      | nx st1 => exact fun f1 H1 x1 r1 σ1 rs1 => ⟨f1, h1, st1, r1, rs1, p.mono x1⟩
      | rt v => exact p
      | bk st1 => exact p
      | ct st1 => exact p
theorem t_pass : PS X (.Pass pos) (tS c (stepS n ev recS .pass)) := ps_w ps_pass fun D σ H ⟨f, h, st, r, rs, p⟩ => p _ _ .refl r _ rs
theorem t_brk : PS X (.Break pos) (tS c (stepS n ev recS .brk)) := ps_w ps_break fun D σ H ⟨f, h, st, r, rs, p⟩ => p _ _ .refl r _ rs
theorem t_cont : PS X (.Continue pos) (tS c (stepS n ev recS .cont)) := ps_w ps_continue fun D σ H ⟨f, h, st, r, rs, p⟩ => p _ _ .refl r _ rs
theorem t_retN : PS X (.Return none pos) (tS c (stepS n ev recS .retN)) := ps_w ps_retN fun D σ H ⟨f, h, st, r, rs, p⟩ => p _ _ .refl r _ .non
theorem t_expr (hn : noComp e = true) (he : PE X e (tE c (ev ce))) : PS X (.Expr e pos) (tS c (xExpr n ev recS ce)) := by
  refine ps_w (ps_expr he (comp_of hn _ _ _)) fun D σ H ⟨f, h, st, r, rs, p⟩ => ?_
  unfold xExpr at p
  split at p
  · exact p.elim
  · rename_i v h1 e1
    exact tE_of e1 r rs fun f1 H1 x x1 r1 rs1 rv1 => p _ _ x1 r1 _ rs1
theorem t_ret (he : PE X e (tE c (ev ce))) : PS X (.Return (some e) pos) (tS c (xRet n ev recS ce)) := by
  refine ps_w (ps_ret he) fun D σ H ⟨f, h, st, r, rs, p⟩ => ?_
  unfold xRet at p
  split at p
  · exact p.elim
  · rename_i v h1 e1
    exact tE_of e1 r rs fun f1 H1 x x1 r1 rs1 rv1 => p _ _ x1 r1 _ rv1
/-- a store behind a value -/
theorem rd_asg {t : CT} {te : TE} (hte : ∀ σ H Q, tE c (ev ce) σ H Q → te σ H Q) : ∀ D σ H, tS c (xAsg n ev recS t ce) D σ H → tAsg te (tT c t) D σ H := fun D σ H ⟨f, h, st, r, rs, p⟩ => by
  unfold xAsg at p
  split at p
  · exact p.elim
  · rename_i v h1 e1
    refine hte _ _ _ (tE_of e1 r rs fun f1 H1 x x1 r1 rs1 rv1 => ?_)
    split at p
    · rename_i st1 e2
      exact ⟨f1, h1, st, v, st1, r1, rs1, rv1, e2, fun σ' rs' _ => p _ _ x1 r1 _ rs'⟩
    · exact p.elim
theorem t_asg {tg : Expr} {t : CT} (he : PE X e (tE c (ev ce))) (hg : PG X tg (tT c t)) (hs : swapsWithSole [tg] e pos.line X.env = pure false) (hw : swappedStores [tg] e X.env = pure none) (h1 : (assignEach [tg] X.env).map (·.2) = [assign tg X.env]) :
    PS X (.Assign [tg] e pos) (tS c (xAsg n ev recS t ce)) := ps_w (ps_asg he hg hs hw h1) (rd_asg fun _ _ _ h => h)
/-- y = [..] where the stores are exchanged -/
theorem t_setLc {i : Nat} {y : Str} {py : Pos} {elt tg iter : Expr} {ifs : List Expr} {scope : Scope} {own : List (Str × Nat)} {spos : Pos} {ci : CI} {ct : CT} {co : Option CB} {celt : CE} {vs : List Nat} (hv : vs = own.map (·.2)) (hc : X.calm = true) (hN : X.N.Nodup) (hy : X.N[i]? = some y) (hyl : X.env.scope.names.lookup y = some .local)
    (hsw : swapsWith (.ListComp elt [⟨tg, iter, ifs, 0⟩] scope pos) (some (.Name y py)) spos.line X.env = pure true) (hi : PI X tg iter (tI c (evI rec ci))) (ok : BlkOk X.N X.env.scope scope own)
    (hg : ∀ (s : Shared) (H : Hp) (C : Addr) (cl : List (Str × Addr)) (fp : List Addr), PG (X.blk s H scope (compEnvC scope cl C X.env) fp) tg (tT c ct)) (ht : ∀ (s : Shared) (H : Hp) (C : Addr) (cl : List (Str × Addr)) (fp : List Addr), PTs (X.blk s H scope (compEnvC scope cl C X.env) fp) ifs (tIf' c rec co))
    (he : ∀ (s : Shared) (H : Hp) (C : Addr) (cl : List (Str × Addr)) (fp : List Addr), PE (X.blk s H scope (compEnvC scope cl C X.env) fp) elt (tE c (rec celt))) (hs : ∀ x, foldedSetIterable iter X.env x = pure x) (hev : ∀ st h, ev ce st h = eLc n rec ci ct vs co celt st h) :
    PS X (.Assign [.Name y py] (.ListComp elt [⟨tg, iter, ifs, 0⟩] scope pos) spos) (tS c (xAsg n ev recS (.nm i) ce)) := by
  subst hv
  refine ps_w (ps_setLc hc hN hy hyl hsw hi ok hg ht he hs) fun D σ H ⟨f, h, st, r, rs, p⟩ => ?_
  unfold xAsg at p
  split at p
  · exact p.elim
  · rename_i v h1 e1
    rw [hev] at e1
    refine rd_lc σ H _ (tE_of e1 r rs fun f1 H1 x x1 r1 rs1 rv1 => ?_)
    exact p _ _ x1 r1 _ (rs1.set i rv1)
theorem s_lc {elt tg iter : Expr} {ifs : List Expr} {scope : Scope} {own : List (Str × Nat)} {ci : CI} {ct : CT} {co : Option CB} {celt : CE} {vs : List Nat} (hv : vs = own.map (·.2)) (hc : X.calm = true) (hN : X.N.Nodup) (hi : PI X tg iter (tI c (evI rec ci))) (ok : BlkOk X.N X.env.scope scope own)
    (hg : ∀ (s : Shared) (H : Hp) (C : Addr) (cl : List (Str × Addr)) (fp : List Addr), PG (X.blk s H scope (compEnvC scope cl C X.env) fp) tg (tT c ct)) (ht : ∀ (s : Shared) (H : Hp) (C : Addr) (cl : List (Str × Addr)) (fp : List Addr), PTs (X.blk s H scope (compEnvC scope cl C X.env) fp) ifs (tIf' c rec co))
    (he : ∀ (s : Shared) (H : Hp) (C : Addr) (cl : List (Str × Addr)) (fp : List Addr), PE (X.blk s H scope (compEnvC scope cl C X.env) fp) elt (tE c (rec celt))) (hs : ∀ x, foldedSetIterable iter X.env x = pure x) :
    PE X (.ListComp elt [⟨tg, iter, ifs, 0⟩] scope pos) (tE c (eLc n rec ci ct vs co celt)) := by
  subst hv
  exact pe_w (pe_lc hc hN hi ok hg ht he hs) rd_lc
theorem t_par {i j : Nat} {x y : Str} {px py pt : Pos} {kt k2 : Nat} {pt2 : Pos} (hc : X.calm = true) (hN : X.N.Nodup) (hi : X.N[i]? = some x) (hj : X.N[j]? = some y) (hij : i ≠ j)
    (hx : X.env.scope.names.lookup x = some .local) (hy : X.env.scope.names.lookup y = some .local) (hsa : noStar a = true) (hsb : noStar b = true) (ha : PE X a (tE c (ev ca))) (hb : PE X b (tE c (ev cb)))
    (hw : swappedStores [.Tuple [.Name x px, .Name y py] kt pt] (.Tuple [a, b] k2 pt2) X.env = pure (some [x, y])) :
    PS X (.Assign [.Tuple [.Name x px, .Name y py] kt pt] (.Tuple [a, b] k2 pt2) pos) (tS c (xPar n ev recS i j ca cb)) := by
  refine ps_w (ps_par hc hN hi hj hij hx hy (pa_cons ha (pa_cons hb pa_nil (star_of hsb _ _)) (star_of hsa _ _)) hw rfl) fun D σ H ⟨f, h, st, r, rs, p⟩ => ?_
  unfold xPar at p
  split at p
  · exact p.elim
  · rename_i v h1 e1
    refine tE_of e1 r rs fun f1 H1 x x1 r1 rs1 rv1 => ?_
    split at p
    · exact p.elim
    · rename_i w h2 e2
      exact tE_of e2 r1 rs1 fun f2 H2 y x2 r2 rs2 rv2 => ⟨_, _, rfl, p _ _ (x1.trans x2) r2 _ ((rs2.set i (rv1.mono x2)).set j rv2)⟩
theorem t_par3 {i j l : Nat} {x y z : Str} {px py pz pt : Pos} {kt k2 : Nat} {pt2 : Pos} (hc : X.calm = true) (hN : X.N.Nodup) (hi : X.N[i]? = some x) (hj : X.N[j]? = some y) (hl : X.N[l]? = some z) (hij : i ≠ j) (hil : i ≠ l) (hjl : j ≠ l)
    (hx : X.env.scope.names.lookup x = some .local) (hy : X.env.scope.names.lookup y = some .local) (hz : X.env.scope.names.lookup z = some .local) (hsa : noStar a = true) (hsb : noStar b = true) (hsd : noStar d = true) (ha : PE X a (tE c (ev ca))) (hb : PE X b (tE c (ev cb))) (hd : PE X d (tE c (ev cd)))
    (hw : swappedStores [.Tuple [.Name x px, .Name y py, .Name z pz] kt pt] (.Tuple [a, b, d] k2 pt2) X.env = pure (some [x, y, z])) :
    PS X (.Assign [.Tuple [.Name x px, .Name y py, .Name z pz] kt pt] (.Tuple [a, b, d] k2 pt2) pos) (tS c (xPar3 n ev recS i j l ca cb cd)) := by
  refine ps_w (ps_par3 hc hN hi hj hl hij hil hjl hx hy hz (pa_cons ha (pa_cons hb (pa_cons hd pa_nil (star_of hsd _ _)) (star_of hsb _ _)) (star_of hsa _ _)) hw rfl) fun D σ H ⟨f, h, st, r, rs, p⟩ => ?_
  unfold xPar3 at p
  split at p
  · exact p.elim
  · rename_i v h1 e1
    refine tE_of e1 r rs fun f1 H1 x x1 r1 rs1 rv1 => ?_
    split at p
    · exact p.elim
    · rename_i w h2 e2
      refine tE_of e2 r1 rs1 fun f2 H2 y x2 r2 rs2 rv2 => ?_
      split at p
      · exact p.elim
      · rename_i u h3 e3
        exact tE_of e3 r2 rs2 fun f3 H3 z x3 r3 rs3 rv3 => ⟨_, _, _, rfl, p _ _ ((x1.trans x2).trans x3) r3 _ (((rs3.set i ((rv1.mono x2).mono x3)).set j (rv2.mono x3)).set l rv3)⟩
theorem t_setix {o i : Expr} {co ci : CE} {tpos : Pos} (hu : X.A.units + 65 < cLine) (hn : noComp e = true) (hs : noSlice i = true) (ho : PE X o (tE c (ev co))) (hi : PE X i (tE c (ev ci))) (he : PE X e (tE c (ev ce))) :
    PS X (.Assign [.Subscript o i tpos] e pos) (tS c (xSetix n ev recS co ci ce)) := by
  refine ps_w (ps_asg he (pg_sub ho hi (set_at (c := c) hu) (by intro v; cases i <;> first | rfl | (cases hs; done))) (by have q := comp_of hn (some (.Subscript o i tpos)) pos.line X.env; exact q) rfl rfl) fun D σ H ⟨f, h, st, r, rs, p⟩ => ?_
  unfold xSetix at p
  split at p
  · exact p.elim
  · rename_i v h1 e1
    refine tE_of e1 r rs fun f1 H1 x x1 r1 rs1 rv1 => ?_
    split at p
    · exact p.elim
    · rename_i w h2 e2
      refine tE_of e2 r1 rs1 fun f2 H2 y x2 r2 rs2 rv2 => ?_
      split at p
      · exact p.elim
      · rename_i u h3 e3
        refine tE_of e3 r2 rs2 fun f3 H3 z x3 r3 rs3 rv3 => ?_
        split at p
        · rename_i h4 e4
          refine ⟨f3, h3, w, u, v, h4, r3, rv2.mono x3, rv3, (rv1.mono x2).mono x3, e4, fun H' r4 x4 => ?_⟩
          exact p _ _ (((x1.trans x2).trans x3).trans x4) r4 _ (rs3.mono x4)
        · exact p.elim
def rAug (op : Bop) : TIp := fun x y H Q => ∃ i j k, x = .int i ∧ y = .int j ∧ augI op i j = some k ∧ Q (.int k) H
theorem ip_aug (op : Bop) : PIp X (opB op) (rAug op) := by
  intro pins s σ H x y v u Q I rx ry ⟨i, j, k, e1, e2, e3, q⟩
  subst e1
  subst e2
  unfold augI at e3
  cases op with
  | add => cases e3; exact iop_add pins s σ H _ _ v u Q I rx ry ⟨_, _, rfl, rfl, q⟩
  | sub => cases e3; exact iop_sub pins s σ H _ _ v u Q I rx ry ⟨_, _, rfl, rfl, q⟩
  | mul =>
    dsimp only at e3
    split at e3
    · rename_i e
      cases e3
      rw [Bool.or_eq_true] at e
      exact iop_mul pins s σ H _ _ v u Q I rx ry ⟨_, _, rfl, rfl, e.elim (fun z => .inl (wide_is z)) fun z => .inr (wide_is z), q⟩
    · cases e3
  | fdiv =>
    dsimp only at e3
    split at e3
    · rename_i e
      cases e3
      rw [Bool.and_eq_true] at e
      exact iop_fdiv pins s σ H _ _ v u Q I rx ry ⟨_, _, rfl, rfl, ⟨of_decide_eq_true e.1, of_decide_eq_true e.2⟩, q⟩
    · cases e3
  | mod =>
    dsimp only at e3
    split at e3
    · rename_i e
      cases e3
      exact iop_mod pins s σ H _ _ v u Q I rx ry ⟨_, _, rfl, rfl, of_decide_eq_true e, q⟩
    · cases e3
  | pow => cases e3
theorem t_augn {i : Nat} {x : Str} {op : Bop} {pos' : Pos} (hN : X.N.Nodup) (hi : X.N[i]? = some x) (hx : Loc X.env.scope x) (hf : X.fn x = true ∨ X.env.scope.names.lookup x = some .local) (he : PE X e (tE c (ev ce))) :
    PS X (.AugAssign (.Name x pos') (opB op) e pos) (tS c (xAugn n ev recS i op ce)) := by
  refine ps_w (ps_aug hN hi hx he (ip_aug op) hf) fun D σ H ⟨f, h, st, r, rs, p⟩ => ?_
  unfold xAugn at p
  split at p
  · rename_i u e0
    split at p
    · rename_i v h1 e1
      split at p
      · rename_i z e3
        obtain ⟨w, e2, r0⟩ := rs.2 _ _ e0
        refine ⟨w, e2, tE_of e1 r rs fun f1 H1 y x1 r1 rs1 rv1 => ?_⟩
        cases r0
        cases rv1
        exact ⟨_, _, _, rfl, rfl, e3, p _ _ x1 r1 _ (rs1.set i (.int _))⟩
      · exact p.elim
    · exact p.elim
  · exact p.elim
theorem t_ite {t : Expr} {bt : CB} {sa sb : List Stmt} {ka kb : List CS} (ht : PT X t (tB' c (evB ev bt))) (ha : PSS X c recS sa ka) (hb : PSS X c recS sb kb) : PS X (.If t sa sb pos) (tS c (xIte n ev recS bt ka kb)) := by
  refine ps_w (ps_if ht (pss_of ha) (pss_of hb)) fun D σ H ⟨f, h, st, r, rs, p⟩ => ?_
  unfold xIte at p
  split at p
  · exact p.elim
  · rename_i h1 e1
    refine tB_of e1 r rs fun f1 H1 x1 r1 rs1 => ?_
    rw [if_pos rfl]
    exact ⟨f1, h1, st, r1, rs1, p.mono x1⟩
  · rename_i h1 e1
    refine tB_of e1 r rs fun f1 H1 x1 r1 rs1 => ?_
    rw [if_neg Bool.false_ne_true]
    exact ⟨f1, h1, st, r1, rs1, p.mono x1⟩
theorem t_while {t : Expr} {bt : CB} {sb : List Stmt} {kb : List CS} (hxe : X.xe = fun _ _ => False) (ht : PT X t (tB' c (evB ev bt))) (hb : PSS X c recS sb kb) : PS X (.While t sb [] pos) (tS c (xWhile n ev recS bt kb)) := by
  refine ps_w (ps_while (by rw [hxe]; exact PassesOwn.never) ht (pss_of hb)) fun D σ H ⟨f, h, st, r, rs, p⟩ => ?_
  unfold xWhile at p
  refine ⟨fun m σ' H' => ∃ f' h' st', Rel c f' h' H' ∧ RSt c f' h'.n H' st' σ' ∧ Post c f' h'.n H' (whL (evB ev bt) (evSs recS kb) m st' h') (FQ c D), ⟨n, f, h, st, r, rs, p⟩, ?_⟩
  rintro m σ' H' ⟨f', h', st', r', rs', p'⟩
  cases m with
  | zero => exact p'.elim
  | succ m =>
    unfold whL at p'
    split at p'
    · exact p'.elim
    · rename_i h1 e1
      refine tB_of e1 r' rs' fun f1 H1 x1 r1 rs1 => ?_
      rw [if_neg Bool.false_ne_true]
      exact p' _ _ x1 r1 _ rs1
    · rename_i h1 e1
      refine tB_of e1 r' rs' fun f1 H1 x1 r1 rs1 => ?_
      rw [if_pos rfl]
      refine ⟨fun σ2 H2 => ∃ f' h' st', Rel c f' h' H2 ∧ RSt c f' h'.n H2 st' σ2 ∧ Post c f' h'.n H2 (whL (evB ev bt) (evSs recS kb) m st' h') (FQ c D), fun σ2 H2 w => ⟨m, Nat.lt_succ_self _, w⟩, f1, h1, st', r1, rs1, ?_⟩
      have p2 := p'.mono x1
      cases z : evSs recS kb st' h1 with
      | stuck => rw [z] at p2; exact p2.elim
      | ok q h2 =>
        rw [z] at p2
        cases q with
        | nx st2 => exact fun f2 H2 x2 r2 σ2 rs2 => ⟨f2, h2, st2, r2, rs2, p2.mono x2⟩
        | ct st2 => exact fun f2 H2 x2 r2 σ2 rs2 => ⟨f2, h2, st2, r2, rs2, p2.mono x2⟩
        | bk st2 => exact fun f2 H2 x2 r2 σ2 rs2 => p2 _ _ x2 r2 _ rs2
        | rt v => exact fun f2 H2 x2 r2 w rw2 => p2 _ _ x2 r2 _ rw2
theorem t_for {tg iter : Expr} {t : CT} {ci : CI} {sb : List Stmt} {kb : List CS} (hxe : X.xe = fun _ _ => False) (hc : X.calm = true) (hi : PI X tg iter (tI c (evI ev ci))) (hg : PG X tg (tT c t)) (hb : PSS X c recS sb kb) (hs : ∀ x, foldedSetIterable iter X.env x = pure x) :
    PS X (.For tg iter sb [] pos) (tS c (xFor n ev recS t ci kb)) := by
  refine ps_w (ps_for (by rw [hxe]; exact PassesOwn.never) hc hi hg (pss_of hb) hs) fun D σ H ⟨f, h, st, r, rs, p⟩ => ?_
  unfold xFor at p
  split at p
  · exact p.elim
  · rename_i iv h1 e1
    refine tI_of e1 r rs fun f1 H1 J x1 r1 rs1 j1 => ?_
    refine ⟨fun i m σ' H' => ∃ f' h' st', Ext f1 h1.n H1 f' h'.n H' ∧ Rel c f' h' H' ∧ RSt c f' h'.n H' st' σ' ∧ Post c f' h'.n H' (forL (evSs recS kb) iv t m i st' h') (FQ c D), ⟨n, f1, h1, st, .refl, r1, rs1, p.mono x1⟩, ?_⟩
    rintro i m σ' H' ⟨f', h', st', x', r', rs', p'⟩
    have j2 := j1.mono x'
    cases m with
    | zero => exact p'.elim
    | succ m =>
      unfold forL at p'
      split at p'
      · exact p'.elim
      · rename_i e2
        exact .inl ⟨ivN_stop r' j2 e2, p' _ _ .refl r' _ rs'⟩
      · rename_i v e2
        obtain ⟨g1, g2⟩ := ivN_item r' j2 e2
        split at p'
        · exact p'.elim
        · rename_i st1 e3
          refine .inr ⟨g1, fun σ2 H2 => ∃ f' h' st', Ext f1 h1.n H1 f' h'.n H2 ∧ Rel c f' h' H2 ∧ RSt c f' h'.n H2 st' σ2 ∧ Post c f' h'.n H2 (forL (evSs recS kb) iv t m (i + 1) st' h') (FQ c D), fun σ2 H2 w => ⟨m, Nat.lt_succ_self _, w⟩, fun x H2 hy => ?_⟩
          obtain ⟨r4, x4, rv4⟩ := g2 x H2 hy
          refine ⟨f', h', st', v, st1, r4, rs'.mono x4, rv4, e3, fun σ2 rs2 _ => ⟨f', h', st1, r4, rs2, ?_⟩⟩
          have p2 := p'.mono x4
          cases z : evSs recS kb st1 h' with
          | stuck => rw [z] at p2; exact p2.elim
          | ok q h2 =>
            rw [z] at p2
            cases q with
            | nx st2 => exact fun f2 H2 x2 r2 σ2 rs2 => ⟨f2, h2, st2, (x'.trans x4).trans x2, r2, rs2, p2.mono x2⟩
            | ct st2 => exact fun f2 H2 x2 r2 σ2 rs2 => ⟨f2, h2, st2, (x'.trans x4).trans x2, r2, rs2, p2.mono x2⟩
            | bk st2 => exact fun f2 H2 x2 r2 σ2 rs2 => p2 _ _ x2 r2 _ rs2
            | rt v => exact fun f2 H2 x2 r2 w rw2 => p2 _ _ x2 r2 _ rw2
end
end Pyx

set_option Elab.async false
set_option linter.all false
set_option maxRecDepth 100000
set_option maxHeartbeats 4000000
/-! Pyx: dict displays, o[i] op= e, a list turned round. -/
namespace Pyx
open PySem PySem.Spec PyProof.Rows L2
section
variable {X : Cx} {c : Rc} {call : Nat → List PV → PH → R PV} {n : Nat} {rec : CE → PSt → PH → R PV} {a b d e : Expr} {ca cb cd ce : CE} {pos : Pos}
theorem RVs.rev {f : Nat → Addr} {m : Nat} {H : Hp} : ∀ {xs : List PV} {vs : List V}, RVs c f m H xs vs → RVs c f m H xs.reverse vs.reverse
  | [], [], .nil => .nil
  | _ :: _, _ :: _, .cons h t => by
    rw [List.reverse_cons, List.reverse_cons]
    exact t.rev.app (.cons h .nil)
theorem s_rev {k : Nat} {p1 p2 p3 : Pos} (hK : X.K = c.K) (ha : PE X a (tE c (rec ca))) : PE X (.Subscript a (.Slice none none (some (.UnaryOp .USub (.Constant (.int 1) k p1) p2)) p3) pos) (tE c (eRev rec ca)) := by
  refine pe_w (pe_revL ha) fun σ H Q ⟨f, h, st, r, rs, p⟩ => ?_
  unfold eRev at p
  split at p
  · exact p.elim
  · rename_i v h1 e1
    refine tE_of e1 r rs fun f1 H1 x x1 r1 rs1 rv1 => ?_
    split at p
    · rename_i xs e2
      obtain ⟨a, vs, rfl, hs, rv⟩ := seqL_at r1 rv1 e2
      have rv2 := rv.rev
      obtain ⟨z, k1⟩ := okL_at r1 rv2 (p.mono x1)
      rw [hK]
      exact ⟨a, vs, rfl, hs, k1⟩
    · exact p.elim
theorem s_dnew {t : Bool} : PE X (.Dict [] [] pos) (tE c fun _ h => eDnew t h) := by
  cases t with
  | true =>
    refine pe_w pe_dnewT fun σ H Q ⟨f, h, st, r, rs, p⟩ => fun q hq => ?_
    obtain ⟨r1, x1⟩ := r.lays (o := .dT []) (u := .dT []) hq (.dT upd_same .nil trivial)
    have z := RV.ref (c := c) (f := ext1 f h.n q) (n := h.n + 1) (H := upd H q (.dT [])) (Nat.lt_succ_self h.n)
    rw [ext1_at] at z
    exact p _ _ x1 r1 _ z
  | false =>
    refine pe_w pe_dnewK fun σ H Q ⟨f, h, st, r, rs, p⟩ => fun q hq => ?_
    obtain ⟨r1, x1⟩ := r.lays (o := .dK []) (u := .dK []) hq (.dK upd_same .nil trivial)
    have z := RV.ref (c := c) (f := ext1 f h.n q) (n := h.n + 1) (H := upd H q (.dK [])) (Nat.lt_succ_self h.n)
    rw [ext1_at] at z
    exact p _ _ x1 r1 _ z
/-! ### a display with int keys -/
inductive PDs (X : Cx) (c : Rc) (rec : CE → PSt → PH → R PV) : List (Option Expr) → List Expr → List CE → List CE → Prop where
  | nil : PDs X c rec [] [] [] []
  | cons {k v : Expr} {ck cv : CE} {ks : List (Option Expr)} {vs : List Expr} {cks cvs : List CE} : PE X k (tE c (rec ck)) → PE X v (tE c (rec cv)) → PDs X c rec ks vs cks cvs → PDs X c rec (some k :: ks) (v :: vs) (ck :: cks) (cv :: cvs)
def trD (c : Rc) (rec : CE → PSt → PH → R PV) : List CE → List CE → List (TE × TE)
  | k :: ks, v :: vs => (tE c (rec k), tE c (rec v)) :: trD c rec ks vs
  | _, _ => []
theorem PDs.shape {ks : List (Option Expr)} {vs : List Expr} {cks cvs : List CE} (h : PDs X c rec ks vs cks cvs) : ks.all (·.isSome) = true ∧ ks.length = vs.length ∧ PPs X pos ks vs (trD c rec cks cvs) := by
  induction h with
  | nil => exact ⟨rfl, rfl, pps_nil⟩
  | cons hk hv _ ih => exact ⟨by rw [List.all_cons, ih.1]; rfl, by rw [List.length_cons, List.length_cons, ih.2.1], pps_cons hk hv ih.2.2⟩
theorem trD_at {ks : List (Option Expr)} {vs : List Expr} {cks cvs : List CE} (hp : PDs X c rec ks vs cks cvs) : ∀ {f : Nat → Addr} {h : PH} {H : Hp} {st : PSt} {σ : L2.St} {Q : List (V × V) → Hp → Prop}, Rel c f h H → RSt c f h.n H st σ →
    Post c f h.n H (evPs rec cks cvs st h) (fun f' h' H' ps => ∀ kvs : List (Key × V), RD kI c f' h'.n H' ps kvs → Q (kvs.map fun kv => (kV kv.1, kv.2)) H') → tPairs (trD c rec cks cvs) σ H Q := by
  induction hp with
  | nil => intro f h H st σ Q r rs p; exact p _ _ .refl r [] .nil
  | cons hk hv _ ih =>
    intro f h H st σ Q r rs p
    unfold evPs at p
    split at p
    · rename_i i h1 e1
      refine tE_of e1 r rs fun f1 H1 x x1 r1 rs1 rv1 => ?_
      split at p
      · exact p.elim
      · rename_i y h2 e2
        refine tE_of e2 r1 rs1 fun f2 H2 z x2 r2 rs2 rv2 => ?_
        cases rv1
        refine ih r2 rs2 ?_
        have p2 := (p.mono x1).mono x2
        split at p2
        · exact p2.elim
        · rename_i ps h3 e3
          rw [e3]
          intro f3 H3 x3 r3 kvs rd
          exact p2 f3 H3 x3 r3 ((kI i, z) :: kvs) (.cons (rv2.mono x3) rd)
    · exact p.elim
theorem merge_at {f : Nat → Addr} {k : Nat} {H : Hp} : ∀ {ps : List (Int × PV)} {kvs : List (Key × V)} {acc : List (Int × PV)} {ws : List (Key × V)}, RD kI c f k H ps kvs → RD kI c f k H acc ws → NoTw ws → RD kI c f k H (mergeG ps acc) (mergeK ws kvs) ∧ NoTw (mergeK ws kvs)
  | _, _, _, _, .nil, h, nt => ⟨h, nt⟩
  | _, _, _, _, .cons (k := i) hv t, h, nt => by
    have z := merge_at t (h.put kI_inj i hv nt) nt.put
    exact z
theorem s_disp {ks : List (Option Expr)} {vs : List Expr} {cks cvs : List CE} (hp : PDs X c rec ks vs cks cvs) (h0 : ks ≠ []) (h15 : ks.length ≤ 15) : PE X (.Dict ks vs pos) (tE c (eDisp rec cks cvs)) := by
  obtain ⟨s1, s2, s3⟩ := hp.shape (pos := pos)
  refine pe_w (pe_disp s3 s1 s2 h0 h15) fun σ H Q ⟨f, h, st, r, rs, p⟩ => fun q hq => ?_
  obtain ⟨r1, x1⟩ := r.lays (o := .dK []) (u := .dK []) hq (.dK upd_same .nil trivial)
  refine trD_at hp r1 (rs.mono x1) ?_
  unfold eDisp at p
  split at p
  · exact p.elim
  · rename_i ps h1 e1
    rw [e1]
    intro f2 H2 x2 r2 kvs rd
    have eq : f2 h.n = q := by rw [x2.eq _ (Nat.lt_succ_self h.n)]; exact ext1_at
    split at p
    · rename_i g
      split at p
      · rename_i hz
        cases r2.obj _ _ g with
        | dK g1 g2 g3 =>
          cases g2
          obtain ⟨m1, m2⟩ := merge_at rd .nil trivial
          obtain ⟨r3, x3⟩ := r2.writeK g m1 m2
          rw [eq] at g1 r3 x3
          refine ⟨g1, kvs, rfl, by rw [← rd.length]; exact Nat.le_of_ble_eq_true hz, ?_⟩
          have z := RV.ref (c := c) (f := f2) (n := h1.n) (H := upd H2 q (.dK (mergeK [] kvs))) (get_lt g)
          rw [eq] at z
          exact p _ _ ((x1.trans x2).trans x3) r3 _ z
      · exact p.elim
    · exact p.elim
/-! ### o[i] op= e -/
def rGetP (c : Rc) : V → V → Hp → VK → Prop := fun x y H Q => ∃ f h pv pw pu, Rel c f h H ∧ RV c f h.n H pv x ∧ RV c f h.n H pw y ∧ ixP pv pw h = some pu ∧ (∀ xs, pv ≠ .tup xs) ∧ ∀ v, RV c f h.n H pu v → Q v H
theorem get_list : PGet X (rIxL X.K) := by
  intro pins s σ H x y v u Q I rx ry h
  obtain ⟨p, xs, i, z, rfl, rfl, hq, he, q⟩ := h
  cases rx
  obtain ⟨t, rfl⟩ := ry
  obtain ⟨its, r, pl, hz⟩ := I.list hq
  obtain ⟨j, h1, h2, h3, h4, h5⟩ := atI_get he
  obtain ⟨w, ew, rw'⟩ := r.get h2
  have hl := r.length
  have hn := line63
  have fin : EP X pins σ Q w s := ⟨z, H, I, rw', q⟩
  by_cases h0 : 0 ≤ i
  · have hj : i.toNat = j := by
      rw [seqIndex_of h0 h5] at h1
      exact Option.some.inj h1
    exact wpAny_getItem_list pl.isList h0 (by omega) (by rw [hj]; simpa using ew) fin
  · have hj : (i + (its.toArray.size : Int)).toNat = j := by
      rw [seqIndex_neg (by omega) h4] at h1
      rw [List.size_toArray, ← hl]
      exact Option.some.inj h1
    exact wpAny_getItem_list_neg pl.isList (by omega) (by rw [List.size_toArray] <;> omega) (by omega) (by rw [hj]; simpa using ew) fin
theorem getP_at (hK : X.K = c.K) (hu : X.A.units + 65 < cLine) : PGet X (rGetP c) := by
  intro pins s σ H x y v u Q I rx ry ⟨f, h, pv, pw, pu, r, r1, r2, p, nt, q⟩
  have dict : dGetP pv pw h = some pu → wpAny (model X.prog X.w) X.A (getItem v u) (EP X pins σ Q) X.xe s := fun p => by
    obtain ⟨a, w, e, g, r3⟩ := dGetP_at r r1 r2 p
    subst e
    cases (show v = Value.ref a from rx)
    exact d_getItem (by omega) I g ry fun w' s' I' rw' => ⟨w, H, I', rw', q w r3⟩
  unfold ixP at p
  split at p
  · rename_i i
    split at p
    · rename_i xs e
      cases r2
      obtain ⟨a, vs, ea, hs, rv⟩ := seqOf_at2 r r1 e
      obtain ⟨w, e1, r3⟩ := atI_at rv p
      rcases hs with hs | hs
      · rw [← hK] at hs
        exact get_list pins s σ H x _ v u Q I rx ry ⟨a, vs, i, w, ea, rfl, hs, e1, q w r3⟩
      · exact absurd hs.1 (nt _)
    · exact dict p
  · exact dict p
theorem setP_tup {xs : List PV} {k v : PV} {h : PH} : setP (.tup xs) k v h = none := by
  unfold setP lstAt dPutP
  dsimp only
  split
  · rename_i z; cases z
  · rfl
variable {recS : CS → PSt → PH → R FR} {ev : CE → PSt → PH → R PV}
theorem t_augix {o i : Expr} {co ci : CE} {op : Bop} {tpos : Pos} (hK : X.K = c.K) (hu : X.A.units + 65 < cLine) (hs : noSlice i = true) (ho : PE X o (tE c (ev co))) (hi : PE X i (tE c (ev ci))) (he : PE X e (tE c (ev ce))) :
    PS X (.AugAssign (.Subscript o i tpos) (opB op) e pos) (tS c (xAugix n ev recS co ci op ce)) := by
  refine ps_w (ps_augS ho hi (getP_at (c := c) hK hu) he (ip_aug op) (set_at (c := c) hu) (by intro ov iv new; cases i <;> first | rfl | (cases hs; done))) fun D σ H ⟨f, h, st, r, rs, p⟩ => ?_
  unfold xAugix at p
  split at p
  · exact p.elim
  · rename_i x h1 e1
    refine tE_of e1 r rs fun f1 H1 v1 x1 r1 rs1 rv1 => ?_
    split at p
    · exact p.elim
    · rename_i k h2 e2
      refine tE_of e2 r1 rs1 fun f2 H2 v2 x2 r2 rs2 rv2 => ?_
      split at p
      · rename_i z e3
        split at p
        · rename_i y h3 e4
          split at p
          · rename_i m e5
            split at p
            · rename_i h4 e6
              refine ⟨f2, h2, x, k, _, r2, rv1.mono x2, rv2, e3, fun xs ex => ?_, fun v rv3 => ?_⟩
              · rw [ex, setP_tup] at e6
                cases e6
              · cases rv3
                refine tE_of e4 r2 rs2 fun f3 H3 v3 x3 r3 rs3 rv3 => ?_
                cases rv3
                refine ⟨_, _, _, rfl, rfl, e5, f3, h3, x, k, .int m, h4, r3, (rv1.mono x2).mono x3, rv2.mono x3, .int _, e6, fun H' r4 x4 => ?_⟩
                exact p _ _ (((x1.trans x2).trans x3).trans x4) r4 _ (rs3.mono x4)
            · exact p.elim
          · exact p.elim
        · exact p.elim
      · exact p.elim
end
end Pyx

set_option Elab.async false
set_option linter.all false
set_option maxRecDepth 100000
set_option maxHeartbeats 4000000
/-! Pyx: from the text to the code. -/
namespace Pyx
open PySem PySem.Spec PyProof.Rows L2
structure CEnv where
  N : List Str
  names : List (Str × NameKind)
  fns : List (Str × (Nat × Nat))
  consts : List (Str × PV)
  nob : List Str
  dts : List Nat
def gd {α : Type} (b : Bool) (o : Option α) : Option α := match b with
  | true => o
  | false => none
def bd {α β : Type} (o : Option α) (f : α → Option β) : Option β := match o with
  | some a => f a
  | none => none
theorem gd_is {α : Type} {b : Bool} {o : Option α} {r : α} (h : gd b o = some r) : b = true ∧ o = some r := by
  cases b with
  | true => exact ⟨rfl, h⟩
  | false => cases h
theorem bd_is {α β : Type} {o : Option α} {f : α → Option β} {r : β} (h : bd o f = some r) : ∃ a, o = some a ∧ f a = some r := by
  cases o with
  | some a => exact ⟨a, rfl, h⟩
  | none => cases h
def ixOf (x : Str) : List Str → Nat → Option Nat
  | [], _ => none
  | y :: r, i => match decide (y = x) with
    | true => some i
    | false => ixOf x r (i + 1)
theorem ixOf_is {x : Str} : ∀ {N : List Str} {i j : Nat}, ixOf x N i = some j → i ≤ j ∧ N[j - i]? = some x
  | [], _, _, h => by cases h
  | y :: r, i, j, h => by
    unfold ixOf at h
    split at h
    · rename_i e
      cases h
      have e := of_decide_eq_true e
      subst e
      exact ⟨Nat.le_refl _, by rw [Nat.sub_self]; rfl⟩
    · obtain ⟨h1, h2⟩ := ixOf_is h
      refine ⟨Nat.le_of_succ_le h1, ?_⟩
      rw [show j - i = (j - (i + 1)) + 1 by omega, List.getElem?_cons_succ]
      exact h2
def isVis : Option NameKind → Bool
  | some .local => true
  | some .cell => true
  | some .free => true
  | _ => false
def isLoc : Option NameKind → Bool
  | some .local => true
  | some .cell => true
  | _ => false
def isGl : Option NameKind → Bool
  | some .globalImplicit => true
  | _ => false
def okName (x : Str) : Bool := !(x == ("__debug__" : Str)) && !(x == ("__classdict__" : Str))
def cVar (Γ : CEnv) (x : Str) : Option Nat := gd (okName x && isVis (Γ.names.lookup x)) (ixOf x Γ.N 0)
def cLoc (Γ : CEnv) (x : Str) : Option Nat := gd (isLoc (Γ.names.lookup x)) (ixOf x Γ.N 0)
/-- a built-in name that stands for itself -/
def bltin (Γ : CEnv) (x : Str) : Bool := isGl (Γ.names.lookup x) && Γ.nob.contains x
def bopOf : Operator → Option Bop
  | .Add => some .add
  | .Sub => some .sub
  | .Mult => some .mul
  | .FloorDiv => some .fdiv
  | .Mod => some .mod
  | .Pow => some .pow
  | _ => none
def copOf : CmpOp → Expr → Option Cop
  | .Eq, _ => some .eq
  | .NotEq, _ => some .ne
  | .Lt, _ => some .lt
  | .LtE, _ => some .le
  | .Gt, _ => some .gt
  | .GtE, _ => some .ge
  | .Is, _ => some .is
  | .IsNot, _ => some .nis
  | _, _ => none
def tyOf (x : Str) : Option Ty := match decide (x = tyS .int) with
  | true => some .int
  | false => match decide (x = tyS .bool) with
    | true => some .bool
    | false => match decide (x = tyS .str) with
      | true => some .str
      | false => match decide (x = tyS .tuple) with
        | true => some .tuple
        | false => match decide (x = tyS .list) with
          | true => some .list
          | false => none
theorem tyOf_is {x : Str} {t : Ty} (h : tyOf x = some t) : x = tyS t := by
  unfold tyOf at h
  repeat' split at h
  all_goals first | (cases h; done) | (cases h; rename_i e; exact of_decide_eq_true e)
def biOf (x : Str) : Option Bi := [Bi.len, .min, .max, .sum, .sorted, .abs, .list, .tuple, .int, .set].find? fun b => decide (x = biN b)
theorem biOf_is {x : Str} {b : Bi} (h : biOf x = some b) : x = biN b := by
  have q := List.find?_some (p := fun b => decide (x = biN b)) h
  exact of_decide_eq_true q
def mtOf (x : Str) : Option Mt := [Mt.append, .pop, .count].find? fun m => decide (x = mtN m)
theorem mtOf_is {x : Str} {m : Mt} (h : mtOf x = some m) : x = mtN m := by
  have q := List.find?_some (p := fun m => decide (x = mtN m)) h
  exact of_decide_eq_true q
/-- a comprehension's own names with their slots -/
def ownOf (Γ : CEnv) (scope : Scope) : List (Str × Nat) := scope.names.filterMap fun y => match isLoc (some y.2) with
  | true => (ixOf y.1 Γ.N 0).map fun i => (y.1, i)
  | false => none
def fkS (names : List (Str × NameKind)) : Scope := { kind := .function, names := names, isGenerator := false, isCoroutine := false }
structure Cmp where
  E : CEnv → Expr → Option CE
  B : CEnv → Expr → Option CB
def cEs (f : Expr → Option CE) : List Expr → Option (List CE)
  | [] => some []
  | e :: es => bd (f e) fun c => bd (cEs f es) fun cs => some (c :: cs)
def cAnds (f : Expr → Option CE) : List Expr → Option CE
  | [] => none
  | [a] => f a
  | a :: b :: r => bd (f a) fun x => bd (cAnds f (b :: r)) fun y => some (.and x y)
def cOrs (f : Expr → Option CE) : List Expr → Option CE
  | [] => none
  | [a] => f a
  | a :: b :: r => bd (f a) fun x => bd (cOrs f (b :: r)) fun y => some (.or x y)
def bAnds (f : Expr → Option CB) : List Expr → Option CB
  | [] => none
  | [a] => f a
  | a :: b :: r => bd (f a) fun x => bd (bAnds f (b :: r)) fun y => some (.and x y)
def bOrs (f : Expr → Option CB) : List Expr → Option CB
  | [] => none
  | [a] => f a
  | a :: b :: r => bd (f a) fun x => bd (bOrs f (b :: r)) fun y => some (.or x y)
def cOpt (f : Expr → Option CE) : Option Expr → Option (Option CE)
  | none => some none
  | some e => bd (f e) fun c => some (some c)
def cTgts (f : Expr → Option CT) : List Expr → Option (List CT)
  | [] => some []
  | e :: es => gd (noStar e) (bd (f e) fun c => bd (cTgts f es) fun cs => some (c :: cs))
def cTgt : Nat → CEnv → Expr → Option CT
  | 0, _, _ => none
  | n + 1, Γ, e => match e with
    | .Name x _ => bd (cLoc Γ x) fun i => some (.nm i)
    | .Tuple es _ _ => bd (cTgts (cTgt n Γ) es) fun ts => some (.tup ts)
    | _ => none
def isTupT : Expr → Bool
  | .Tuple _ _ _ => true
  | _ => false
/-- what is walked; tg: the target -/
def cIt (C : Cmp) (Γ : CEnv) (tg it : Expr) : Option CI := match it with
  | .Call (.Name x _) [a] [] _ => match decide (x = "range") && bltin Γ x with
    | true => gd (noStar a) (bd (C.E Γ a) fun ca => some (.rng1 ca))
    | false => match decide (x = "enumerate") && bltin Γ x && isTupT tg with
      | true => gd (noStar a) (bd (C.E Γ a) fun ca => some (.enum ca))
      | false => bd (C.E Γ it) fun c => some (.over c)
  | .Call (.Name x _) [a, b] [] _ => match decide (x = "range") && bltin Γ x with
    | true => gd (noStar a && noStar b) (bd (C.E Γ a) fun ca => bd (C.E Γ b) fun cb => some (.rng2 ca cb))
    | false => match decide (x = "zip") && bltin Γ x && isTupT tg with
      | true => gd (noStar a && noStar b) (bd (C.E Γ a) fun ca => bd (C.E Γ b) fun cb => some (.zip ca cb))
      | false => bd (C.E Γ it) fun c => some (.over c)
  | _ => bd (C.E Γ it) fun c => some (.over c)
def cIfs (C : Cmp) (Γ : CEnv) : List Expr → Option (Option CB)
  | [] => some none
  | [b] => bd (C.B Γ b) fun c => some (some c)
  | _ => none
/-- a comprehension of one clause -/
def cLc (C : Cmp) (Γ : CEnv) (elt : Expr) (gens : List Comprehension) (scope : Scope) : Option CE := match gens with
  | [⟨tg, iter, ifs, 0⟩] =>
    gd (blkC Γ.N (fkS Γ.names) scope (ownOf Γ scope) && noSet iter) (bd (cIt C Γ tg iter) fun ci =>
      bd (cTgt 9 { Γ with names := scope.names } tg) fun ct => bd (cIfs C { Γ with names := scope.names } ifs) fun co =>
        bd (C.E { Γ with names := scope.names } elt) fun ce => some (.lc ci ct ((ownOf Γ scope).map (·.2)) co ce))
  | _ => none
def cIsi (C : Cmp) (Γ : CEnv) (es : List Expr) : Option CE := match es with
  | [a, .Name t _] => gd (noStar a && bltin Γ t) (bd (tyOf t) fun ty => bd (C.E Γ a) fun ca => some (.isi ca ty))
  | [a, .Tuple [.Name t _, .Name u _] _ _] => gd (noStar a && bltin Γ t && bltin Γ u) (bd (tyOf t) fun ty => bd (tyOf u) fun uy => bd (C.E Γ a) fun ca => some (.isis ca ty uy))
  | _ => none
/-- list(range(a, b)) -/
def lrgOf (x : Str) (es : List Expr) : Option (Expr × Expr) := match decide (x = "list") with
  | true => match es with
    | [.Call (.Name y _) [a, b] [] _] => match decide (y = "range") with
      | true => some (a, b)
      | false => none
    | _ => none
  | false => none
theorem lrgOf_is {x : Str} {es : List Expr} {a b : Expr} (h : lrgOf x es = some (a, b)) : x = "list" ∧ ∃ p q, es = [.Call (.Name "range" p) [a, b] [] q] := by
  unfold lrgOf at h
  split at h
  · rename_i e
    split at h
    · split at h
      · rename_i e2
        cases h
        have e2 := of_decide_eq_true e2
        subst e2
        exact ⟨of_decide_eq_true e, _, _, rfl⟩
      · cases h
    · cases h
  · cases h
/-- f(..), f a local -/
def cCallV (C : Cmp) (Γ : CEnv) (x : Str) (es : List Expr) : Option CE := gd (es.all noStar && !es.isEmpty) (bd (cVar Γ x) fun i => bd (cEs (C.E Γ) es) fun cs => some (.callv i cs))
/-- f(..) -/
def cCall (C : Cmp) (Γ : CEnv) (x : Str) (es : List Expr) : Option CE := match isVis (Γ.names.lookup x) with
 | true => cCallV C Γ x es
 | false => match Γ.fns.lookup x with
  | some (k, ar) => gd (isGl (Γ.names.lookup x) && !(x == ("__debug__" : Str)) && es.all noStar && decide (es.length = ar)) (bd (cEs (C.E Γ) es) fun cs => some (.call k cs))
  | none => gd (bltin Γ x) (match decide (x = "isinstance") with
    | true => cIsi C Γ es
    | false => match lrgOf x es with
      | some (a, b) => gd (bltin Γ "range" && noStar a && noStar b) (bd (C.E Γ a) fun ca => bd (C.E Γ b) fun cb => some (.lrg ca cb))
      | none => gd (es.all noStar && !es.isEmpty) (bd (biOf x) fun b => bd (cEs (C.E Γ) es) fun cs => some (.bi b cs)))
/-- a global name read: a constant, a def -/
def cGlob (Γ : CEnv) (x : Str) : Option CE := match Γ.consts.lookup x with
  | some v => some (.val v)
  | none => bd (Γ.fns.lookup x) fun p => some (.val (.fn p.1))
def keysOf : List (Option Expr) → Option (List Expr)
  | [] => some []
  | some k :: r => bd (keysOf r) fun ks => some (k :: ks)
  | none :: _ => none
def posN (p : Pos) : Nat := p.line * 1000 + p.col
/-- a dict's display; dts tells the empty ones whose keys are tuples -/
def cDict (C : Cmp) (Γ : CEnv) (ks : List (Option Expr)) (vs : List Expr) (p : Pos) : Option CE := match ks, vs with
  | [], [] => some (.dnew (Γ.dts.contains (posN p)))
  | ks, vs => gd (Nat.ble ks.length 15 && !ks.isEmpty) (bd (keysOf ks) fun ks => bd (cEs (C.E Γ) ks) fun cks => bd (cEs (C.E Γ) vs) fun cvs => gd (decide (ks.length = vs.length)) (some (.disp cks cvs)))
def isOne : Expr → Bool
  | .UnaryOp .USub (.Constant (.int 1) _ _) _ => true
  | _ => false
def stepC (C : Cmp) : Cmp where
  E := fun Γ e => match e with
    | .Name x _ => match isVis (Γ.names.lookup x) with
      | true => bd (cVar Γ x) fun i => some (.var i)
      | false => gd (isGl (Γ.names.lookup x) && okName x) (cGlob Γ x)
    | .Constant (.int i) _ _ => some (.val (.int i))
    | .Constant (.bool b) _ _ => some (.val (.bl b))
    | .Constant .none _ _ => some (.val .non)
    | .Constant (.str s) _ _ => some (.val (.str s))
    | .BinOp a op b _ => bd (bopOf op) fun o => bd (C.E Γ a) fun x => bd (C.E Γ b) fun y => some (.bin o x y)
    | .UnaryOp .USub a _ => bd (C.E Γ a) fun x => some (.neg x)
    | .UnaryOp .Not a _ => bd (C.E Γ a) fun x => some (.not x)
    | .Compare a [op] [b] _ => match op with
      | .In => gd (noSet b) (bd (C.E Γ a) fun x => bd (C.E Γ b) fun y => some (.isin false x y))
      | .NotIn => gd (noSet b) (bd (C.E Γ a) fun x => bd (C.E Γ b) fun y => some (.isin true x y))
      | _ => gd (noSet b) (bd (copOf op b) fun o => bd (C.E Γ a) fun x => bd (C.E Γ b) fun y => some (.cmp o x y))
    | .Compare a [o1, o2] [b, d] _ => gd (noSet d) (bd (copOf o1 b) fun p => bd (copOf o2 d) fun q => bd (C.E Γ a) fun x => bd (C.E Γ b) fun y => bd (C.E Γ d) fun z => some (.chain p q x y z))
    | .BoolOp .And es _ => cAnds (C.E Γ) es
    | .BoolOp .Or es _ => cOrs (C.E Γ) es
    | .IfExp t a b _ => bd (C.B Γ t) fun x => bd (C.E Γ a) fun y => bd (C.E Γ b) fun z => some (.ite x y z)
    | .Tuple es _ _ => gd (es.all noStar) (bd (cEs (C.E Γ) es) fun cs => some (.tup cs))
    | .List es _ => gd (es.all noStar) (bd (cEs (C.E Γ) es) fun cs => some (.lst cs))
    | .Call (.Name x _) es [] _ => cCall C Γ x es
    | .Call (.Attribute o m apos) es [] cpos => gd (noBase o && (apos.endLine == cpos.line)) (bd (mtOf m) fun mt => match mt, es with
      | .append, [a] => gd (noStar a) (bd (C.E Γ o) fun co => bd (C.E Γ a) fun ca => some (.mt .append co [ca]))
      | .count, [a] => gd (noStar a) (bd (C.E Γ o) fun co => bd (C.E Γ a) fun ca => some (.mt .count co [ca]))
      | .pop, [] => bd (C.E Γ o) fun co => some (.mt .pop co [])
      | _, _ => none)
    | .Subscript a (.Slice lo hi none _) _ => bd (C.E Γ a) fun x => bd (cOpt (C.E Γ) lo) fun l => bd (cOpt (C.E Γ) hi) fun h => some (.sl x l h)
    | .Subscript a (.Slice none none (some st) _) _ => gd (isOne st) (bd (C.E Γ a) fun x => some (.rev x))
    | .Dict ks vs p => cDict C Γ ks vs p
    | .Subscript a b _ => gd (noSlice b) (bd (C.E Γ a) fun x => bd (C.E Γ b) fun y => some (.ix x y))
    | .ListComp elt gens scope _ => cLc C Γ elt gens scope
    | _ => none
  B := fun Γ e => match e with
    | .UnaryOp .Not a _ => bd (C.B Γ a) fun x => some (.not x)
    | .BoolOp .And es _ => bAnds (C.B Γ) es
    | .BoolOp .Or es _ => bOrs (C.B Γ) es
    | .Compare a [op] [b] _ => match op with
      | .In => gd (noSet b) (bd (C.E Γ a) fun x => bd (C.E Γ b) fun y => some (.bl (.isin false x y)))
      | .NotIn => gd (noSet b) (bd (C.E Γ a) fun x => bd (C.E Γ b) fun y => some (.bl (.isin true x y)))
      | _ => gd (noSet b) (bd (copOf op b) fun o => bd (C.E Γ a) fun x => bd (C.E Γ b) fun y => some (.bl (.cmp o x y)))
    | .Compare a [o1, o2] [b, d] _ => gd (noSet d) (bd (copOf o1 b) fun p => bd (copOf o2 d) fun q => bd (C.E Γ a) fun x => bd (C.E Γ b) fun y => bd (C.E Γ d) fun z => some (.bl (.chain p q x y z)))
    | _ => gd (plainT e) (bd (C.E Γ e) fun x => some (.val x))
def cmpN : Nat → Cmp
  | 0 => ⟨fun _ _ => none, fun _ _ => none⟩
  | n + 1 => stepC (cmpN n)
end Pyx

set_option Elab.async false
set_option linter.all false
set_option maxRecDepth 100000
set_option maxHeartbeats 4000000
/-! Pyx: what is compiled is right. -/
namespace Pyx
open PySem PySem.Spec PyProof.Rows L2
def FnIn (c : Rc) (call : Nat → List PV → PH → R PV) (X : Cx) (x : Str) (k ar : Nat) : Prop := ∃ fd ps lvl, X.mg x = some (.ref (c.F k)) ∧ PySem.W.keepIn X.K (.ref (c.F k)) = true ∧ Binds X.K fd ps [] ∧ Room lvl X.A ∧
  FnOk X.prog X.w X.K X.mg X.base CX0 lvl (c.F k) fd ps (spF c call k ar)
structure Good (c : Rc) (call : Nat → List PV → PH → R PV) (Γ : CEnv) (X : Cx) : Prop where
  K : X.K = c.K
  W : X.w = c.w
  calm : X.calm = true
  nd : X.N.Nodup
  N : X.N = Γ.N
  xe : X.xe = fun _ _ => False
  vis : ∀ x, isVis (Γ.names.lookup x) = true → Vis X.env.scope x
  loc : ∀ x, isLoc (Γ.names.lookup x) = true → Loc X.env.scope x ∧ (X.fn x = true ∨ X.env.scope.names.lookup x = some .local)
  fr : ∀ x, (Γ.names.lookup x = some .cell ∨ Γ.names.lookup x = some .free) → (X.env.scope.names.lookup x = some .cell ∨ X.env.scope.names.lookup x = some .free)
  gl : ∀ x, isGl (Γ.names.lookup x) = true → Gl X x
  fns : ∀ x k ar, Γ.fns.lookup x = some (k, ar) → FnIn c call X x k ar
  fnv : ∀ k vs h, call k vs h ≠ .stuck → ∃ x, FnIn c call X x k vs.length
  consts : ∀ x v, Γ.consts.lookup x = some v → ∃ u w, X.mg x = some u ∧ RelV w u ∧ ∀ f n H, RV c f n H v w
  nob : ∀ x, Γ.nob.contains x = true → X.mg x = none
  units : X.A.units + 65 < cLine
section
variable {c : Rc} {call : Nat → List PV → PH → R PV} {Γ : CEnv} {X : Cx}
theorem bltin_is (G : Good c call Γ X) {x : Str} (h : bltin Γ x = true) : Gl X x ∧ X.mg x = none := by
  unfold bltin at h
  rw [Bool.and_eq_true] at h
  exact ⟨G.gl x h.1, G.nob x h.2⟩
theorem okName_is {x : Str} (h : okName x = true) : (x == ("__debug__" : Str)) = false ∧ (x == ("__classdict__" : Str)) = false := by
  unfold okName at h
  rw [Bool.and_eq_true, Bool.not_eq_true', Bool.not_eq_true'] at h
  exact h
theorem cVar_is (G : Good c call Γ X) {x : Str} {i : Nat} (h : cVar Γ x = some i) : X.N[i]? = some x ∧ Vis X.env.scope x ∧ (x == ("__debug__" : Str)) = false ∧ (x == ("__classdict__" : Str)) = false := by
  obtain ⟨h1, h2⟩ := gd_is h
  rw [Bool.and_eq_true] at h1
  obtain ⟨h3, h4⟩ := okName_is h1.1
  have q := (ixOf_is h2).2
  rw [Nat.sub_zero, ← G.N] at q
  exact ⟨q, G.vis x h1.2, h3, h4⟩
theorem cLoc_is (G : Good c call Γ X) {x : Str} {i : Nat} (h : cLoc Γ x = some i) : X.N[i]? = some x ∧ Loc X.env.scope x ∧ (X.fn x = true ∨ X.env.scope.names.lookup x = some .local) := by
  obtain ⟨h1, h2⟩ := gd_is h
  have q := (ixOf_is h2).2
  rw [Nat.sub_zero, ← G.N] at q
  exact ⟨q, G.loc x h1⟩
/-! ### a comprehension's block -/
theorem lookup_mapk {g : Str → NameKind → NameKind} : ∀ (l : List (Str × NameKind)) (x : Str), (l.map fun p => (p.1, g p.1 p.2)).lookup x = (l.lookup x).map (g x)
  | [], _ => rfl
  | (n, k) :: r, x => by
    rw [List.map_cons, List.lookup_cons, List.lookup_cons]
    cases h : x == n with
    | true =>
      have e : x = n := by simpa using h
      subst e
      rfl
    | false => exact lookup_mapk r x
theorem relabel_look (scope : Scope) (env : Env) (x : Str) : (relabel scope env).names.lookup x = (scope.names.lookup x).map fun k => if (k == .free && env.scope.kind == .function && env.kindOf x == some .cell) = true then .cell else k := by
  have e : (relabel scope env).names = scope.names.map fun p => (p.1, if (p.2 == .free && env.scope.kind == .function && env.kindOf p.1 == some .cell) = true then .cell else p.2) := by
    unfold relabel
    refine List.map_congr_left fun p _ => ?_
    obtain ⟨n, k⟩ := p
    dsimp only
    split
    · rename_i h; rfl
    · rename_i h; rfl
  rw [e, lookup_mapk (g := fun n k => if (k == .free && env.scope.kind == .function && env.kindOf n == some .cell) = true then .cell else k)]
theorem good_blk (G : Good c call Γ X) (s : Shared) (H : Hp) (scope : Scope) (C : Addr) (cl : List (Str × Addr)) (fp : List Addr) : Good c call { Γ with names := scope.names } (X.blk s H scope (compEnvC scope cl C X.env) fp) where
  K := G.K
  W := G.W
  calm := G.calm
  nd := G.nd
  N := G.N
  xe := rfl
  vis := fun x h => by
    show Vis (relabel scope X.env) x
    unfold Vis
    rw [relabel_look]
    cases e : scope.names.lookup x with
    | none => have h : isVis (scope.names.lookup x) = true := h; rw [e] at h; cases h
    | some k =>
      have h : isVis (scope.names.lookup x) = true := h
      rw [e] at h
      rw [Option.map_some]
      split
      · exact .inr (.inl rfl)
      · cases k <;> first | (cases h; done) | exact .inl rfl | exact .inr (.inl rfl) | exact .inr (.inr rfl)
  loc := fun x h => by
    have h : isLoc (scope.names.lookup x) = true := h
    show Loc (relabel scope X.env) x ∧ ((scope.names.lookup x == some .cell) = true ∨ (relabel scope X.env).names.lookup x = some .local)
    unfold L2.Loc
    rw [relabel_look]
    cases e : scope.names.lookup x with
    | none => rw [e] at h; cases h
    | some k =>
      rw [e] at h
      cases k <;> first | (cases h; done) | exact ⟨.inl rfl, .inr rfl⟩ | exact ⟨.inr rfl, .inl rfl⟩
  fr := fun x h => by
    have h : scope.names.lookup x = some .cell ∨ scope.names.lookup x = some .free := h
    show (relabel scope X.env).names.lookup x = some .cell ∨ (relabel scope X.env).names.lookup x = some .free
    rw [relabel_look]
    rcases h with h | h
    · rw [h]; exact .inl rfl
    · rw [h, Option.map_some]
      split
      · exact .inl rfl
      · exact .inr rfl
  gl := fun x h => by
    have h : isGl (scope.names.lookup x) = true := h
    show (relabel scope X.env).names.lookup x = some .globalImplicit
    rw [relabel_look]
    cases e : scope.names.lookup x with
    | none => rw [e] at h; cases h
    | some k =>
      rw [e] at h
      cases k <;> first | (cases h; done) | rfl
  fns := G.fns
  fnv := G.fnv
  consts := G.consts
  nob := G.nob
  units := G.units
theorem blk_of (G : Good c call Γ X) {scope : Scope} {own : List (Str × Nat)} (h : blkC Γ.N (fkS Γ.names) scope own = true) : BlkOk X.N X.env.scope scope own := by
  have B := blkOk_by h
  rw [G.N]
  exact ⟨B.kind, B.uniq, B.ix, fun y hy e => G.fr _ (B.free y hy e), B.own⟩
/-! ### expressions -/
structure COk (c : Rc) (call : Nat → List PV → PH → R PV) (C : Cmp) : Prop where
  E : ∀ Γ X, Good c call Γ X → ∀ e ce, C.E Γ e = some ce → ∀ n, PE X e (tE c (evE call n ce))
  B : ∀ Γ X, Good c call Γ X → ∀ e cb, C.B Γ e = some cb → ∀ n, PT X e (tB' c (evB (evE call n) cb))
theorem pes_of {f : Expr → Option CE} {rec : CE → PSt → PH → R PV} (hf : ∀ e ce, f e = some ce → PE X e (tE c (rec ce))) : ∀ {es : List Expr} {cs : List CE}, es.all noStar = true → cEs f es = some cs → PEs X c rec es cs
  | [], cs, _, h => by cases h; exact .nil
  | e :: es, cs, hs, h => by
    rw [List.all_cons, Bool.and_eq_true] at hs
    obtain ⟨ce, h1, h⟩ := bd_is h
    obtain ⟨ces, h2, h⟩ := bd_is h
    cases h
    exact .cons hs.1 (hf e ce h1) (pes_of hf hs.2 h2)
theorem stuck0 {e : Expr} {ce : CE} : PE X e (tE c (evE call 0 ce)) := s_stuck fun _ _ => rfl
theorem evB0 : ∀ (cb : CB) (st : PSt) (h : PH), evB (evE call 0) cb st h = .stuck
  | .val e, st, h => rfl
  | .bl e, st, h => rfl
  | .not b, st, h => by unfold evB; rw [evB0 b]
  | .and a b, st, h => by unfold evB; rw [evB0 a]
  | .or a b, st, h => by unfold evB; rw [evB0 a]
theorem stuckB0 {e : Expr} {cb : CB} : PT X e (tB' c (evB (evE call 0) cb)) := ⟨fun pins s σ H Q I ⟨f, h, st, r, r', p⟩ => by rw [evB0] at p; exact p.elim⟩
theorem tgts_of {f : Expr → Option CT} (hf : ∀ e t, f e = some t → PG X e (tT c t)) : ∀ {es : List Expr} {ts : List CT}, cTgts f es = some ts → PTgs X c es ts
  | [], ts, h => by cases h; exact .nil
  | e :: es, ts, h => by
    obtain ⟨hs, h⟩ := gd_is h
    obtain ⟨t, h1, h⟩ := bd_is h
    obtain ⟨ts', h2, h⟩ := bd_is h
    cases h
    exact .cons hs (hf e t h1) (tgts_of hf h2)
theorem tgt_of : ∀ (m : Nat) {Γ : CEnv} {X : Cx}, Good c call Γ X → ∀ e t, cTgt m Γ e = some t → PG X e (tT c t)
  | 0, _, _, _, _, _, h => by cases h
  | m + 1, Γ, X, G, e, t, h => by
    unfold cTgt at h
    split at h
    · obtain ⟨i, h1, h⟩ := bd_is h
      cases h
      obtain ⟨q1, q2, q3⟩ := cLoc_is G h1
      exact g_nm G.nd q1 q2 q3
    · obtain ⟨ts, h1, h⟩ := bd_is h
      cases h
      exact g_tup G.K G.calm (tgts_of (tgt_of m G) h1)
    · cases h
theorem isTup_is {e : Expr} (h : isTupT e = true) : ∃ a b p, e = .Tuple a b p := by
  cases e <;> first | (cases h; done) | exact ⟨_, _, _, rfl⟩
section
variable {C : Cmp}
theorem it_of (K : COk c call C) (G : Good c call Γ X) {tg it : Expr} {ci : CI} (h : cIt C Γ tg it = some ci) (n : Nat) : PI X tg it (tI c (evI (evE call n) ci)) := by
  have over : ∀ {ci}, (bd (C.E Γ it) fun c => some (CI.over c)) = some ci → PI X tg it (tI c (evI (evE call n) ci)) := fun h => by
    obtain ⟨ce, h1, h⟩ := bd_is h
    cases h
    exact i_over G.K (K.E Γ X G _ _ h1 n)
  unfold cIt at h
  split at h
  · split at h
    · rename_i e
      rw [Bool.and_eq_true] at e
      obtain ⟨hs, h⟩ := gd_is h
      obtain ⟨ca, h1, h⟩ := bd_is h
      cases h
      have ex := of_decide_eq_true e.1
      subst ex
      obtain ⟨g1, g2⟩ := bltin_is G e.2
      exact i_rng1 g1 g2 hs (K.E Γ X G _ _ h1 n)
    · split at h
      · rename_i e
        rw [Bool.and_eq_true, Bool.and_eq_true] at e
        obtain ⟨hs, h⟩ := gd_is h
        obtain ⟨ca, h1, h⟩ := bd_is h
        cases h
        have ex := of_decide_eq_true e.1.1
        subst ex
        obtain ⟨g1, g2⟩ := bltin_is G e.1.2
        obtain ⟨_, _, _, et⟩ := isTup_is e.2
        subst et
        exact i_enum G.K g1 g2 hs (K.E Γ X G _ _ h1 n)
      · exact over h
  · split at h
    · rename_i e
      rw [Bool.and_eq_true] at e
      obtain ⟨hs, h⟩ := gd_is h
      rw [Bool.and_eq_true] at hs
      obtain ⟨ca, h1, h⟩ := bd_is h
      obtain ⟨cb, h2, h⟩ := bd_is h
      cases h
      have ex := of_decide_eq_true e.1
      subst ex
      obtain ⟨g1, g2⟩ := bltin_is G e.2
      exact i_rng2 g1 g2 hs.1 hs.2 (K.E Γ X G _ _ h1 n) (K.E Γ X G _ _ h2 n)
    · split at h
      · rename_i e
        rw [Bool.and_eq_true, Bool.and_eq_true] at e
        obtain ⟨hs, h⟩ := gd_is h
        rw [Bool.and_eq_true] at hs
        obtain ⟨ca, h1, h⟩ := bd_is h
        obtain ⟨cb, h2, h⟩ := bd_is h
        cases h
        have ex := of_decide_eq_true e.1.1
        subst ex
        obtain ⟨g1, g2⟩ := bltin_is G e.1.2
        obtain ⟨_, _, _, et⟩ := isTup_is e.2
        subst et
        exact i_zip G.K g1 g2 hs.1 hs.2 (K.E Γ X G _ _ h1 n) (K.E Γ X G _ _ h2 n)
      · exact over h
  · exact over h
theorem ifs_of (K : COk c call C) (G : Good c call Γ X) {ifs : List Expr} {co : Option CB} (h : cIfs C Γ ifs = some co) (n : Nat) : PTs X ifs (tIf' c (evE call n) co) := by
  unfold cIfs at h
  split at h
  · cases h
    exact pts_of (.inl ⟨rfl, rfl⟩)
  · obtain ⟨cb, h1, h⟩ := bd_is h
    cases h
    exact pts_of (.inr ⟨_, cb, rfl, rfl, K.B Γ X G _ _ h1 n⟩)
  · cases h
/-- the parts of a compiled comprehension -/
theorem lc_parts {elt : Expr} {gens : List Comprehension} {scope : Scope} {ce : CE} (h : cLc C Γ elt gens scope = some ce) : ∃ tg iter ifs ci ct co celt, gens = [⟨tg, iter, ifs, 0⟩] ∧ ce = .lc ci ct ((ownOf Γ scope).map (·.2)) co celt ∧
    blkC Γ.N (fkS Γ.names) scope (ownOf Γ scope) = true ∧ noSet iter = true ∧ cIt C Γ tg iter = some ci ∧ cTgt 9 { Γ with names := scope.names } tg = some ct ∧ cIfs C { Γ with names := scope.names } ifs = some co ∧ C.E { Γ with names := scope.names } elt = some celt := by
  unfold cLc at h
  split at h
  · obtain ⟨h1, h⟩ := gd_is h
    rw [Bool.and_eq_true] at h1
    obtain ⟨ci, h2, h⟩ := bd_is h
    obtain ⟨ct, h3, h⟩ := bd_is h
    obtain ⟨co, h4, h⟩ := bd_is h
    obtain ⟨ce', h5, h⟩ := bd_is h
    cases h
    exact ⟨_, _, _, _, _, _, _, rfl, rfl, h1.1, h1.2, h2, h3, h4, h5⟩
  · cases h
theorem lc_ok (K : COk c call C) (G : Good c call Γ X) {elt : Expr} {gens : List Comprehension} {scope : Scope} {ce : CE} {pos : Pos} (h : cLc C Γ elt gens scope = some ce) (n : Nat) : PE X (.ListComp elt gens scope pos) (tE c (evE call (n + 1) ce)) := by
  obtain ⟨tg, iter, ifs, ci, ct, co, celt, rfl, rfl, h1, h2, h3, h4, h5, h6⟩ := lc_parts h
  exact s_lc (own := ownOf Γ scope) rfl G.calm G.nd (it_of K G h3 n) (blk_of G h1) (fun s H C cl fp => tgt_of 9 (good_blk G s H scope C cl fp) _ _ h4) (fun s H C cl fp => ifs_of K (good_blk G s H scope C cl fp) h5 n)
    (fun s H C cl fp => K.E _ _ (good_blk G s H scope C cl fp) _ _ h6 n) (fun x => set_of h2 _ x)
theorem ands_of (K : COk c call C) (G : Good c call Γ X) {pos : Pos} : ∀ {es : List Expr} {ce : CE}, cAnds (C.E Γ) es = some ce → ∀ n, PE X (.BoolOp .And es pos) (tE c (evE call n ce))
  | [], _, h, _ => by cases h
  | [a], _, h, n => pe_one (K.E Γ X G _ _ h n)
  | a :: b :: r, _, h, n => by
    obtain ⟨x, h1, h⟩ := bd_is h
    obtain ⟨y, h2, h⟩ := bd_is h
    cases h
    cases n with
    | zero => exact stuck0
    | succ n => exact s_and (K.E Γ X G _ _ h1 n) (ands_of K G h2 n)
theorem ors_of (K : COk c call C) (G : Good c call Γ X) {pos : Pos} : ∀ {es : List Expr} {ce : CE}, cOrs (C.E Γ) es = some ce → ∀ n, PE X (.BoolOp .Or es pos) (tE c (evE call n ce))
  | [], _, h, _ => by cases h
  | [a], _, h, n => pe_one (K.E Γ X G _ _ h n)
  | a :: b :: r, _, h, n => by
    obtain ⟨x, h1, h⟩ := bd_is h
    obtain ⟨y, h2, h⟩ := bd_is h
    cases h
    cases n with
    | zero => exact stuck0
    | succ n => exact s_or (K.E Γ X G _ _ h1 n) (ors_of K G h2 n)
theorem bands_of (K : COk c call C) (G : Good c call Γ X) {pos : Pos} (n : Nat) : ∀ {es : List Expr} {cb : CB}, bAnds (C.B Γ) es = some cb → PW X (.BoolOp .And es pos) (tB' c (evB (evE call n) cb))
  | [], _, h => by cases h
  | [a], _, h => pw_and1 (K.B Γ X G _ _ h n)
  | a :: b :: r, _, h => by
    obtain ⟨x, h1, h⟩ := bd_is h
    obtain ⟨y, h2, h⟩ := bd_is h
    cases h
    exact b_and (K.B Γ X G _ _ h1 n) (bands_of K G n h2)
theorem bors_of (K : COk c call C) (G : Good c call Γ X) {pos : Pos} (n : Nat) : ∀ {es : List Expr} {cb : CB}, bOrs (C.B Γ) es = some cb → PW X (.BoolOp .Or es pos) (tB' c (evB (evE call n) cb))
  | [], _, h => by cases h
  | [a], _, h => pw_or1 (K.B Γ X G _ _ h n)
  | a :: b :: r, _, h => by
    obtain ⟨x, h1, h⟩ := bd_is h
    obtain ⟨y, h2, h⟩ := bd_is h
    cases h
    exact b_or (K.B Γ X G _ _ h1 n) (bors_of K G n h2)
theorem callv_of (K : COk c call C) (G : Good c call Γ X) {x : Str} {es : List Expr} {ce : CE} {p pos : Pos} (h : cCallV C Γ x es = some ce) (n : Nat) : PE X (.Call (.Name x p) es [] pos) (tE c (evE call (n + 1) ce)) := by
  unfold cCallV at h
  obtain ⟨h1, h⟩ := gd_is h
  rw [Bool.and_eq_true, Bool.not_eq_true'] at h1
  obtain ⟨i, h2, h⟩ := bd_is h
  obtain ⟨cs, h3, h⟩ := bd_is h
  cases h
  obtain ⟨q1, q2, q3, q4⟩ := cVar_is G h2
  have hp := pes_of (fun e ce q => K.E Γ X G e ce q n) h1.1 h3
  refine ⟨fun pins s σ H Q I ⟨f, h', st, r, rs, p⟩ => ?_⟩
  have pp : Post c f h'.n H (eCallV call (evE call n) i cs st h') (VQ c Q) := p
  clear p
  unfold eCallV at pp
  split at pp
  · rename_i k e0
    obtain ⟨w, e2, rv⟩ := rs.2 _ _ e0
    cases rv
    split at pp
    · exact pp.elim
    · rename_i vs hh1 e1
      have hns : call k vs hh1 ≠ .stuck := fun z => by rw [z] at pp; exact pp
      obtain ⟨y, fd, ps, lvl, a1, a2, a3, a4, a5⟩ := G.fnv k vs hh1 hns
      cases hp with
      | nil => have z := h1.2; cases z
      | cons hs he ht =>
        refine (pe_callL (i := i) a5 a4 q1 q2 a2 a3 .nil pass0 (pa_of (.cons hs he ht)) q3 q4 (star_of hs _ X.env) (plain_args ht _ X.env)).run pins s σ H Q I ⟨e2, tA_of e1 r rs fun f1 H1 ws x1 r1 rs1 rv1 => ?_⟩
        refine ⟨?_, f1, hh1, vs, r1, ?_, pp.mono x1⟩
        · rw [List.append_nil]; exact rv1.length.symm
        · rw [List.append_nil]; exact rv1
  · exact pp.elim
theorem keysOf_is : ∀ {ks : List (Option Expr)} {es : List Expr}, keysOf ks = some es → ks = es.map some
  | [], es, h => by cases h; rfl
  | some k :: r, es, h => by
    obtain ⟨ks, h1, h⟩ := bd_is h
    cases h
    rw [keysOf_is h1]
    rfl
  | none :: r, es, h => by cases h
theorem pds_of {rec : CE → PSt → PH → R PV} {f : Expr → Option CE} (hf : ∀ e ce, f e = some ce → PE X e (tE c (rec ce))) : ∀ {ks vs : List Expr} {cks cvs : List CE}, ks.length = vs.length → cEs f ks = some cks → cEs f vs = some cvs → PDs X c rec (ks.map some) vs cks cvs
  | [], [], _, _, _, h1, h2 => by cases h1; cases h2; exact .nil
  | [], _ :: _, _, _, h, _, _ => by cases h
  | _ :: _, [], _, _, h, _, _ => by cases h
  | k :: ks, v :: vs, _, _, h, h1, h2 => by
    obtain ⟨a, a1, h1⟩ := bd_is h1
    obtain ⟨b, a2, h1⟩ := bd_is h1
    cases h1
    obtain ⟨d, a3, h2⟩ := bd_is h2
    obtain ⟨e, a4, h2⟩ := bd_is h2
    cases h2
    exact .cons (hf _ _ a1) (hf _ _ a3) (pds_of hf (Nat.succ.inj h) a2 a4)
theorem dict_of (K : COk c call C) (G : Good c call Γ X) {ks : List (Option Expr)} {vs : List Expr} {ce : CE} {pos : Pos} (h : cDict C Γ ks vs pos = some ce) (n : Nat) : PE X (.Dict ks vs pos) (tE c (evE call (n + 1) ce)) := by
  unfold cDict at h
  split at h
  · cases h
    exact s_dnew
  · obtain ⟨h1, h⟩ := gd_is h
    rw [Bool.and_eq_true, Bool.not_eq_true'] at h1
    obtain ⟨es, h2, h⟩ := bd_is h
    obtain ⟨cks, h3, h⟩ := bd_is h
    obtain ⟨cvs, h4, h⟩ := bd_is h
    obtain ⟨h5, h⟩ := gd_is h
    cases h
    have e := keysOf_is h2
    subst e
    refine s_disp (pds_of (fun e ce q => K.E Γ X G e ce q n) (of_decide_eq_true h5) h3 h4) (fun z => ?_) (Nat.le_of_ble_eq_true h1.1)
    rw [z] at h1
    cases h1.2
theorem isOne_is {e : Expr} (h : isOne e = true) : ∃ k p1 p2, e = .UnaryOp .USub (.Constant (.int 1) k p1) p2 := by
  unfold isOne at h
  split at h
  · exact ⟨_, _, _, rfl⟩
  · cases h
theorem call_of (K : COk c call C) (G : Good c call Γ X) {x : Str} {es : List Expr} {ce : CE} {p pos : Pos} (h : cCall C Γ x es = some ce) (n : Nat) : PE X (.Call (.Name x p) es [] pos) (tE c (evE call (n + 1) ce)) := by
  unfold cCall at h
  split at h
  · exact callv_of K G h n
  split at h
  · rename_i k ar e
    obtain ⟨h1, h⟩ := gd_is h
    simp only [Bool.and_eq_true, Bool.not_eq_true', decide_eq_true_eq] at h1
    obtain ⟨cs, h2, h⟩ := bd_is h
    cases h
    obtain ⟨fd, ps, lvl, a1, a2, a3, a4, a5⟩ := G.fns _ _ _ e
    exact s_call a5 h1.2 a4 (G.gl _ h1.1.1.1) a1 a2 a3 h1.1.1.2 (pes_of (fun e ce q => K.E Γ X G e ce q n) h1.1.2 h2)
  · obtain ⟨hb, h'⟩ := gd_is h
    clear h
    have h := h'
    clear h'
    obtain ⟨g1, g2⟩ := bltin_is G hb
    split at h
    · rename_i e
      have e := of_decide_eq_true e
      subst e
      unfold cIsi at h
      split at h
      · obtain ⟨h1, h⟩ := gd_is h
        rw [Bool.and_eq_true] at h1
        obtain ⟨ty, h2, h⟩ := bd_is h
        obtain ⟨ca, h3, h⟩ := bd_is h
        cases h
        obtain ⟨g3, g4⟩ := bltin_is G h1.2
        exact s_isi G.K h1.1 (K.E Γ X G _ _ h3 n) (tyOf_is h2) g3 g4 g1 g2
      · obtain ⟨h1, h⟩ := gd_is h
        rw [Bool.and_eq_true, Bool.and_eq_true] at h1
        obtain ⟨ty, h2, h⟩ := bd_is h
        obtain ⟨uy, h4, h⟩ := bd_is h
        obtain ⟨ca, h3, h⟩ := bd_is h
        cases h
        obtain ⟨g3, g4⟩ := bltin_is G h1.1.2
        obtain ⟨g5, g6⟩ := bltin_is G h1.2
        exact s_isis G.K h1.1.1 (K.E Γ X G _ _ h3 n) (tyOf_is h2) g3 g4 (tyOf_is h4) g5 g6 g1 g2
      · cases h
    · split at h
      · rename_i aa bb e
        obtain ⟨ex, p2, q2, ees⟩ := lrgOf_is e
        subst ex
        subst ees
        obtain ⟨h1, h⟩ := gd_is h
        rw [Bool.and_eq_true, Bool.and_eq_true] at h1
        obtain ⟨ca, h2, h⟩ := bd_is h
        obtain ⟨cb, h3, h⟩ := bd_is h
        cases h
        obtain ⟨g3, g4⟩ := bltin_is G h1.1.1
        exact s_lrg G.calm g1 g2 g3 g4 h1.1.2 h1.2 (K.E Γ X G _ _ h2 n) (K.E Γ X G _ _ h3 n)
      obtain ⟨h1, h⟩ := gd_is h
      rw [Bool.and_eq_true] at h1
      obtain ⟨b, h2, h⟩ := bd_is h
      obtain ⟨cs, h3, h⟩ := bd_is h
      cases h
      refine s_bi G.K G.W G.calm (biOf_is h2) g1 g2 (pes_of (fun e ce q => K.E Γ X G e ce q n) h1.1 h3) fun z => ?_
      rw [z] at h1
      cases h1.2
theorem cop_is {op : CmpOp} {b : Expr} {o : Cop} (h : copOf op b = some o) : op = opC o := by
  cases op <;> cases h <;> rfl
theorem bop_is {op : Operator} {o : Bop} (h : bopOf op = some o) : op = opB o := by
  cases op <;> cases h <;> rfl
theorem last_of {o1 o2 : CmpOp} {b d : Expr} (h : noSet d = true) : lastMarks [o1, o2] [b, d] = false := mark_of h o2
theorem step_ok (K : COk c call C) : COk c call (stepC C) where
  E := fun Γ X G e ce h n => by
    cases n with
    | zero => exact stuck0
    | succ n =>
      have ih : ∀ e ce, C.E Γ e = some ce → PE X e (tE c (evE call n ce)) := fun e ce q => K.E Γ X G e ce q n
      have ihb : ∀ e cb, C.B Γ e = some cb → PT X e (tB' c (evB (evE call n) cb)) := fun e cb q => K.B Γ X G e cb q n
      unfold stepC at h
      dsimp only at h
      split at h
      · -- names
        split at h
        · obtain ⟨i, h1, h⟩ := bd_is h
          cases h
          obtain ⟨q1, q2, q3, q4⟩ := cVar_is G h1
          exact s_var (rec := evE call n) q1 q2 q3 q4
        · obtain ⟨h1, h⟩ := gd_is h
          rw [Bool.and_eq_true] at h1
          unfold cGlob at h
          split at h
          · rename_i v h2
            cases h
            obtain ⟨u, w, a1, a2, a3⟩ := G.consts _ _ h2
            exact s_const (rec := evE call n) (pe_glob (G.gl _ h1.1) a1 a2 (okName_is h1.2).1) a3
          · obtain ⟨⟨k, ar⟩, h2, h⟩ := bd_is h
            cases h
            obtain ⟨fd, ps, lvl, a1, a2, a3, a4, a5⟩ := G.fns _ _ _ h2
            exact s_const (rec := evE call n) (pe_glob (v := .ref (c.F k)) (G.gl _ h1.1) a1 rfl (okName_is h1.2).1) fun _ _ _ => .fn k
      · cases h; exact s_const (rec := evE call n) pe_int fun _ _ _ => .int _
      · cases h; exact s_const (rec := evE call n) pe_bl fun _ _ _ => .bl _
      · cases h; exact s_const (rec := evE call n) pe_non fun _ _ _ => .non
      · cases h; exact s_const (rec := evE call n) pe_str fun _ _ _ => .str _
      · obtain ⟨o, h1, h⟩ := bd_is h
        obtain ⟨x, h2, h⟩ := bd_is h
        obtain ⟨y, h3, h⟩ := bd_is h
        cases h
        have e := bop_is h1
        subst e
        exact s_bin G.K o (ih _ _ h2) (ih _ _ h3)
      · obtain ⟨x, h1, h⟩ := bd_is h
        cases h
        exact s_neg (ih _ _ h1)
      · obtain ⟨x, h1, h⟩ := bd_is h
        cases h
        exact s_not (ih _ _ h1)
      · -- one comparison
        split at h
        · obtain ⟨hs, h⟩ := gd_is h
          obtain ⟨x, h1, h⟩ := bd_is h
          obtain ⟨y, h2, h⟩ := bd_is h
          cases h
          exact s_in G.K G.units false (mark_of hs _) (ih _ _ h1) (ih _ _ h2)
        · obtain ⟨hs, h⟩ := gd_is h
          obtain ⟨x, h1, h⟩ := bd_is h
          obtain ⟨y, h2, h⟩ := bd_is h
          cases h
          exact s_in G.K G.units true (mark_of hs _) (ih _ _ h1) (ih _ _ h2)
        · obtain ⟨hs, h⟩ := gd_is h
          obtain ⟨o, h0, h⟩ := bd_is h
          obtain ⟨x, h1, h⟩ := bd_is h
          obtain ⟨y, h2, h⟩ := bd_is h
          cases h
          have e := cop_is h0
          subst e
          exact s_cmp G.K G.units o (mark_of hs _) (ih _ _ h1) (ih _ _ h2)
      · obtain ⟨hs, h⟩ := gd_is h
        obtain ⟨o1, h0, h⟩ := bd_is h
        obtain ⟨o2, h0', h⟩ := bd_is h
        obtain ⟨x, h1, h⟩ := bd_is h
        obtain ⟨y, h2, h⟩ := bd_is h
        obtain ⟨z, h3, h⟩ := bd_is h
        cases h
        have e1 := cop_is h0
        have e2 := cop_is h0'
        subst e1
        subst e2
        exact s_chain G.K G.units o1 o2 (last_of hs) (ih _ _ h1) (ih _ _ h2) (ih _ _ h3)
      · exact ands_of K G h (n + 1)
      · exact ors_of K G h (n + 1)
      · obtain ⟨x, h1, h⟩ := bd_is h
        obtain ⟨y, h2, h⟩ := bd_is h
        obtain ⟨z, h3, h⟩ := bd_is h
        cases h
        exact s_ite (ihb _ _ h1) (ih _ _ h2) (ih _ _ h3)
      · obtain ⟨hs, h⟩ := gd_is h
        obtain ⟨cs, h1, h⟩ := bd_is h
        cases h
        exact s_tup (pes_of ih hs h1)
      · obtain ⟨hs, h⟩ := gd_is h
        obtain ⟨cs, h1, h⟩ := bd_is h
        cases h
        exact s_lst (pes_of ih hs h1)
      · exact call_of K G h n
      · -- methods
        obtain ⟨hs, h⟩ := gd_is h
        rw [Bool.and_eq_true] at hs
        obtain ⟨mt, h0, h⟩ := bd_is h
        have em := mtOf_is h0
        split at h
        · obtain ⟨h1, h⟩ := gd_is h
          obtain ⟨x, h2, h⟩ := bd_is h
          obtain ⟨y, h3, h⟩ := bd_is h
          cases h
          subst em
          exact s_append G.K hs.1 h1 hs.2 (ih _ _ h2) (ih _ _ h3)
        · obtain ⟨h1, h⟩ := gd_is h
          obtain ⟨x, h2, h⟩ := bd_is h
          obtain ⟨y, h3, h⟩ := bd_is h
          cases h
          subst em
          exact s_count G.K hs.1 h1 hs.2 (ih _ _ h2) (ih _ _ h3)
        · obtain ⟨x, h2, h⟩ := bd_is h
          cases h
          subst em
          exact s_pop G.K hs.1 hs.2 (ih _ _ h2)
        · cases h
      · -- slices
        obtain ⟨x, h1, h⟩ := bd_is h
        obtain ⟨l, h2, h⟩ := bd_is h
        obtain ⟨u, h3, h⟩ := bd_is h
        cases h
        have part : ∀ {o : Option Expr} {p : Option CE}, cOpt (C.E Γ) o = some p → L2.PO X o (tO' c (evO (evE call n) p)) := fun {o p} q => by
          cases o with
          | none => cases q; exact po_no
          | some e =>
            obtain ⟨ce, q1, q⟩ := bd_is q
            cases q
            exact po_so (ih _ _ q1)
        exact s_sl G.K (ih _ _ h1) (part h2) (part h3)
      · obtain ⟨hs, h⟩ := gd_is h
        obtain ⟨x, h1, h⟩ := bd_is h
        cases h
        obtain ⟨k, p1, p2, e⟩ := isOne_is hs
        subst e
        exact s_rev G.K (ih _ _ h1)
      · exact dict_of K G h n
      · obtain ⟨hs, h⟩ := gd_is h
        obtain ⟨x, h1, h⟩ := bd_is h
        obtain ⟨y, h2, h⟩ := bd_is h
        cases h
        exact s_ix G.K G.units hs (ih _ _ h1) (ih _ _ h2)
      · exact lc_ok K G h n
      · cases h
  B := fun Γ X G e cb h n => by
    have ih : ∀ e ce, C.E Γ e = some ce → PE X e (tE c (evE call n ce)) := fun e ce q => K.E Γ X G e ce q n
    have ihb : ∀ e cb, C.B Γ e = some cb → PT X e (tB' c (evB (evE call n) cb)) := fun e cb q => K.B Γ X G e cb q n
    unfold stepC at h
    dsimp only at h
    split at h
    · obtain ⟨x, h1, h⟩ := bd_is h
      cases h
      exact b_not (ihb _ _ h1)
    · exact (bands_of K G n h).pt
    · exact (bors_of K G n h).pt
    · cases n with
      | zero => exact stuckB0
      | succ n =>
        have ih : ∀ e ce, C.E Γ e = some ce → PE X e (tE c (evE call n ce)) := fun e ce q => K.E Γ X G e ce q n
        split at h
        · obtain ⟨hs, h⟩ := gd_is h
          obtain ⟨x, h1, h⟩ := bd_is h
          obtain ⟨y, h2, h⟩ := bd_is h
          cases h
          exact b_bl (pt_cmpR (op_inP G.K G.units false) (ih _ _ h1) (ih _ _ h2) (mark_of hs _)) (rd_in false)
        · obtain ⟨hs, h⟩ := gd_is h
          obtain ⟨x, h1, h⟩ := bd_is h
          obtain ⟨y, h2, h⟩ := bd_is h
          cases h
          exact b_bl (pt_cmpR (op_inP G.K G.units true) (ih _ _ h1) (ih _ _ h2) (mark_of hs _)) (rd_in true)
        · obtain ⟨hs, h⟩ := gd_is h
          obtain ⟨o, h0, h⟩ := bd_is h
          obtain ⟨x, h1, h⟩ := bd_is h
          obtain ⟨y, h2, h⟩ := bd_is h
          cases h
          have e := cop_is h0
          subst e
          exact b_bl (pt_cmpR (op_cmp G.K G.units o) (ih _ _ h1) (ih _ _ h2) (mark_of hs _)) (rd_cmp o)
    · cases n with
      | zero => exact stuckB0
      | succ n =>
        have ih : ∀ e ce, C.E Γ e = some ce → PE X e (tE c (evE call n ce)) := fun e ce q => K.E Γ X G e ce q n
        obtain ⟨hs, h⟩ := gd_is h
        obtain ⟨o1, h0, h⟩ := bd_is h
        obtain ⟨o2, h0', h⟩ := bd_is h
        obtain ⟨x, h1, h⟩ := bd_is h
        obtain ⟨y, h2, h⟩ := bd_is h
        obtain ⟨z, h3, h⟩ := bd_is h
        cases h
        have e1 := cop_is h0
        have e2 := cop_is h0'
        subst e1
        subst e2
        exact b_bl (pt_chain (op_cmp G.K G.units o1) (op_cmp G.K G.units o2) (ih _ _ h1) (ih _ _ h2) (ih _ _ h3) (last_of hs)) (rd_chain o1 o2)
    · obtain ⟨hs, h⟩ := gd_is h
      obtain ⟨x, h1, h⟩ := bd_is h
      cases h
      exact b_val G.K hs (ih _ _ h1)
theorem cmp_ok : ∀ m : Nat, COk c call (cmpN m)
  | 0 => ⟨fun _ _ _ _ _ h => (by cases h), fun _ _ _ _ _ h => (by cases h)⟩
  | m + 1 => step_ok (cmp_ok m)
end
end
end Pyx

set_option Elab.async false
set_option linter.all false
set_option maxRecDepth 100000
set_option maxHeartbeats 4000000
/-! Pyx: statements compiled. -/
namespace Pyx
open PySem PySem.Spec PyProof.Rows L2
def isStarE : Expr → Bool
  | .Starred .. => true
  | _ => false
def swapL (names : List (Str × NameKind)) (line : Nat) (ts : List Expr) : List Str := ts.filterMap fun
  | .Name id pos => if names.lookup id == some .local && pos.line == line then some id else none
  | _ => none
def swapV (names : List (Str × NameKind)) (ts vs : List Expr) : Option (Option (List Str)) :=
  if (!(ts.length == 2 || ts.length == 3) || vs.length != ts.length) = true then some none
  else if (vs.any isStarE) = true then some none
  else if ((swapL names ((ts.head?.map (·.pos.line)).getD 0) ts).length != ts.length || (swapL names ((ts.head?.map (·.pos.line)).getD 0) ts).eraseDups.length != (swapL names ((ts.head?.map (·.pos.line)).getD 0) ts).length) = true then some none
  else if (vs.all (foldedForSure 8)) = true then some none
  else if (vs.all (constantsAlone 8)) = true then none
  else some (some (swapL names ((ts.head?.map (·.pos.line)).getD 0) ts))
theorem block_fn {env : Env} (h : env.scope.kind = .function) : env.blockKind = .function := by
  unfold Env.blockKind
  rw [h]
  rfl
theorem swapV_ok {env : Env} {names : List (Str × NameKind)} {ts vs : List Expr} {k k2 : Nat} {p p2 : Pos} {r : Option (List Str)} (hk : env.scope.kind = .function) (hn : env.scope.names = names) (h : swapV names ts vs = some r) :
    swappedStores [.Tuple ts k p] (.Tuple vs k2 p2) env = pure r := by
  subst hn
  have hb := block_fn hk
  unfold swappedStores
  dsimp only
  rw [hb]
  unfold swapV at h
  have hf : (ScopeKind.function != ScopeKind.function) = false := rfl
  rw [hf, Bool.or_false]
  split at h
  · rename_i c
    cases h
    exact if_pos c
  · rename_i c
    refine (if_neg c).trans ?_
    split at h
    · rename_i c2
      cases h
      exact if_pos c2
    · rename_i c2
      refine (if_neg c2).trans ?_
      split at h
      · rename_i c3
        cases h
        exact if_pos c3
      · rename_i c3
        refine (if_neg c3).trans ?_
        split at h
        · rename_i c4
          cases h
          exact if_pos c4
        · rename_i c4
          refine (if_neg c4).trans ?_
          split at h
          · cases h
          · rename_i c5
            cases h
            exact if_neg c5
def cSs (f : Stmt → Option CS) : List Stmt → Option (List CS)
  | [] => some []
  | s :: ss => bd (cSs f ss) fun ks => some ((f s).getD .stuck :: ks)
/-- an assignment with a display on both sides whose stores are exchanged -/
def cPar (C : Cmp) (Γ : CEnv) (ts vs : List Expr) : Option CS := match ts, vs with
  | [.Name x _, .Name y _], [a, b] => gd (noStar a && noStar b && decide (Γ.names.lookup x = some .local) && decide (Γ.names.lookup y = some .local)) (bd (ixOf x Γ.N 0) fun i => bd (ixOf y Γ.N 0) fun j => gd (!decide (i = j)) (bd (C.E Γ a) fun ca => bd (C.E Γ b) fun cb => some (.par i j ca cb)))
  | [.Name x _, .Name y _, .Name z _], [a, b, d] => gd (noStar a && noStar b && noStar d && decide (Γ.names.lookup x = some .local) && decide (Γ.names.lookup y = some .local) && decide (Γ.names.lookup z = some .local)) (bd (ixOf x Γ.N 0) fun i => bd (ixOf y Γ.N 0) fun j => bd (ixOf z Γ.N 0) fun l =>
      gd (!decide (i = j) && !decide (i = l) && !decide (j = l)) (bd (C.E Γ a) fun ca => bd (C.E Γ b) fun cb => bd (C.E Γ d) fun cd => some (.par3 i j l ca cb cd)))
  | _, _ => none
def strsOf (ts : List Expr) : List Str := ts.filterMap fun
  | .Name x _ => some x
  | _ => none
def cPlain (C : Cmp) (Γ : CEnv) (tg e : Expr) : Option CS := gd (noComp e && noStar tg) (bd (C.E Γ e) fun ce => bd (cTgt 9 Γ tg) fun t => some (.asg t ce))
def cAssign (C : Cmp) (Γ : CEnv) (tg e : Expr) : Option CS := match tg, e with
  | .Tuple ts _ _, .Tuple vs _ _ => match swapV Γ.names ts vs with
    | none => none
    | some none => cPlain C Γ tg e
    | some (some ns) => gd (decide (ns = strsOf ts)) (cPar C Γ ts vs)
  | .Subscript o i _, e => gd (noComp e && noSlice i) (bd (C.E Γ o) fun co => bd (C.E Γ i) fun ci => bd (C.E Γ e) fun ce => some (.setix co ci ce))
  | .Name y _, .ListComp elt gens scope _ => bd (cLc C Γ elt gens scope) fun ce => bd (cLoc Γ y) fun i => some (.asg (.nm i) ce)
  | _, _ => cPlain C Γ tg e
def cmpS : Nat → Cmp → CEnv → Stmt → Option CS
  | 0, _, _, _ => none
  | m + 1, C, Γ, s => match s with
    | .Pass _ => some .pass
    | .Break _ => some .brk
    | .Continue _ => some .cont
    | .Return none _ => some .retN
    | .Return (some e) _ => bd (C.E Γ e) fun ce => some (.ret ce)
    | .Expr e _ => gd (noComp e) (bd (C.E Γ e) fun ce => some (.expr ce))
    | .Assign [tg] e _ => cAssign C Γ tg e
    | .AugAssign (.Subscript o i _) op e _ => gd (noSlice i) (bd (bopOf op) fun b => bd (C.E Γ o) fun co => bd (C.E Γ i) fun ci => bd (C.E Γ e) fun ce => some (.augix co ci b ce))
    | .AugAssign (.Name x _) op e _ => bd (bopOf op) fun o => bd (cLoc Γ x) fun i => bd (C.E Γ e) fun ce => some (.augn i o ce)
    | .If t a b _ => bd (C.B Γ t) fun ct => bd (cSs (cmpS m C Γ) a) fun ka => bd (cSs (cmpS m C Γ) b) fun kb => some (.ite ct ka kb)
    | .While t b [] _ => bd (C.B Γ t) fun ct => bd (cSs (cmpS m C Γ) b) fun kb => some (.while ct kb)
    | .For tg it b [] _ => gd (noSet it) (bd (cIt C Γ tg it) fun ci => bd (cTgt 9 Γ tg) fun t => bd (cSs (cmpS m C Γ) b) fun kb => some (.for t ci kb))
    | .Raise _ _ _ => some .stuck
    | _ => none
section
variable {c : Rc} {call : Nat → List PV → PH → R PV} {Γ : CEnv} {X : Cx}
/-- a def's own body: no relabelled names -/
structure GoodS (c : Rc) (call : Nat → List PV → PH → R PV) (Γ : CEnv) (X : Cx) : Prop extends Good c call Γ X where
  kind : X.env.scope.kind = .function
  names : X.env.scope.names = Γ.names
theorem stuckS0 {s : Stmt} {k : CS} : PS X s (tS c (evS call 0 k)) := t_stuck fun _ _ => rfl
section
variable {C : Cmp}
theorem plain_ok (K : COk c call C) (G : GoodS c call Γ X) {tg e : Expr} {k : CS} {pos : Pos} (hw : swappedStores [tg] e X.env = pure none) (h : cPlain C Γ tg e = some k) (n : Nat) : PS X (.Assign [tg] e pos) (tS c (evS call (n + 1) k)) := by
  obtain ⟨h1, h⟩ := gd_is h
  rw [Bool.and_eq_true] at h1
  obtain ⟨ce, h2, h⟩ := bd_is h
  obtain ⟨t, h3, h⟩ := bd_is h
  cases h
  have q := comp_of h1.1 (some tg) pos.line X.env
  exact t_asg (n := n) (recS := evS call n) (K.E Γ X G.toGood _ _ h2 n) (tgt_of 9 G.toGood _ _ h3) q hw (by rw [aeach_of h1.2]; rfl)
theorem ix_of (G : Good c call Γ X) {x : Str} {i : Nat} (h : ixOf x Γ.N 0 = some i) : X.N[i]? = some x := by
  have q := (ixOf_is h).2
  rw [Nat.sub_zero, ← G.N] at q
  exact q
theorem assign_ok (K : COk c call C) (G : GoodS c call Γ X) {tg e : Expr} {k : CS} {pos : Pos} (h : cAssign C Γ tg e = some k) (n : Nat) : PS X (.Assign [tg] e pos) (tS c (evS call (n + 1) k)) := by
  unfold cAssign at h
  split at h
  · split at h
    · cases h
    · rename_i sw
      exact plain_ok K G (swapV_ok G.kind G.names sw) h n
    · rename_i ns sw
      obtain ⟨h0, h⟩ := gd_is h
      have h0 := of_decide_eq_true h0
      have hw := fun k k2 p p2 => swapV_ok (k := k) (k2 := k2) (p := p) (p2 := p2) G.kind G.names sw
      unfold cPar at h
      split at h
      · obtain ⟨h1, h⟩ := gd_is h
        simp only [Bool.and_eq_true, decide_eq_true_eq] at h1
        obtain ⟨i, h2, h⟩ := bd_is h
        obtain ⟨j, h3, h⟩ := bd_is h
        obtain ⟨h4, h⟩ := gd_is h
        obtain ⟨ca, h5, h⟩ := bd_is h
        obtain ⟨cb, h6, h⟩ := bd_is h
        cases h
        subst h0
        have h4 : i ≠ j := by simpa using h4
        exact t_par (n := n) (recS := evS call n) G.calm G.nd (ix_of G.toGood h2) (ix_of G.toGood h3) h4 (by rw [G.names]; exact h1.1.2) (by rw [G.names]; exact h1.2) h1.1.1.1 h1.1.1.2 (K.E Γ X G.toGood _ _ h5 n) (K.E Γ X G.toGood _ _ h6 n) (hw _ _ _ _)
      · obtain ⟨h1, h⟩ := gd_is h
        simp only [Bool.and_eq_true, decide_eq_true_eq] at h1
        obtain ⟨i, h2, h⟩ := bd_is h
        obtain ⟨j, h3, h⟩ := bd_is h
        obtain ⟨l, h3', h⟩ := bd_is h
        obtain ⟨h4, h⟩ := gd_is h
        obtain ⟨ca, h5, h⟩ := bd_is h
        obtain ⟨cb, h6, h⟩ := bd_is h
        obtain ⟨cd, h7, h⟩ := bd_is h
        cases h
        subst h0
        simp only [Bool.and_eq_true, Bool.not_eq_true', decide_eq_false_iff_not] at h4
        exact t_par3 (n := n) (recS := evS call n) G.calm G.nd (ix_of G.toGood h2) (ix_of G.toGood h3) (ix_of G.toGood h3') h4.1.1 h4.1.2 h4.2 (by rw [G.names]; exact h1.1.1.2) (by rw [G.names]; exact h1.1.2) (by rw [G.names]; exact h1.2) h1.1.1.1.1.1 h1.1.1.1.1.2 h1.1.1.1.2
          (K.E Γ X G.toGood _ _ h5 n) (K.E Γ X G.toGood _ _ h6 n) (K.E Γ X G.toGood _ _ h7 n) (hw _ _ _ _)
      · cases h
  · obtain ⟨h1, h⟩ := gd_is h
    rw [Bool.and_eq_true] at h1
    obtain ⟨co, h2, h⟩ := bd_is h
    obtain ⟨ci, h3, h⟩ := bd_is h
    obtain ⟨ce, h4, h⟩ := bd_is h
    cases h
    exact t_setix (n := n) (recS := evS call n) G.units h1.1 h1.2 (K.E Γ X G.toGood _ _ h2 n) (K.E Γ X G.toGood _ _ h3 n) (K.E Γ X G.toGood _ _ h4 n)
  · rename_i y py elt gens scope lpos
    obtain ⟨ce, h1, h⟩ := bd_is h
    obtain ⟨i, h2, h⟩ := bd_is h
    cases h
    obtain ⟨q1, q2, q3⟩ := cLoc_is G.toGood h2
    cases n with
    | zero => exact t_stuck fun st h => rfl
    | succ n =>
      have hsw : ∃ b, swapsWith (.ListComp elt gens scope lpos) (some (.Name y py)) pos.line X.env = pure b ∧ (b = true → X.env.scope.names.lookup y = some .local) := by
        refine ⟨_, rfl, fun z => ?_⟩
        simp only [Bool.and_eq_true] at z
        have z2 := z.1.1.2
        exact eq_of_beq z2
      obtain ⟨b, e1, e2⟩ := hsw
      cases b with
      | false => exact t_asg (n := n + 1) (recS := evS call (n + 1)) (lc_ok K G.toGood h1 n) (g_nm G.nd q1 q2 q3) e1 rfl rfl
      | true =>
        obtain ⟨tg, iter, ifs, ci, ct, co, celt, rfl, rfl, g1, g2, g3, g4, g5, g6⟩ := lc_parts h1
        exact t_setLc (rec := evE call n) (n := n) (recS := evS call (n + 1)) (ev := evE call (n + 1)) (own := ownOf Γ scope) rfl G.calm G.nd q1 (e2 rfl) e1 (it_of K G.toGood g3 n) (blk_of G.toGood g1) (fun s H C cl fp => tgt_of 9 (good_blk G.toGood s H scope C cl fp) _ _ g4) (fun s H C cl fp => ifs_of K (good_blk G.toGood s H scope C cl fp) g5 n)
          (fun s H C cl fp => K.E _ _ (good_blk G.toGood s H scope C cl fp) _ _ g6 n) (fun x => set_of g2 _ x) fun _ _ => rfl
  · rename_i no1 no2 no3
    refine plain_ok K G ?_ h n
    cases tg <;> cases e <;> first | rfl | (exfalso; first | exact no1 _ _ _ _ _ _ rfl rfl | exact no2 _ _ _ _ _ _ rfl rfl | (obtain ⟨_, hh⟩ := gd_is h; obtain ⟨_, _, hh⟩ := bd_is hh; obtain ⟨_, h1, _⟩ := bd_is hh; cases h1; done) | solve_by_elim)
theorem pSs_of {f : Stmt → Option CS} {rec : CS → PSt → PH → R FR} (h0 : ∀ st h, rec .stuck st h = .stuck) (hf : ∀ s k, f s = some k → PS X s (tS c (rec k))) : ∀ {ss : List Stmt} {ks : List CS}, cSs f ss = some ks → PSS X c rec ss ks
  | [], ks, h => by cases h; exact .nil
  | s :: ss, ks, h => by
    obtain ⟨ks', h2, h⟩ := bd_is h
    cases h
    refine .cons ?_ (pSs_of h0 hf h2)
    cases e : f s with
    | some k => exact hf s k e
    | none => exact t_stuck h0
theorem cmpS_ok (K : COk c call C) (G : GoodS c call Γ X) : ∀ (m : Nat) (s : Stmt) (k : CS), cmpS m C Γ s = some k → ∀ n, PS X s (tS c (evS call n k))
  | 0, _, _, h, _ => by cases h
  | m + 1, s, k, h, 0 => stuckS0
  | m + 1, s, k, h, n + 1 => by
    have ih : ∀ s k, cmpS m C Γ s = some k → PS X s (tS c (evS call n k)) := fun s k q => cmpS_ok K G m s k q n
    have ie : ∀ e ce, C.E Γ e = some ce → PE X e (tE c (evE call n ce)) := fun e ce q => K.E Γ X G.toGood e ce q n
    have hst : ∀ st h, evS call n .stuck st h = .stuck := fun st h => by cases n <;> rfl
    have ib : ∀ e cb, C.B Γ e = some cb → PT X e (tB' c (evB (evE call n) cb)) := fun e cb q => K.B Γ X G.toGood e cb q n
    unfold cmpS at h
    split at h
    · cases h; exact t_pass (n := n) (ev := evE call n) (recS := evS call n)
    · cases h; exact t_brk (n := n) (ev := evE call n) (recS := evS call n)
    · cases h; exact t_cont (n := n) (ev := evE call n) (recS := evS call n)
    · cases h; exact t_retN (n := n) (ev := evE call n) (recS := evS call n)
    · obtain ⟨ce, h1, h⟩ := bd_is h
      cases h
      exact t_ret (n := n) (recS := evS call n) (ie _ _ h1)
    · obtain ⟨h0, h⟩ := gd_is h
      obtain ⟨ce, h1, h⟩ := bd_is h
      cases h
      exact t_expr (n := n) (recS := evS call n) h0 (ie _ _ h1)
    · exact assign_ok K G h n
    · obtain ⟨hs, h⟩ := gd_is h
      obtain ⟨b, h1, h⟩ := bd_is h
      obtain ⟨co, h2, h⟩ := bd_is h
      obtain ⟨ci, h3, h⟩ := bd_is h
      obtain ⟨ce, h4, h⟩ := bd_is h
      cases h
      have e := bop_is h1
      subst e
      exact t_augix (n := n) (recS := evS call n) G.K G.units hs (ie _ _ h2) (ie _ _ h3) (ie _ _ h4)
    · obtain ⟨o, h0, h⟩ := bd_is h
      obtain ⟨i, h1, h⟩ := bd_is h
      obtain ⟨ce, h2, h⟩ := bd_is h
      cases h
      have e := bop_is h0
      subst e
      obtain ⟨q1, q2, q3⟩ := cLoc_is G.toGood h1
      exact t_augn (n := n) (recS := evS call n) G.nd q1 q2 q3 (ie _ _ h2)
    · obtain ⟨ct, h0, h⟩ := bd_is h
      obtain ⟨ka, h1, h⟩ := bd_is h
      obtain ⟨kb, h2, h⟩ := bd_is h
      cases h
      exact t_ite (n := n) (recS := evS call n) (ib _ _ h0) (pSs_of hst ih h1) (pSs_of hst ih h2)
    · obtain ⟨ct, h0, h⟩ := bd_is h
      obtain ⟨kb, h2, h⟩ := bd_is h
      cases h
      exact t_while (n := n) (recS := evS call n) G.xe (ib _ _ h0) (pSs_of hst ih h2)
    · obtain ⟨hs, h⟩ := gd_is h
      obtain ⟨ci, h0, h⟩ := bd_is h
      obtain ⟨t, h1, h⟩ := bd_is h
      obtain ⟨kb, h2, h⟩ := bd_is h
      cases h
      exact t_for (n := n) (recS := evS call n) G.xe G.calm (it_of K G.toGood h0 n) (tgt_of 9 G.toGood _ _ h1) (pSs_of hst ih h2) (fun x => set_of hs _ x)
    · cases h
      exact t_stuck fun _ _ => rfl
    · cases h
end
end
end Pyx

set_option Elab.async false
set_option linter.all false
set_option maxRecDepth 100000
set_option maxHeartbeats 4000000
/-! Pyx: defs and programs. -/
namespace Pyx
open PySem PySem.Spec PyProof.Rows L2
structure DefR where
  x : Str
  st : Stmt
  N : List Str
  ps : List Str
structure Txt where
  defs : List DefR
  consts : List (Str × PV)
  nob : List Str
  dts : List Nat := []
def fnsOf : List DefR → Nat → List (Str × (Nat × Nat))
  | [], _ => []
  | d :: r, i => (d.x, (i, d.ps.length)) :: fnsOf r (i + 1)
def envOf (T : Txt) (d : DefR) : CEnv := { N := d.N, names := (defScope d.st).names, fns := fnsOf T.defs 0, consts := T.consts, nob := T.nob, dts := T.dts }
def cDef (T : Txt) (d : DefR) : Option Def := bd (cSs (cmpS 30 (cmpN 40) (envOf T d)) (defBody d.st)) fun b => some ⟨d.ps.length, d.N.length, b⟩
def isFnK : ScopeKind → Bool
  | .function => true
  | _ => false
def isFree : NameKind → Bool
  | .free => true
  | _ => false
def nodupB : List Str → Bool
  | [] => true
  | x :: r => !r.contains x && nodupB r
def scopeB (d : DefR) : Bool :=
  isFnK (defScope d.st).kind && !(defScope d.st).isCoroutine && !(defScope d.st).isGenerator && nodupB d.N && decide (d.N.take d.ps.length = d.ps) && d.ps.all (fun x => isLoc ((defScope d.st).names.lookup x)) && (defScope d.st).names.all (fun y => !isFree y.2)
theorem nodupB_is : ∀ {l : List Str}, nodupB l = true → l.Nodup
  | [], _ => List.nodup_nil
  | x :: r, h => by
    unfold nodupB at h
    rw [Bool.and_eq_true, Bool.not_eq_true'] at h
    refine List.nodup_cons.mpr ⟨fun hx => ?_, nodupB_is h.2⟩
    have q := List.elem_eq_true_of_mem hx
    have h1 : r.elem x = false := h.1
    rw [q] at h1
    cases h1
theorem scopeB_is {d : DefR} (h : scopeB d = true) : FnScope d.N d.ps (defScope d.st) := by
  unfold scopeB at h
  simp only [Bool.and_eq_true, Bool.not_eq_true', decide_eq_true_eq, List.all_eq_true] at h
  obtain ⟨⟨⟨⟨⟨⟨h1, h2⟩, h3⟩, h4⟩, h5⟩, h6⟩, h7⟩ := h
  refine ⟨?_, h2, h3, nodupB_is h4, h5, fun x hx => ?_, fun y hy e => ?_⟩
  · cases e : (defScope d.st).kind <;> rw [e] at h1 <;> first | rfl | (cases h1; done)
  · have q := h6 x hx
    cases e : (defScope d.st).names.lookup x with
    | none => rw [e] at q; cases q
    | some k => rw [e] at q; cases k <;> first | (cases q; done) | exact .inl rfl | exact .inr rfl
  · have q := h7 y hy
    rw [e] at q
    cases q
theorem fnsOf_is : ∀ {l : List DefR} {i : Nat} {x : Str} {k ar : Nat}, (fnsOf l i).lookup x = some (k, ar) → ∃ d, i ≤ k ∧ l[k - i]? = some d ∧ d.x = x ∧ ar = d.ps.length
  | [], _, _, _, _, h => by cases h
  | d :: r, i, x, k, ar, h => by
    unfold fnsOf at h
    rw [List.lookup_cons] at h
    split at h
    · rename_i e
      cases h
      have e : x = d.x := by simpa using e
      exact ⟨d, Nat.le_refl _, by rw [Nat.sub_self]; rfl, e.symm, rfl⟩
    · obtain ⟨d', h1, h2, h3, h4⟩ := fnsOf_is h
      exact ⟨d', Nat.le_of_succ_le h1, by rw [show k - i = (k - (i + 1)) + 1 by omega, List.getElem?_cons_succ]; exact h2, h3, h4⟩
structure Facts (c : Rc) (mg : Str → Option Value) (T : Txt) : Prop where
  fn : ∀ (k : Nat) (d : DefR), T.defs[k]? = some d → ∃ fd, Fun c.K d.x d.x d.st (c.F k) fd ∧ mg d.x = some (.ref (c.F k)) ∧ Binds c.K fd d.ps []
  const : ∀ x v, T.consts.lookup x = some v → ∃ u w, mg x = some u ∧ RelV w u ∧ ∀ f n H, RV c f n H v w
  nob : ∀ x, T.nob.contains x = true → mg x = none
/-- the program's code is what its text is compiled to -/
structure Is (T : Txt) (P : Prg) : Prop where
  code : ∀ (k : Nat) (d : DefR), T.defs[k]? = some d → ∃ q : Def, (show List Def from P)[k]? = some q ∧ cDef T d = some q
  scope : ∀ (k : Nat) (d : DefR), T.defs[k]? = some d → scopeB d = true
  len : (show List Def from P).length = T.defs.length
theorem start_st {c : Rc} {f : Nat → Addr} {n : Nat} {H : Hp} {xs : List PV} {vs : List V} (r : RVs c f n H xs vs) (N : List Str) : RSt c f n H (xs.map some ++ List.replicate (N.length - xs.length) none) (L2.start N vs) := by
  unfold L2.start
  have hl := r.length
  refine ⟨by rw [List.length_append, List.length_append, List.length_map, List.length_map, List.length_replicate, List.length_replicate, hl], fun i x h => ?_⟩
  by_cases hi : i < xs.length
  · rw [List.getElem?_append_left (by rw [List.length_map]; exact hi), List.getElem?_map] at h
    cases e : xs[i]? with
    | none => rw [e] at h; cases h
    | some y =>
      rw [e] at h
      cases h
      obtain ⟨v, e1, r1⟩ := r.get i x e
      exact ⟨v, by rw [List.getElem?_append_left (by rw [List.length_map, ← hl]; exact hi), List.getElem?_map, e1]; rfl, r1⟩
  · rw [List.getElem?_append_right (by rw [List.length_map]; omega), List.getElem?_replicate] at h
    split at h <;> cases h
section
variable {Pg : Program} {mg : Str → Option Value} {base : Heap} {c : Rc} {T : Txt} {P : Prg} {n : Nat}
theorem fn_ok (FA : Facts c mg T) (HP : Is T P) : ∀ (dep k : Nat) (d : DefR), T.defs[k]? = some d → ∀ fd, Fun c.K d.x d.x d.st (c.F k) fd → FnOk Pg c.w c.K mg base CX0 dep (c.F k) fd d.ps (spF c (callP P n dep) k d.ps.length)
  | 0, k, d, hd, fd, F => ⟨fun vs H Q E h => h.1, fun A outer s H args us vs Q E _ _ _ _ h => by
      obtain ⟨_, f, h', ps, r, rs, p⟩ := h
      exact p.elim⟩
  | dep + 1, k, d, hd, fd, F => by
    have S := scopeB_is (HP.scope k d hd)
    refine F.ok S (fun vs H Q E h => h.1) fun cdv A outer s H vs Q E hr hsp => ?_
    obtain ⟨q, hq, hc⟩ := HP.code k d hd
    obtain ⟨b, hb, hc⟩ := bd_is hc
    cases hc
    have G : GoodS c (callP P n dep) (envOf T d) (cxOf CX0 Pg c.w c.K mg base d.N d.x (defScope d.st) (c.F k) cdv A outer s H E).nox := {
      K := rfl
      W := rfl
      calm := rfl
      nd := S.nd
      N := rfl
      xe := rfl
      vis := fun x h => by
        have h : isVis ((defScope d.st).names.lookup x) = true := h
        show Vis (defScope d.st) x
        unfold Vis
        cases e : (defScope d.st).names.lookup x with
        | none => rw [e] at h; cases h
        | some k => rw [e] at h; cases k <;> first | (cases h; done) | exact .inl rfl | exact .inr (.inl rfl) | exact .inr (.inr rfl)
      loc := fun x h => by
        have h : isLoc ((defScope d.st).names.lookup x) = true := h
        refine ⟨?_, .inl rfl⟩
        show L2.Loc (defScope d.st) x
        unfold L2.Loc
        cases e : (defScope d.st).names.lookup x with
        | none => rw [e] at h; cases h
        | some k => rw [e] at h; cases k <;> first | (cases h; done) | exact .inl rfl | exact .inr rfl
      fr := fun x h => h
      gl := fun x h => by
        have h : isGl ((defScope d.st).names.lookup x) = true := h
        show (defScope d.st).names.lookup x = some .globalImplicit
        cases e : (defScope d.st).names.lookup x with
        | none => rw [e] at h; cases h
        | some k => rw [e] at h; cases k <;> first | (cases h; done) | rfl
      fns := fun x k' ar h => by
        obtain ⟨d', _, h2, h3, h4⟩ := fnsOf_is h
        rw [Nat.sub_zero] at h2
        obtain ⟨fd', F', m', b'⟩ := FA.fn k' d' h2
        subst h3
        subst h4
        exact ⟨fd', d'.ps, dep, m', F'.kp, b', hr, fn_ok FA HP dep k' d' h2 fd' F'⟩
      fnv := fun k' vs h' ns => by
        have hk : ∃ d', T.defs[k']? = some d' := by
          cases e : T.defs[k']? with
          | some d' => exact ⟨d', rfl⟩
          | none =>
            exfalso
            refine ns ?_
            cases dep with
            | zero => rfl
            | succ dep =>
              show (match P[k']? with | some f => runD (callP P n dep) n f vs h' | none => .stuck) = .stuck
              have hn : (show List Def from P)[k']? = none := by
                rw [List.getElem?_eq_none_iff] at e ⊢
                rw [HP.len]
                exact e
              rw [show P[k']? = none from hn]
        obtain ⟨d', h2⟩ := hk
        obtain ⟨fd', F', m', b'⟩ := FA.fn k' d' h2
        have hl : vs.length = d'.ps.length := by
          cases dep with
          | zero => exact absurd rfl ns
          | succ dep =>
            obtain ⟨q', hq', hc'⟩ := HP.code k' d' h2
            obtain ⟨b2, hb2, hc'⟩ := bd_is hc'
            cases hc'
            have ns : (match P[k']? with | some f => runD (callP P n dep) n f vs h' | none => .stuck) ≠ .stuck := ns
            rw [show P[k']? = _ from hq'] at ns
            have ns : runD (callP P n dep) n ⟨d'.ps.length, d'.N.length, b2⟩ vs h' ≠ .stuck := ns
            unfold runD at ns
            split at ns
            · exact absurd rfl ns
            · rename_i e
              exact Nat.eq_of_beq_eq_true e
        rw [hl]
        exact ⟨d'.x, fd', d'.ps, dep, m', F'.kp, b', hr, fn_ok FA HP dep k' d' h2 fd' F'⟩
      consts := FA.const
      nob := FA.nob
      units := by
        have z := hr.un
        show (A.deeper _).units + 65 < cLine
        omega
      kind := S.kind
      names := rfl }
    refine ⟨tS c (evSs (evS (callP P n dep) n) b), (pss_of (pSs_of (fun st h => by cases n <;> rfl) (fun s k q => cmpS_ok (cmp_ok 40) G 30 s k q n) hb)), ?_⟩
    obtain ⟨hl, f, h, ps, r, rs, p⟩ := hsp
    have p : Post c f h.n H (match P[k]? with | some f => runD (callP P n dep) n f ps h | none => .stuck) (VQ c Q) := p
    rw [hq] at p
    have p : Post c f h.n H (runD (callP P n dep) n ⟨d.ps.length, d.N.length, b⟩ ps h) (VQ c Q) := p
    unfold runD at p
    split at p
    · exact p.elim
    · refine ⟨f, h, ps.map some ++ List.replicate (d.N.length - ps.length) none, r, start_st rs d.N, ?_⟩
      dsimp only at p
      cases z : evSs (evS (callP P n dep) n) b (ps.map some ++ List.replicate (d.N.length - ps.length) none) h with
      | stuck => rw [z] at p; exact p.elim
      | ok q h1 =>
        rw [z] at p
        cases q with
        | nx st1 => exact fun f1 H1 x1 r1 σ1 rs1 => p _ _ x1 r1 _ .non
        | rt v => exact fun f1 H1 x1 r1 w rw1 => p _ _ x1 r1 _ rw1
        | bk st1 => exact p.elim
        | ct st1 => exact p.elim
end
/-! ### a law's end -/
def start1 (ns : List Int) : PH := ⟨1, [.fz (ns.map PV.int)]⟩
/-- what law(script) promises -/
def spLaw (K : PySem.W.Frag) : Sp := fun vs H Q _ => ∃ (a : Addr) (ns : List Int), vs = [.ref a] ∧ SqL K H a (ns.map V.int) ∧ ns.length ≤ 63 ∧ Only H ∧ ∀ H', Q (.bl true) H'
theorem law_sp {c : Rc} {call : Nat → List PV → PH → R PV} {k : Nat} (main : ∀ ns : List Int, ns.length ≤ 63 → ∃ h', call k [.ref 0] (start1 ns) = .ok (.bl true) h') : ∀ vs H Q E, spLaw c.K vs H Q E → spF c call k 1 vs H Q E := fun vs H Q E ⟨a, ns, e, hs, hl, ho, q⟩ => by
  subst e
  obtain ⟨h', hm⟩ := main ns hl
  have fz : Frz c.K H a (ns.map V.int) := by
    rcases hs with (hs | hs) | hs
    · rcases ho a with z | ⟨o, xs, z⟩
      · rw [hs] at z; cases z
      · rw [hs] at z; cases z
    · exact .inl hs
    · exact .inr hs
  refine ⟨rfl, fun _ => a, start1 ns, [.ref 0], ⟨rfl, fun i o e => ?_, fun i j xs ys e1 e2 _ _ _ => ?_⟩, .cons (.ref Nat.one_pos) .nil, ?_⟩
  · have hi := get_lt e
    have hi : i = 0 := Nat.lt_one_iff.mp hi
    subst hi
    have e' : some (PO.fz (ns.map PV.int)) = some o := e
    cases e'
    exact .fz fz (rvs_ints ns)
  · have h1 : i = 0 := Nat.lt_one_iff.mp (get_lt e1)
    have h2 : j = 0 := Nat.lt_one_iff.mp (get_lt e2)
    rw [h1, h2]
  · rw [hm]
    intro f' H' _ _ v rv
    cases rv
    exact q H'
end Pyx

set_option Elab.async false
set_option linter.all false
set_option maxRecDepth 100000
set_option maxHeartbeats 4000000
/-! Pyx: a law's facts, gathered. -/
namespace Pyx
open PySem PySem.Spec PyProof.Rows L2
section
variable {c : Rc} {mg : Str → Option Value}
def FnFact (c : Rc) (mg : Str → Option Value) (k : Nat) (d : DefR) : Prop := ∃ fd, Fun c.K d.x d.x d.st (c.F k) fd ∧ mg d.x = some (.ref (c.F k)) ∧ Binds c.K fd d.ps []
def FnAll (c : Rc) (mg : Str → Option Value) : Nat → List DefR → Prop
  | _, [] => True
  | i, d :: r => FnFact c mg i d ∧ FnAll c mg (i + 1) r
theorem FnAll.at : ∀ {ds : List DefR} {i : Nat}, FnAll c mg i ds → ∀ (k : Nat) (d : DefR), ds[k]? = some d → FnFact c mg (i + k) d
  | [], _, _, k, d, h => by simp at h
  | e :: r, i, h, 0, d, q => by
    rw [List.getElem?_cons_zero] at q
    cases q
    exact h.1
  | e :: r, i, h, k + 1, d, q => by
    rw [List.getElem?_cons_succ] at q
    have z := FnAll.at h.2 k d q
    rw [show i + (k + 1) = i + 1 + k by omega]
    exact z
def KoFact (c : Rc) (mg : Str → Option Value) (x : Str) (v : PV) : Prop := ∃ u w, mg x = some u ∧ RelV w u ∧ ∀ f n H, RV c f n H v w
def KoAll (c : Rc) (mg : Str → Option Value) : List (Str × PV) → Prop
  | [] => True
  | p :: r => KoFact c mg p.1 p.2 ∧ KoAll c mg r
theorem KoAll.at : ∀ {l : List (Str × PV)}, KoAll c mg l → ∀ x v, l.lookup x = some v → KoFact c mg x v
  | [], _, x, v, h => by cases h
  | p :: r, h, x, v, q => by
    obtain ⟨y, u⟩ := p
    rw [List.lookup_cons] at q
    split at q
    · rename_i e
      cases q
      have e : x = y := by simpa using e
      subst e
      exact h.1
    · exact KoAll.at h.2 x v q
theorem ko_int {x : Str} {i : Int} {t : Tok} (h : mg x = some (.int i t)) : KoFact c mg x (.int i) := ⟨.int i t, .int i, h, ⟨t, rfl⟩, fun f n H => .int i⟩
def NoAll (mg : Str → Option Value) : List Str → Prop
  | [] => True
  | x :: r => mg x = none ∧ NoAll mg r
theorem NoAll.at : ∀ {l : List Str}, NoAll mg l → ∀ x, l.contains x = true → mg x = none
  | [], _, x, h => by cases h
  | y :: r, h, x, q => by
    have q : x ∈ y :: r := List.mem_of_elem_eq_true q
    rcases List.mem_cons.mp q with e | q
    · rw [e]; exact h.1
    · exact NoAll.at h.2 x (List.elem_eq_true_of_mem q)
theorem facts_of {T : Txt} (h1 : FnAll c mg 0 T.defs) (h2 : KoAll c mg T.consts) (h3 : NoAll mg T.nob) : Facts c mg T := ⟨fun k d hd => by
    have z := h1.at k d hd
    rw [Nat.zero_add] at z
    exact z, h2.at, h3.at⟩
def IsAll (T : Txt) : List DefR → List Def → Prop
  | [], _ => True
  | d :: r, q :: qs => (cDef T d = some q ∧ scopeB d = true) ∧ IsAll T r qs
  | _ :: _, [] => False
theorem IsAll.at {T : Txt} : ∀ {ds : List DefR} {qs : List Def}, IsAll T ds qs → ∀ (k : Nat) (d : DefR), ds[k]? = some d → ∃ q : Def, qs[k]? = some q ∧ cDef T d = some q ∧ scopeB d = true
  | [], _, _, k, d, h => by simp at h
  | e :: r, [], h, _, _, _ => h.elim
  | e :: r, q :: qs, h, 0, d, z => by
    rw [List.getElem?_cons_zero] at z
    cases z
    exact ⟨q, rfl, h.1.1, h.1.2⟩
  | e :: r, q :: qs, h, k + 1, d, z => by
    rw [List.getElem?_cons_succ] at z
    obtain ⟨q', h1, h2⟩ := IsAll.at h.2 k d z
    exact ⟨q', by rw [List.getElem?_cons_succ]; exact h1, h2⟩
theorem is_of {T : Txt} {P : Prg} (h : IsAll T T.defs P) (hl : (show List Def from P).length = T.defs.length) : Is T P := ⟨fun k d hd => let ⟨q, h1, h2, _⟩ := h.at k d hd; ⟨q, h1, h2⟩, fun k d hd => let ⟨_, _, _, h3⟩ := h.at k d hd; h3, hl⟩
/-- does it answer True -/
def okR : R PV → Bool
  | .ok (.bl b) _ => b
  | _ => false
theorem okR_is {r : R PV} (h : okR r = true) : ∃ h', r = .ok (.bl true) h' := by
  unfold okR at h
  split at h
  · cases h
    exact ⟨_, rfl⟩
  · cases h
end
end Pyx

set_option Elab.async false
set_option linter.all false
set_option maxRecDepth 100000
set_option maxHeartbeats 4000000
/-! Pyx: reasoning about the pure evaluator. -/
namespace Pyx
open PySem L2
/-- it ends well, and so -/
def Ok {α : Type} (r : R α) (Q : α → PH → Prop) : Prop := match r with
  | .ok a h => Q a h
  | .stuck => False
theorem Ok.mono {α : Type} {r : R α} {Q Q' : α → PH → Prop} (p : Ok r Q) (k : ∀ a h, Q a h → Q' a h) : Ok r Q' := by
  cases r with
  | ok a h => exact k a h p
  | stuck => exact p
/-- statements: goes on, returns, breaks, continues -/
def OkS (r : R FR) (N : PSt → PH → Prop) (T : PV → PH → Prop) (B C : PSt → PH → Prop) : Prop := match r with
  | .ok (.nx st) h => N st h
  | .ok (.rt v) h => T v h
  | .ok (.bk st) h => B st h
  | .ok (.ct st) h => C st h
  | .stuck => False
theorem OkS.mono {r : R FR} {N N' B B' C C' : PSt → PH → Prop} {T T' : PV → PH → Prop} (p : OkS r N T B C) (k1 : ∀ a h, N a h → N' a h) (k2 : ∀ a h, T a h → T' a h) (k3 : ∀ a h, B a h → B' a h) (k4 : ∀ a h, C a h → C' a h) : OkS r N' T' B' C' := by
  cases r with
  | ok a h =>
    cases a with
    | nx st => exact k1 _ _ p
    | rt v => exact k2 _ _ p
    | bk st => exact k3 _ _ p
    | ct st => exact k4 _ _ p
  | stuck => exact p
section
variable {call : Nat → List PV → PH → R PV} {n : Nat} {rec : CE → PSt → PH → R PV} {st : PSt} {h : PH} {Q : PV → PH → Prop} {a b d : CE}
theorem ok_ret {α : Type} {v : α} {Q : α → PH → Prop} (q : Q v h) : Ok (.ok v h) Q := q
theorem ok_var {i : Nat} {v : PV} (e : st[i]? = some (some v)) (q : Q v h) : Ok (evE call (n + 1) (.var i) st h) Q := by
  show Ok (eVar (evE call n) i st h) Q
  unfold eVar
  rw [e]
  exact q
theorem ok_val {v : PV} (q : Q v h) : Ok (evE call (n + 1) (.val v) st h) Q := q
theorem ok_bin {op : Bop} (q : Ok (evE call n a st h) fun v h1 => Ok (evE call n b st h1) fun w h2 => Ok (binP op v w h2) Q) : Ok (evE call (n + 1) (.bin op a b) st h) Q := by
  show Ok (eBin (evE call n) op a b st h) Q
  unfold eBin
  cases e1 : evE call n a st h with
  | stuck => rw [e1] at q; exact q
  | ok v h1 =>
    rw [e1] at q
    have q : Ok (evE call n b st h1) fun w h2 => Ok (binP op v w h2) Q := q
    dsimp only
    cases e2 : evE call n b st h1 with
    | stuck => rw [e2] at q; exact q
    | ok w h2 => rw [e2] at q; exact q
theorem ok_neg (q : Ok (evE call n a st h) fun v h1 => ∃ i, v = .int i ∧ Q (.int (-i)) h1) : Ok (evE call (n + 1) (.neg a) st h) Q := by
  show Ok (eNeg (evE call n) a st h) Q
  unfold eNeg
  cases e1 : evE call n a st h with
  | stuck => rw [e1] at q; exact q
  | ok v h1 =>
    rw [e1] at q
    obtain ⟨i, e, q⟩ := q
    subst e
    exact q
theorem ok_cmp {op : Cop} (q : Ok (evE call n a st h) fun v h1 => Ok (evE call n b st h1) fun w h2 => ∃ k, cmpP op v w h2 = some k ∧ Q (.bl k) h2) : Ok (evE call (n + 1) (.cmp op a b) st h) Q := by
  show Ok (eCmp (evE call n) op a b st h) Q
  unfold eCmp
  cases e1 : evE call n a st h with
  | stuck => rw [e1] at q; exact q
  | ok v h1 =>
    rw [e1] at q
    have q : Ok (evE call n b st h1) fun w h2 => ∃ k, cmpP op v w h2 = some k ∧ Q (.bl k) h2 := q
    dsimp only
    cases e2 : evE call n b st h1 with
    | stuck => rw [e2] at q; exact q
    | ok w h2 =>
      rw [e2] at q
      obtain ⟨k, e3, q⟩ := q
      dsimp only
      rw [e3]
      exact q
theorem ok_chain {o1 o2 : Cop} (q : Ok (evE call n a st h) fun v h1 => Ok (evE call n b st h1) fun w h2 => ∃ k, cmpP o1 v w h2 = some k ∧ (k = true → Ok (evE call n d st h2) fun u h3 => ∃ j, cmpP o2 w u h3 = some j ∧ Q (.bl j) h3) ∧ (k = false → Q (.bl false) h2)) :
    Ok (evE call (n + 1) (.chain o1 o2 a b d) st h) Q := by
  show Ok (eChain (evE call n) o1 o2 a b d st h) Q
  unfold eChain
  cases e1 : evE call n a st h with
  | stuck => rw [e1] at q; exact q
  | ok v h1 =>
    rw [e1] at q
    have q : Ok (evE call n b st h1) fun w h2 => ∃ k, cmpP o1 v w h2 = some k ∧ (k = true → Ok (evE call n d st h2) fun u h3 => ∃ j, cmpP o2 w u h3 = some j ∧ Q (.bl j) h3) ∧ (k = false → Q (.bl false) h2) := q
    dsimp only
    cases e2 : evE call n b st h1 with
    | stuck => rw [e2] at q; exact q
    | ok w h2 =>
      rw [e2] at q
      obtain ⟨k, e3, q1, q2⟩ := q
      dsimp only
      rw [e3]
      cases k with
      | false => exact q2 rfl
      | true =>
        have q1 := q1 rfl
        dsimp only
        cases e4 : evE call n d st h2 with
        | stuck => rw [e4] at q1; exact q1
        | ok u h3 =>
          rw [e4] at q1
          obtain ⟨j, e5, q⟩ := q1
          dsimp only
          rw [e5]
          exact q
theorem ok_isin {ng : Bool} (q : Ok (evE call n a st h) fun v h1 => Ok (evE call n b st h1) fun w h2 => ∃ k, inP v w h2 = some k ∧ Q (.bl (if ng then !k else k)) h2) : Ok (evE call (n + 1) (.isin ng a b) st h) Q := by
  show Ok (eIsin (evE call n) ng a b st h) Q
  unfold eIsin
  cases e1 : evE call n a st h with
  | stuck => rw [e1] at q; exact q
  | ok v h1 =>
    rw [e1] at q
    have q : Ok (evE call n b st h1) fun w h2 => ∃ k, inP v w h2 = some k ∧ Q (.bl (if ng then !k else k)) h2 := q
    dsimp only
    cases e2 : evE call n b st h1 with
    | stuck => rw [e2] at q; exact q
    | ok w h2 =>
      rw [e2] at q
      obtain ⟨k, e3, q⟩ := q
      dsimp only
      rw [e3]
      exact q
theorem ok_and (q : Ok (evE call n a st h) fun v h1 => ∃ k, v = .bl k ∧ (k = true → Ok (evE call n b st h1) Q) ∧ (k = false → Q (.bl false) h1)) : Ok (evE call (n + 1) (.and a b) st h) Q := by
  show Ok (eAnd (evE call n) a b st h) Q
  unfold eAnd
  cases e1 : evE call n a st h with
  | stuck => rw [e1] at q; exact q
  | ok v h1 =>
    rw [e1] at q
    obtain ⟨k, e, q1, q2⟩ := q
    subst e
    cases k with
    | true => exact q1 rfl
    | false => exact q2 rfl
theorem ok_or (q : Ok (evE call n a st h) fun v h1 => ∃ k, v = .bl k ∧ (k = false → Ok (evE call n b st h1) Q) ∧ (k = true → Q (.bl true) h1)) : Ok (evE call (n + 1) (.or a b) st h) Q := by
  show Ok (eOr (evE call n) a b st h) Q
  unfold eOr
  cases e1 : evE call n a st h with
  | stuck => rw [e1] at q; exact q
  | ok v h1 =>
    rw [e1] at q
    obtain ⟨k, e, q1, q2⟩ := q
    subst e
    cases k with
    | true => exact q2 rfl
    | false => exact q1 rfl
theorem ok_not (q : Ok (evE call n a st h) fun v h1 => ∃ k, v = .bl k ∧ Q (.bl (!k)) h1) : Ok (evE call (n + 1) (.not a) st h) Q := by
  show Ok (eNot (evE call n) a st h) Q
  unfold eNot
  cases e1 : evE call n a st h with
  | stuck => rw [e1] at q; exact q
  | ok v h1 =>
    rw [e1] at q
    obtain ⟨k, e, q⟩ := q
    subst e
    exact q
theorem ok_ite {t : CB} (q : Ok (evB (evE call n) t st h) fun k h1 => (k = true → Ok (evE call n a st h1) Q) ∧ (k = false → Ok (evE call n b st h1) Q)) : Ok (evE call (n + 1) (.ite t a b) st h) Q := by
  show Ok (eIte (evE call n) t a b st h) Q
  unfold eIte
  cases e1 : evB (evE call n) t st h with
  | stuck => rw [e1] at q; exact q
  | ok k h1 =>
    rw [e1] at q
    cases k with
    | true => exact q.1 rfl
    | false => exact q.2 rfl
theorem ok_tup {es : List CE} (q : Ok (evL (evE call n) es st h) fun vs h1 => vs.length ≤ 100000 ∧ Q (.tup vs) h1) : Ok (evE call (n + 1) (.tup es) st h) Q := by
  show Ok (eTup (evE call n) es st h) Q
  unfold eTup
  cases e1 : evL (evE call n) es st h with
  | stuck => rw [e1] at q; exact q
  | ok vs h1 =>
    rw [e1] at q
    obtain ⟨z, q⟩ := q
    dsimp only
    unfold okT small
    rw [Nat.ble_eq_true_of_le z]
    exact q
theorem ok_lst {es : List CE} (q : Ok (evL (evE call n) es st h) fun vs h1 => vs.length ≤ 100000 ∧ Q (.ref h1.n) (h1.push (.lst vs))) : Ok (evE call (n + 1) (.lst es) st h) Q := by
  show Ok (eLst (evE call n) es st h) Q
  unfold eLst
  cases e1 : evL (evE call n) es st h with
  | stuck => rw [e1] at q; exact q
  | ok vs h1 =>
    rw [e1] at q
    obtain ⟨z, q⟩ := q
    dsimp only
    unfold okL small
    rw [Nat.ble_eq_true_of_le z]
    exact q
theorem ok_call {k : Nat} {es : List CE} (q : Ok (evL (evE call n) es st h) fun vs h1 => Ok (call k vs h1) Q) : Ok (evE call (n + 1) (.call k es) st h) Q := by
  show Ok (eCall call (evE call n) k es st h) Q
  unfold eCall
  cases e1 : evL (evE call n) es st h with
  | stuck => rw [e1] at q; exact q
  | ok vs h1 => rw [e1] at q; exact q
theorem ok_bi {k : Bi} {es : List CE} (q : Ok (evL (evE call n) es st h) fun vs h1 => Ok (biP k vs h1) Q) : Ok (evE call (n + 1) (.bi k es) st h) Q := by
  show Ok (eBi (evE call n) k es st h) Q
  unfold eBi
  cases e1 : evL (evE call n) es st h with
  | stuck => rw [e1] at q; exact q
  | ok vs h1 => rw [e1] at q; exact q
theorem ok_isi {t : Ty} (q : Ok (evE call n a st h) fun v h1 => ∃ k, isTy v h1 t = some k ∧ Q (.bl k) h1) : Ok (evE call (n + 1) (.isi a t) st h) Q := by
  show Ok (eIsi (evE call n) a t st h) Q
  unfold eIsi
  cases e1 : evE call n a st h with
  | stuck => rw [e1] at q; exact q
  | ok v h1 =>
    rw [e1] at q
    obtain ⟨k, e, q⟩ := q
    dsimp only
    rw [e]
    exact q
theorem ok_isis {t u : Ty} (q : Ok (evE call n a st h) fun v h1 => ∃ k j, isTy v h1 t = some k ∧ isTy v h1 u = some j ∧ Q (.bl (k || j)) h1) : Ok (evE call (n + 1) (.isis a t u) st h) Q := by
  show Ok (eIsis (evE call n) a t u st h) Q
  unfold eIsis
  cases e1 : evE call n a st h with
  | stuck => rw [e1] at q; exact q
  | ok v h1 =>
    rw [e1] at q
    obtain ⟨k, j, e, e2, q⟩ := q
    dsimp only
    rw [e]
    cases k with
    | true => exact q
    | false =>
      dsimp only
      rw [e2]
      exact q
theorem ok_mt {m : Mt} {es : List CE} (q : Ok (evE call n a st h) fun v h1 => (∃ xs, seqL v h1 = some xs) ∧ Ok (evL (evE call n) es st h1) fun vs h2 => Ok (mtP m v vs h2) Q) : Ok (evE call (n + 1) (.mt m a es) st h) Q := by
  show Ok (eMt (evE call n) m a es st h) Q
  unfold eMt
  cases e1 : evE call n a st h with
  | stuck => rw [e1] at q; exact q
  | ok v h1 =>
    rw [e1] at q
    obtain ⟨⟨xs, e⟩, q⟩ := q
    dsimp only
    rw [e]
    dsimp only
    cases e2 : evL (evE call n) es st h1 with
    | stuck => rw [e2] at q; exact q
    | ok vs h2 => rw [e2] at q; exact q
theorem ok_ix (q : Ok (evE call n a st h) fun v h1 => Ok (evE call n b st h1) fun w h2 => ∃ u, ixP v w h2 = some u ∧ Q u h2) : Ok (evE call (n + 1) (.ix a b) st h) Q := by
  show Ok (eIx (evE call n) a b st h) Q
  unfold eIx
  cases e1 : evE call n a st h with
  | stuck => rw [e1] at q; exact q
  | ok v h1 =>
    rw [e1] at q
    have q : Ok (evE call n b st h1) fun w h2 => ∃ u, ixP v w h2 = some u ∧ Q u h2 := q
    dsimp only
    cases e2 : evE call n b st h1 with
    | stuck => rw [e2] at q; exact q
    | ok w h2 =>
      rw [e2] at q
      obtain ⟨u, e3, q⟩ := q
      dsimp only
      rw [e3]
      exact q
theorem ok_sl {lo hi : Option CE} (q : Ok (evE call n a st h) fun v h1 => Ok (evO (evE call n) lo st h1) fun l h2 => Ok (evO (evE call n) hi st h2) fun u h3 => Ok (slP v l u h3) Q) : Ok (evE call (n + 1) (.sl a lo hi) st h) Q := by
  show Ok (eSl (evE call n) a lo hi st h) Q
  unfold eSl
  cases e1 : evE call n a st h with
  | stuck => rw [e1] at q; exact q
  | ok v h1 =>
    rw [e1] at q
    have q : Ok (evO (evE call n) lo st h1) fun l h2 => Ok (evO (evE call n) hi st h2) fun u h3 => Ok (slP v l u h3) Q := q
    dsimp only
    cases e2 : evO (evE call n) lo st h1 with
    | stuck => rw [e2] at q; exact q
    | ok l h2 =>
      rw [e2] at q
      have q : Ok (evO (evE call n) hi st h2) fun u h3 => Ok (slP v l u h3) Q := q
      dsimp only
      cases e3 : evO (evE call n) hi st h2 with
      | stuck => rw [e3] at q; exact q
      | ok u h3 => rw [e3] at q; exact q
theorem ok_oN {Q : Option Int → PH → Prop} (q : Q none h) : Ok (evO rec none st h) Q := q
theorem ok_oS {Q : Option Int → PH → Prop} (q : Ok (rec a st h) fun v h1 => ∃ i, v = .int i ∧ Q (some i) h1) : Ok (evO rec (some a) st h) Q := by
  unfold evO
  dsimp only
  cases e1 : rec a st h with
  | stuck => rw [e1] at q; exact q
  | ok v h1 =>
    rw [e1] at q
    obtain ⟨i, e, q⟩ := q
    subst e
    exact q
theorem ok_nil {Q : List PV → PH → Prop} (q : Q [] h) : Ok (evL rec [] st h) Q := q
theorem ok_cons {es : List CE} {Q : List PV → PH → Prop} (q : Ok (rec a st h) fun v h1 => Ok (evL rec es st h1) fun vs h2 => Q (v :: vs) h2) : Ok (evL rec (a :: es) st h) Q := by
  unfold evL
  cases e1 : rec a st h with
  | stuck => rw [e1] at q; exact q
  | ok v h1 =>
    rw [e1] at q
    have q : Ok (evL rec es st h1) fun vs h2 => Q (v :: vs) h2 := q
    dsimp only
    cases e2 : evL rec es st h1 with
    | stuck => rw [e2] at q; exact q
    | ok vs h2 => rw [e2] at q; exact q
theorem ok_lc {it : CI} {tg : CT} {vs : List Nat} {ifs : Option CB} {elt : CE} (ht : tgIn tg vs = true) (q : Ok (evI (evE call n) it st h) fun iv h1 => Ok (lcL (evE call n) iv tg ifs elt (wipeP st vs) h1.n n 0 (h1.push (.lst []))) fun _ h2 => Q (.ref h1.n) h2) :
    Ok (evE call (n + 1) (.lc it tg vs ifs elt) st h) Q := by
  show Ok (eLc n (evE call n) it tg vs ifs elt st h) Q
  unfold eLc
  rw [ht]
  dsimp only
  cases e1 : evI (evE call n) it st h with
  | stuck => rw [e1] at q; exact q
  | ok iv h1 =>
    rw [e1] at q
    have q : Ok (lcL (evE call n) iv tg ifs elt (wipeP st vs) h1.n n 0 (h1.push (.lst []))) fun _ h2 => Q (.ref h1.n) h2 := q
    dsimp only
    cases e2 : lcL (evE call n) iv tg ifs elt (wipeP st vs) h1.n n 0 (h1.push (.lst [])) with
    | stuck => rw [e2] at q; exact q
    | ok u h2 => rw [e2] at q; exact q
/-! ### tests -/
variable {QB : Bool → PH → Prop} {s t : CB}
theorem ok_bval (q : Ok (rec a st h) fun v h1 => ∃ k, truth v h1 = some k ∧ QB k h1) : Ok (evB rec (.val a) st h) QB := by
  unfold evB
  cases e1 : rec a st h with
  | stuck => rw [e1] at q; exact q
  | ok v h1 =>
    rw [e1] at q
    obtain ⟨k, e, q⟩ := q
    dsimp only
    rw [e]
    exact q
theorem ok_bbl (q : Ok (rec a st h) fun v h1 => ∃ k, v = .bl k ∧ QB k h1) : Ok (evB rec (.bl a) st h) QB := by
  unfold evB
  cases e1 : rec a st h with
  | stuck => rw [e1] at q; exact q
  | ok v h1 =>
    rw [e1] at q
    obtain ⟨k, e, q⟩ := q
    subst e
    exact q
theorem ok_bnot (q : Ok (evB rec s st h) fun k h1 => QB (!k) h1) : Ok (evB rec (.not s) st h) QB := by
  unfold evB
  cases e1 : evB rec s st h with
  | stuck => rw [e1] at q; exact q
  | ok k h1 => rw [e1] at q; exact q
theorem ok_band (q : Ok (evB rec s st h) fun k h1 => (k = true → Ok (evB rec t st h1) QB) ∧ (k = false → QB false h1)) : Ok (evB rec (.and s t) st h) QB := by
  unfold evB
  cases e1 : evB rec s st h with
  | stuck => rw [e1] at q; exact q
  | ok k h1 =>
    rw [e1] at q
    cases k with
    | true => exact q.1 rfl
    | false => exact q.2 rfl
theorem ok_bor (q : Ok (evB rec s st h) fun k h1 => (k = false → Ok (evB rec t st h1) QB) ∧ (k = true → QB true h1)) : Ok (evB rec (.or s t) st h) QB := by
  unfold evB
  cases e1 : evB rec s st h with
  | stuck => rw [e1] at q; exact q
  | ok k h1 =>
    rw [e1] at q
    cases k with
    | true => exact q.2 rfl
    | false => exact q.1 rfl
theorem ok_ifN (q : QB true h) : Ok (evIf rec none st h) QB := q
theorem ok_ifS (q : Ok (evB rec s st h) QB) : Ok (evIf rec (some s) st h) QB := q
/-! ### what is walked -/
variable {QI : IV → PH → Prop}
theorem ok_over (q : Ok (rec a st h) fun v h1 => (∃ i xs, v = .ref i ∧ seqL (.ref i) h1 = some xs ∧ QI (.lst i) h1) ∨ ∃ xs, v = .tup xs ∧ QI (.tup xs) h1) : Ok (evI rec (.over a) st h) QI := by
  unfold evI
  dsimp only
  cases e1 : rec a st h with
  | stuck => rw [e1] at q; exact q
  | ok v h1 =>
    rw [e1] at q
    rcases q with ⟨i, xs, e, e2, q⟩ | ⟨xs, e, q⟩
    · subst e
      dsimp only
      rw [e2]
      exact q
    · subst e
      exact q
theorem ok_enum (q : Ok (rec a st h) fun v h1 => (∃ i xs, v = .ref i ∧ seqL (.ref i) h1 = some xs ∧ QI (.enumL i) h1) ∨ ∃ xs, v = .tup xs ∧ QI (.enumT xs) h1) : Ok (evI rec (.enum a) st h) QI := by
  unfold evI
  dsimp only
  cases e1 : rec a st h with
  | stuck => rw [e1] at q; exact q
  | ok v h1 =>
    rw [e1] at q
    rcases q with ⟨i, xs, e, e2, q⟩ | ⟨xs, e, q⟩
    · subst e
      dsimp only
      rw [e2]
      exact q
    · subst e
      exact q
theorem ok_rng1 (q : Ok (rec a st h) fun v h1 => ∃ j, v = .int j ∧ (-1000000 ≤ j ∧ j ≤ 1000000) ∧ QI (.rng 0 j.toNat) h1) : Ok (evI rec (.rng1 a) st h) QI := by
  unfold evI
  dsimp only
  cases e1 : rec a st h with
  | stuck => rw [e1] at q; exact q
  | ok v h1 =>
    rw [e1] at q
    obtain ⟨j, e, z, q⟩ := q
    subst e
    dsimp only
    rw [decide_eq_true z.1, decide_eq_true z.2]
    exact q
theorem ok_rng2 (q : Ok (rec a st h) fun v h1 => ∃ i, v = .int i ∧ Ok (rec b st h1) fun w h2 => ∃ j, w = .int j ∧ (-1000000 ≤ i ∧ i ≤ 1000000 ∧ -1000000 ≤ j ∧ j ≤ 1000000) ∧ QI (.rng i (j - i).toNat) h2) : Ok (evI rec (.rng2 a b) st h) QI := by
  unfold evI
  dsimp only
  cases e1 : rec a st h with
  | stuck => rw [e1] at q; exact q
  | ok v h1 =>
    rw [e1] at q
    obtain ⟨i, e, q⟩ := q
    subst e
    dsimp only
    cases e2 : rec b st h1 with
    | stuck => rw [e2] at q; exact q
    | ok w h2 =>
      rw [e2] at q
      obtain ⟨j, e, z, q⟩ := q
      subst e
      dsimp only
      rw [decide_eq_true z.1, decide_eq_true z.2.1, decide_eq_true z.2.2.1, decide_eq_true z.2.2.2]
      exact q
/-! ### statements -/
variable {N B C : PSt → PH → Prop} {T : PV → PH → Prop} {recS : CS → PSt → PH → R FR}
theorem os_nil (q : N st h) : OkS (evSs recS [] st h) N T B C := q
theorem os_cons {k : CS} {ks : List CS} (q : OkS (recS k st h) (fun st1 h1 => OkS (evSs recS ks st1 h1) N T B C) T B C) : OkS (evSs recS (k :: ks) st h) N T B C := by
  unfold evSs
  cases e1 : recS k st h with
  | stuck => rw [e1] at q; exact q
  | ok r h1 =>
    rw [e1] at q
    cases r <;> exact q
theorem os_pass (q : N st h) : OkS (evS call (n + 1) .pass st h) N T B C := q
theorem os_brk (q : B st h) : OkS (evS call (n + 1) .brk st h) N T B C := q
theorem os_cont (q : C st h) : OkS (evS call (n + 1) .cont st h) N T B C := q
theorem os_retN (q : T .non h) : OkS (evS call (n + 1) .retN st h) N T B C := q
theorem os_ret (q : Ok (evE call n a st h) T) : OkS (evS call (n + 1) (.ret a) st h) N T B C := by
  show OkS (xRet n (evE call n) (evS call n) a st h) N T B C
  unfold xRet
  cases e1 : evE call n a st h with
  | stuck => rw [e1] at q; exact q
  | ok v h1 => rw [e1] at q; exact q
theorem os_expr (q : Ok (evE call n a st h) fun _ h1 => N st h1) : OkS (evS call (n + 1) (.expr a) st h) N T B C := by
  show OkS (xExpr n (evE call n) (evS call n) a st h) N T B C
  unfold xExpr
  cases e1 : evE call n a st h with
  | stuck => rw [e1] at q; exact q
  | ok v h1 => rw [e1] at q; exact q
theorem os_asg {tg : CT} (q : Ok (evE call n a st h) fun v h1 => ∃ st1, asgT tg v st = some st1 ∧ N st1 h1) : OkS (evS call (n + 1) (.asg tg a) st h) N T B C := by
  show OkS (xAsg n (evE call n) (evS call n) tg a st h) N T B C
  unfold xAsg
  cases e1 : evE call n a st h with
  | stuck => rw [e1] at q; exact q
  | ok v h1 =>
    rw [e1] at q
    obtain ⟨st1, e, q⟩ := q
    dsimp only
    rw [e]
    exact q
theorem os_set {i : Nat} (q : Ok (evE call n a st h) fun v h1 => N (st.set i (some v)) h1) : OkS (evS call (n + 1) (.asg (.nm i) a) st h) N T B C := os_asg (q.mono fun v h1 z => ⟨_, rfl, z⟩)
theorem os_par {i j : Nat} (q : Ok (evE call n a st h) fun v h1 => Ok (evE call n b st h1) fun w h2 => N ((st.set i (some v)).set j (some w)) h2) : OkS (evS call (n + 1) (.par i j a b) st h) N T B C := by
  show OkS (xPar n (evE call n) (evS call n) i j a b st h) N T B C
  unfold xPar
  cases e1 : evE call n a st h with
  | stuck => rw [e1] at q; exact q
  | ok v h1 =>
    rw [e1] at q
    have q : Ok (evE call n b st h1) fun w h2 => N ((st.set i (some v)).set j (some w)) h2 := q
    dsimp only
    cases e2 : evE call n b st h1 with
    | stuck => rw [e2] at q; exact q
    | ok w h2 => rw [e2] at q; exact q
theorem os_par3 {i j l : Nat} (q : Ok (evE call n a st h) fun v h1 => Ok (evE call n b st h1) fun w h2 => Ok (evE call n d st h2) fun u h3 => N (((st.set i (some v)).set j (some w)).set l (some u)) h3) : OkS (evS call (n + 1) (.par3 i j l a b d) st h) N T B C := by
  show OkS (xPar3 n (evE call n) (evS call n) i j l a b d st h) N T B C
  unfold xPar3
  cases e1 : evE call n a st h with
  | stuck => rw [e1] at q; exact q
  | ok v h1 =>
    rw [e1] at q
    have q : Ok (evE call n b st h1) fun w h2 => Ok (evE call n d st h2) fun u h3 => N (((st.set i (some v)).set j (some w)).set l (some u)) h3 := q
    dsimp only
    cases e2 : evE call n b st h1 with
    | stuck => rw [e2] at q; exact q
    | ok w h2 =>
      rw [e2] at q
      have q : Ok (evE call n d st h2) fun u h3 => N (((st.set i (some v)).set j (some w)).set l (some u)) h3 := q
      dsimp only
      cases e3 : evE call n d st h2 with
      | stuck => rw [e3] at q; exact q
      | ok u h3 => rw [e3] at q; exact q
theorem os_setix (q : Ok (evE call n d st h) fun v h1 => Ok (evE call n a st h1) fun o h2 => Ok (evE call n b st h2) fun k h3 => ∃ h4, setP o k v h3 = some h4 ∧ N st h4) : OkS (evS call (n + 1) (.setix a b d) st h) N T B C := by
  show OkS (xSetix n (evE call n) (evS call n) a b d st h) N T B C
  unfold xSetix
  cases e1 : evE call n d st h with
  | stuck => rw [e1] at q; exact q
  | ok v h1 =>
    rw [e1] at q
    have q : Ok (evE call n a st h1) fun o h2 => Ok (evE call n b st h2) fun k h3 => ∃ h4, setP o k v h3 = some h4 ∧ N st h4 := q
    dsimp only
    cases e2 : evE call n a st h1 with
    | stuck => rw [e2] at q; exact q
    | ok o h2 =>
      rw [e2] at q
      have q : Ok (evE call n b st h2) fun k h3 => ∃ h4, setP o k v h3 = some h4 ∧ N st h4 := q
      dsimp only
      cases e3 : evE call n b st h2 with
      | stuck => rw [e3] at q; exact q
      | ok k h3 =>
        rw [e3] at q
        obtain ⟨h4, e, q⟩ := q
        dsimp only
        rw [e]
        exact q
theorem os_aug {i : Nat} {op : Bop} {x : Int} (e0 : st[i]? = some (some (.int x))) (q : Ok (evE call n a st h) fun v h1 => ∃ y z, v = .int y ∧ augI op x y = some z ∧ N (st.set i (some (.int z))) h1) : OkS (evS call (n + 1) (.augn i op a) st h) N T B C := by
  show OkS (xAugn n (evE call n) (evS call n) i op a st h) N T B C
  unfold xAugn
  rw [e0]
  dsimp only
  cases e1 : evE call n a st h with
  | stuck => rw [e1] at q; exact q
  | ok v h1 =>
    rw [e1] at q
    obtain ⟨y, z, e, e2, q⟩ := q
    subst e
    dsimp only
    rw [e2]
    exact q
theorem os_ite {t u : List CS} (q : Ok (evB (evE call n) s st h) fun k h1 => (k = true → OkS (evSs (evS call n) t st h1) N T B C) ∧ (k = false → OkS (evSs (evS call n) u st h1) N T B C)) : OkS (evS call (n + 1) (.ite s t u) st h) N T B C := by
  show OkS (xIte n (evE call n) (evS call n) s t u st h) N T B C
  unfold xIte
  cases e1 : evB (evE call n) s st h with
  | stuck => rw [e1] at q; exact q
  | ok k h1 =>
    rw [e1] at q
    cases k with
    | true => exact q.1 rfl
    | false => exact q.2 rfl
theorem os_for {tg : CT} {it : CI} {t : List CS} (q : Ok (evI (evE call n) it st h) fun iv h1 => OkS (forL (evSs (evS call n) t) iv tg n 0 st h1) N T B C) : OkS (evS call (n + 1) (.for tg it t) st h) N T B C := by
  show OkS (xFor n (evE call n) (evS call n) tg it t st h) N T B C
  unfold xFor
  cases e1 : evI (evE call n) it st h with
  | stuck => rw [e1] at q; exact q
  | ok iv h1 => rw [e1] at q; exact q
theorem os_while {t : List CS} (q : OkS (whL (evB (evE call n) s) (evSs (evS call n) t) n st h) N T B C) : OkS (evS call (n + 1) (.while s t) st h) N T B C := q
/-! ### loops, by an invariant -/
theorem os_forL {body : PSt → PH → R FR} {iv : IV} {tg : CT} (I : Nat → PSt → PH → Prop) (top : Nat)
    (turn : ∀ k st h, I k st h → k ≤ top ∧ ((ivN iv k h = .stop ∧ N st h) ∨ ∃ v st1, ivN iv k h = .item v ∧ asgT tg v st = some st1 ∧ OkS (body st1 h) (I (k + 1)) T N (I (k + 1)))) :
    ∀ (m k : Nat) (st : PSt) (h : PH), top < m + k → I k st h → OkS (forL body iv tg m k st h) N T B C
  | 0, k, st, h, hm, i => by
    have z := (turn k st h i).1
    omega
  | m + 1, k, st, h, hm, i => by
    unfold forL
    obtain ⟨_, ⟨e, q⟩ | ⟨v, st1, e, e2, q⟩⟩ := turn k st h i
    · rw [e]
      exact q
    · rw [e]
      dsimp only
      rw [e2]
      dsimp only
      cases e3 : body st1 h with
      | stuck => rw [e3] at q; exact q
      | ok r h2 =>
        rw [e3] at q
        cases r with
        | nx st2 => exact os_forL I top turn m (k + 1) st2 h2 (by omega) q
        | ct st2 => exact os_forL I top turn m (k + 1) st2 h2 (by omega) q
        | bk st2 => exact q
        | rt v => exact q
theorem os_whL {test : PSt → PH → R Bool} {body : PSt → PH → R FR} (I : Nat → PSt → PH → Prop)
    (turn : ∀ k st h, I k st h → Ok (test st h) fun b h1 => (b = false → N st h1) ∧ (b = true → 0 < k ∧ OkS (body st h1) (I (k - 1)) T N (I (k - 1)))) :
    ∀ (m k : Nat) (st : PSt) (h : PH), k < m → I k st h → OkS (whL test body m st h) N T B C
  | 0, k, st, h, hm, i => absurd hm (Nat.not_lt_zero _)
  | m + 1, k, st, h, hm, i => by
    unfold whL
    have q := turn k st h i
    cases e : test st h with
    | stuck => rw [e] at q; exact q.elim
    | ok b h1 =>
      rw [e] at q
      cases b with
      | false => exact q.1 rfl
      | true =>
        obtain ⟨q1, q2⟩ := q.2 rfl
        dsimp only
        cases e3 : body st h1 with
        | stuck => rw [e3] at q2; exact q2
        | ok r h2 =>
          rw [e3] at q2
          cases r with
          | nx st2 => exact os_whL I turn m (k - 1) st2 h2 (by omega) q2
          | ct st2 => exact os_whL I turn m (k - 1) st2 h2 (by omega) q2
          | bk st2 => exact q2
          | rt v => exact q2
theorem ok_lcL {iv : IV} {tg : CT} {ifs : Option CB} {elt : CE} {st : PSt} {d : Nat} {Q : Unit → PH → Prop} (I : Nat → PH → Prop) (top : Nat)
    (turn : ∀ k h, I k h → k ≤ top ∧ ((ivN iv k h = .stop ∧ Q () h) ∨ ∃ v st1, ivN iv k h = .item v ∧ asgT tg v st = some st1 ∧ Ok (evIf rec ifs st1 h) fun b h1 => (b = false → I (k + 1) h1) ∧ (b = true → Ok (rec elt st1 h1) fun v h2 => ∃ acc, h2.get d = some (.lst acc) ∧ acc.length ≤ 100000 ∧ I (k + 1) (h2.set d (.lst (acc ++ [v])))))) :
    ∀ (m k : Nat) (h : PH), top < m + k → I k h → Ok (lcL rec iv tg ifs elt st d m k h) Q
  | 0, k, h, hm, i => by
    have z := (turn k h i).1
    omega
  | m + 1, k, h, hm, i => by
    unfold lcL
    obtain ⟨_, ⟨e, q⟩ | ⟨v, st1, e, e2, q⟩⟩ := turn k h i
    · rw [e]
      exact q
    · rw [e]
      dsimp only
      rw [e2]
      dsimp only
      cases e3 : evIf rec ifs st1 h with
      | stuck => rw [e3] at q; exact q
      | ok b h1 =>
        rw [e3] at q
        cases b with
        | false => exact ok_lcL I top turn m (k + 1) h1 (by omega) (q.1 rfl)
        | true =>
          have q := q.2 rfl
          dsimp only
          cases e4 : rec elt st1 h1 with
          | stuck => rw [e4] at q; exact q
          | ok u h2 =>
            rw [e4] at q
            obtain ⟨acc, g1, g2, g3⟩ := q
            dsimp only
            have e5 : lstAt (.ref d) h2 = some (d, acc) := by
              unfold lstAt
              dsimp only
              rw [g1]
            rw [e5]
            dsimp only
            unfold small
            rw [Nat.ble_eq_true_of_le g2]
            exact ok_lcL I top turn m (k + 1) _ (by omega) g3
end
/-! ### a call of a def -/
theorem ok_def {P : Prg} {n d k ar sz : Nat} {b : List CS} {vs : List PV} {h : PH} {Q : PV → PH → Prop} (e : (show List Def from P)[k]? = some ⟨ar, sz, b⟩) (ha : vs.length = ar)
    (q : OkS (evSs (evS (callP P n d) n) b (vs.map some ++ List.replicate (sz - vs.length) none) h) (fun _ h1 => Q .non h1) Q (fun _ _ => False) (fun _ _ => False)) : Ok (callP P n (d + 1) k vs h) Q := by
  show Ok (match P[k]? with | some f => runD (callP P n d) n f vs h | none => .stuck) Q
  rw [show P[k]? = some (⟨ar, sz, b⟩ : Def) from e]
  dsimp only
  unfold runD
  dsimp only
  rw [show Nat.beq vs.length ar = true by rw [ha]; exact Nat.beq_refl _]
  dsimp only
  cases e1 : evSs (evS (callP P n d) n) b (vs.map some ++ List.replicate (sz - vs.length) none) h with
  | stuck => rw [e1] at q; exact q
  | ok r h1 =>
    rw [e1] at q
    cases r with
    | nx st => exact q
    | rt v => exact q
    | bk st => exact q.elim
    | ct st => exact q.elim
theorem ok_is {r : R PV} {Q : PV → PH → Prop} (p : Ok r Q) (k : ∀ v h, Q v h → v = .bl true) : ∃ h', r = .ok (.bl true) h' := by
  cases r with
  | stuck => exact p.elim
  | ok v h =>
    have e := k v h p
    subst e
    exact ⟨h, rfl⟩
end Pyx

set_option Elab.async false
set_option linter.all false
set_option maxRecDepth 100000
set_option maxHeartbeats 4000000
/-! Pyx: heaps that grow, values read, comprehensions. -/
namespace Pyx
open PySem L2
def Wf (h : PH) : Prop := h.os.length = h.n
/-- the list at i is what a law draws by -/
def RowAt (h : PH) (i : Nat) : Prop := ∃ (ns : List Int) (q s r : Int), h.get 0 = some (.fz (ns.map PV.int)) ∧ h.get i = some (.lst [.ref 0, .int q, .int s, .int r]) ∧ 0 ≤ q
/-- all objects stand but the one at p -/
structure Le (p : Option Nat) (h h' : PH) : Prop where
  wf : Wf h'
  n : h.n ≤ h'.n
  get : ∀ i o, p ≠ some i → h.get i = some o → h'.get i = some o
  row : ∀ i, p = some i → RowAt h i → RowAt h' i
section
variable {p : Option Nat} {h h0 h1 h2 : PH}
theorem Le.refl (w : Wf h) : Le p h h := ⟨w, Nat.le_refl _, fun _ _ _ e => e, fun _ _ e => e⟩
theorem Le.trans (a : Le p h h1) (b : Le p h1 h2) : Le p h h2 := ⟨b.wf, Nat.le_trans a.n b.n, fun i o k e => b.get i o k (a.get i o k e), fun i k r => b.row i k (a.row i k r)⟩
theorem Le.weak (a : Le none h h1) : Le p h h1 := ⟨a.wf, a.n, fun i o _ e => a.get i o (by intro z; cases z) e, fun i _ ⟨ns, q, s, r, e1, e2, e3⟩ => ⟨ns, q, s, r, a.get _ _ (by intro z; cases z) e1, a.get _ _ (by intro z; cases z) e2, e3⟩⟩
theorem wf_push {o : PO} (w : Wf h) : Wf (h.push o) := by
  unfold Wf PH.push at *
  rw [List.length_cons, w]
theorem wf_set {o : PO} {i : Nat} (w : Wf h) : Wf (h.set i o) := by
  unfold Wf PH.set at *
  dsimp only
  rw [List.length_set, w]
theorem get_old {o : PO} {i : Nat} {u : PO} (e : h.get i = some u) : (h.push o).get i = some u := by
  rw [get_push, if_neg (Nat.ne_of_lt (get_lt e))]
  exact e
theorem get_new {o : PO} : (h.push o).get h.n = some o := by
  rw [get_push, if_pos rfl]
theorem Le.push (w : Wf h) {o : PO} : Le p h (h.push o) := Le.weak ⟨wf_push w, Nat.le_succ _, fun i u _ e => get_old e, fun i k _ => by cases k⟩
theorem get_at_set {i : Nat} {o u : PO} (w : Wf h) (e : h.get i = some u) : (h.set i o).get i = some o := by
  rw [get_set w (get_lt e), if_pos rfl]
theorem get_of_set {i j : Nat} {o u v : PO} (w : Wf h) (e : h.get i = some u) (e2 : h.get j = some v) (ne : j ≠ i) : (h.set i o).get j = some v := by
  rw [get_set w (get_lt e), if_neg ne]
  exact e2
/-- an object that is not older is rewritten -/
theorem Le.set (a : Le p h0 h) {i : Nat} {o u : PO} (hi : h0.n ≤ i) (e : h.get i = some u) : Le p h0 (h.set i o) := by
  refine ⟨wf_set a.wf, a.n, fun j v k ej => get_of_set a.wf e (a.get j v k ej) (fun z => ?_), fun j k ⟨ns, q, s, r, e1, e2, e3⟩ => ?_⟩
  · subst z
    exact absurd (get_lt ej) (Nat.not_lt.mpr hi)
  · obtain ⟨ns', q', s', r', f1, f2, f3⟩ := a.row j k ⟨ns, q, s, r, e1, e2, e3⟩
    refine ⟨ns', q', s', r', get_of_set a.wf e f1 (fun z => ?_), get_of_set a.wf e f2 (fun z => ?_), f3⟩
    · subst z
      exact absurd (get_lt e1) (Nat.not_lt.mpr hi)
    · subst z
      exact absurd (get_lt e2) (Nat.not_lt.mpr hi)
end
/-! ### values -/
abbrev iL (ns : List Int) : List PV := ns.map PV.int
section
variable {h : PH} {Q : PV → PH → Prop} {i j : Int}
theorem ok_add (q : Q (.int (i + j)) h) : Ok (binP .add (.int i) (.int j) h) Q := q
theorem ok_sub (q : Q (.int (i - j)) h) : Ok (binP .sub (.int i) (.int j) h) Q := q
theorem ok_mod (hj : 0 < j) (q : Q (.int (i % j)) h) : Ok (binP .mod (.int i) (.int j) h) Q := by
  unfold binP
  dsimp only
  rw [decide_eq_true hj]
  exact q
theorem ok_fdiv (hj : 0 < j ∧ j < 1073741824) (q : Q (.int (i / j)) h) : Ok (binP .fdiv (.int i) (.int j) h) Q := by
  unfold binP
  dsimp only
  rw [decide_eq_true hj.1, decide_eq_true hj.2]
  exact q
theorem wide_of {i : Int} (h1 : -18446744073709551616 < i) (h2 : i < 18446744073709551616) : wide i = true := by
  unfold wide
  rw [decide_eq_true h1, decide_eq_true h2]
  rfl
theorem ok_mulL (hj : wide i = true) (q : Q (.int (i * j)) h) : Ok (binP .mul (.int i) (.int j) h) Q := by
  unfold binP
  dsimp only
  rw [hj]
  exact q
theorem ok_mulR (hj : wide j = true) (q : Q (.int (i * j)) h) : Ok (binP .mul (.int i) (.int j) h) Q := by
  unfold binP
  dsimp only
  rw [hj, Bool.or_true]
  exact q
theorem ok_catT {xs ys : List PV} (z : (xs ++ ys).length ≤ 100000) (q : Q (.tup (xs ++ ys)) h) : Ok (binP .add (.tup xs) (.tup ys) h) Q := by
  show Ok (okT (xs ++ ys) h) Q
  unfold okT small
  rw [Nat.ble_eq_true_of_le z]
  exact q
theorem ok_catL {a b : Nat} {xs ys : List PV} (ha : h.get a = some (.lst xs)) (hb : h.get b = some (.lst ys)) (z : (xs ++ ys).length ≤ 100000) (q : Q (.ref h.n) (h.push (.lst (xs ++ ys)))) : Ok (binP .add (.ref a) (.ref b) h) Q := by
  unfold binP lstAt
  dsimp only
  rw [ha, hb]
  dsimp only
  unfold okL small
  rw [Nat.ble_eq_true_of_le z]
  exact q
theorem eq_int : cmpP .eq (.int i) (.int j) h = some (decide (i = j)) := by
  show eqP h (.int i) (.int j) = _
  have e : ∀ k : Int, toDat h (.int k) = some (.int k) := fun k => rfl
  unfold eqP
  rw [e, e]
  show some (PyData.eqv (.int i) (.int j)) = _
  rw [PyData.eqv]
  rfl
theorem ne_int : cmpP .ne (.int i) (.int j) h = some (!decide (i = j)) := by
  show negO (cmpP .eq (.int i) (.int j) h) = _
  rw [eq_int]
  rfl
theorem eq_bl {a b : Bool} : cmpP .eq (.bl a) (.bl b) h = some (a == b) := by
  show eqP h (.bl a) (.bl b) = _
  have e : ∀ k : Bool, toDat h (.bl k) = some (.bool k) := fun k => rfl
  unfold eqP
  rw [e, e]
  show some (PyData.eqv (.bool a) (.bool b)) = _
  rw [PyData.eqv]
theorem ne_bl {a b : Bool} : cmpP .ne (.bl a) (.bl b) h = some (!(a == b)) := by
  show negO (cmpP .eq (.bl a) (.bl b) h) = _
  rw [eq_bl]
  rfl
theorem lt_int' : cmpP .lt (.int i) (.int j) h = some (decide (i < j)) := rfl
theorem le_int' : cmpP .le (.int i) (.int j) h = some (decide (i ≤ j)) := rfl
theorem gt_int' : cmpP .gt (.int i) (.int j) h = some (decide (j < i)) := rfl
theorem ge_int' : cmpP .ge (.int i) (.int j) h = some (decide (j ≤ i)) := rfl
theorem seqOf_lst {a : Nat} {xs : List PV} (e : h.get a = some (.lst xs)) : seqOf (.ref a) h = some xs := by
  unfold seqOf
  dsimp only
  rw [e]
theorem seqOf_fz {a : Nat} {xs : List PV} (e : h.get a = some (.fz xs)) : seqOf (.ref a) h = some xs := by
  unfold seqOf
  dsimp only
  rw [e]
theorem seqL_lst {a : Nat} {xs : List PV} (e : h.get a = some (.lst xs)) : seqL (.ref a) h = some xs := by
  unfold seqL
  dsimp only
  rw [e]
theorem seqL_fz {a : Nat} {xs : List PV} (e : h.get a = some (.fz xs)) : seqL (.ref a) h = some xs := by
  unfold seqL
  dsimp only
  rw [e]
theorem any_eqF (i : Int) : ∀ ns : List Int, ((iL ns).any fun y => eqF y (.int i)) = decide (i ∈ ns)
  | [] => rfl
  | k :: ns => by
    show (k == i || (iL ns).any fun y => eqF y (.int i)) = decide (i ∈ k :: ns)
    rw [any_eqF i ns]
    by_cases hk : k = i
    · subst hk
      simp
    · have hk' : ¬ i = k := fun z => hk z.symm
      simp [hk, hk']
theorem in_ints {w : PV} {ns : List Int} (e : seqOf w h = some (iL ns)) : inP (.int i) w h = some (decide (i ∈ ns)) := by
  unfold inP
  rw [e]
  dsimp only
  have e1 : (flatP (.int i) && (iL ns).all flatP) = true := by
    rw [Bool.and_eq_true]
    refine ⟨rfl, List.all_eq_true.mpr fun x hx => ?_⟩
    obtain ⟨k, _, rfl⟩ := List.mem_map.mp hx
    rfl
  rw [e1]
  exact congrArg some (any_eqF i ns)
theorem ix_of_nat {v : PV} {xs : List PV} {k : Nat} {u : PV} (e : seqOf v h = some xs) (g : xs[k]? = some u) : ixP v (.int (k : Int)) h = some u := by
  unfold ixP
  dsimp only
  rw [e]
  exact atI_nat g
theorem ok_len {v : PV} {xs : List PV} (e : seqOf v h = some xs) (q : Q (.int xs.length) h) : Ok (biP .len [v] h) Q := by
  unfold biP
  dsimp only
  rw [e]
  exact q
theorem ok_tupleOf {v : PV} {xs : List PV} (e : seqOf v h = some xs) (z : xs.length ≤ 100000) (q : Q (.tup xs) h) : Ok (biP .tuple [v] h) Q := by
  unfold biP
  dsimp only
  rw [e]
  dsimp only
  unfold okT small
  rw [Nat.ble_eq_true_of_le z]
  exact q
theorem ok_listOf {v : PV} {xs : List PV} (e : seqOf v h = some xs) (z : xs.length ≤ 100000) (q : Q (.ref h.n) (h.push (.lst xs))) : Ok (biP .list [v] h) Q := by
  unfold biP
  dsimp only
  rw [e]
  dsimp only
  unfold okL small
  rw [Nat.ble_eq_true_of_le z]
  exact q
theorem intsP_ints : ∀ ns : List Int, intsP (iL ns) = some ns
  | [] => rfl
  | n :: ns => by
    show (match intsP (iL ns) with | some is => some (n :: is) | none => none) = _
    rw [intsP_ints ns]
theorem ok_setOf {v : PV} {ns : List Int} (e : seqOf v h = some (iL ns)) (z : ns.length ≤ 60) (q : Q (.ref h.n) (h.push (.set (dedI ns)))) : Ok (biP .set [v] h) Q := by
  unfold biP intsOf
  dsimp only
  rw [e]
  dsimp only
  rw [intsP_ints]
  dsimp only
  rw [Nat.ble_eq_true_of_le z]
  exact q
theorem ok_sortedSet {a : Nat} {ns : List Int} (e : h.get a = some (.set ns)) (z : ns.length ≤ 60) (q : Q (.ref h.n) (h.push (.lst (iL (sortI ns))))) : Ok (biP .sorted [.ref a] h) Q := by
  unfold biP setOf
  dsimp only
  rw [e]
  dsimp only
  rw [show Nat.blt ns.length 64 = true from Nat.ble_eq_true_of_le (by omega)]
  dsimp only
  unfold okL small
  have hl : (iL (sortI ns)).length ≤ 100000 := by
    rw [List.length_map, (sortI_perm ns).length_eq]
    omega
  rw [Nat.ble_eq_true_of_le hl]
  exact q
theorem ok_append {a : Nat} {xs : List PV} {v : PV} (e : h.get a = some (.lst xs)) (z : xs.length ≤ 100000) (q : Q .non (h.set a (.lst (xs ++ [v])))) : Ok (mtP .append (.ref a) [v] h) Q := by
  show Ok (appP (.ref a) [v] h) Q
  unfold appP lstAt
  dsimp only
  rw [e]
  dsimp only
  unfold small
  rw [Nat.ble_eq_true_of_le z]
  exact q
theorem set_lst {a k : Nat} {xs : List PV} {v : PV} (e : h.get a = some (.lst xs)) (hk : k < xs.length) : setP (.ref a) (.int (k : Int)) v h = some (h.set a (.lst (xs.set k v))) := by
  unfold setP lstAt
  dsimp only
  rw [e]
  dsimp only
  have e2 : ixN xs.length (k : Int) = some k := by
    unfold ixN
    rw [if_pos (by omega), if_pos (by omega), Int.toNat_natCast]
  rw [e2]
end
/-! ### a comprehension, by what it has gathered -/
theorem ok_lcI {rec : CE → PSt → PH → R PV} {iv : IV} {tg : CT} {ifs : Option CB} {elt : CE} {st : PSt} {Q : Unit → PH → Prop} (p : Option Nat) (items : List PV) (h0 : PH) (w0 : Wf h0) (hp : ∀ i, p = some i → i < h0.n)
    (hiv : ∀ k h', Le p h0 h' → ivN iv k h' = pick items[k]?) (top : items.length ≤ 90000) (I : Nat → List PV → Prop) (I0 : I 0 [])
    (body : ∀ k v acc h1, items[k]? = some v → I k acc → Le p h0 h1 → ∃ st1, asgT tg v st = some st1 ∧ Ok (evIf rec ifs st1 h1) fun b h2 => Le p h1 h2 ∧ (b = false → I (k + 1) acc) ∧ (b = true → Ok (rec elt st1 h2) fun w h3 => Le p h2 h3 ∧ I (k + 1) (acc ++ [w])))
    (q : ∀ acc h', I items.length acc → acc.length ≤ items.length → Le p h0 h' → h'.get h0.n = some (.lst acc) → Q () h') {m : Nat} (hm : items.length < m) :
    Ok (lcL rec iv tg ifs elt st h0.n m 0 (h0.push (.lst []))) Q := by
  have ne : p ≠ some h0.n := fun z => absurd (hp _ z) (Nat.lt_irrefl _)
  refine ok_lcL (fun k h' => ∃ acc, I k acc ∧ k ≤ items.length ∧ acc.length ≤ k ∧ Le p h0 h' ∧ h'.get h0.n = some (.lst acc)) items.length (fun k h' ⟨acc, i1, i2, i3, i4, i5⟩ => ⟨i2, ?_⟩) m 0 _ hm ⟨[], I0, Nat.zero_le _, Nat.le_refl _, Le.push w0, get_new⟩
  have e := hiv k h' i4
  cases g : items[k]? with
  | none =>
    rw [g] at e
    have hk : items.length ≤ k := List.getElem?_eq_none_iff.mp g
    have hk : k = items.length := by omega
    subst hk
    exact .inl ⟨e, q acc h' i1 i3 i4 i5⟩
  | some v =>
    rw [g] at e
    have hk : k < items.length := (List.getElem?_eq_some_iff.mp g).1
    obtain ⟨st1, e1, b⟩ := body k v acc h' g i1 i4
    refine .inr ⟨v, st1, e, e1, b.mono fun b h2 ⟨l2, b1, b2⟩ => ⟨fun z => ⟨acc, b1 z, hk, by omega, i4.trans l2, l2.get _ _ ne i5⟩, fun z => (b2 z).mono fun w h3 ⟨l3, i6⟩ => ?_⟩⟩
    have g3 := l3.get _ _ ne (l2.get _ _ ne i5)
    have l4 := (i4.trans l2).trans l3
    refine ⟨acc, g3, by omega, acc ++ [w], i6, hk, by rw [List.length_append, List.length_singleton]; omega, Le.set l4 (Nat.le_refl _) g3, get_at_set l4.wf g3⟩
theorem iv_tup {xs : List PV} (k : Nat) (h : PH) : ivN (.tup xs) k h = pick xs[k]? := rfl
theorem iv_lst {p : Option Nat} {h0 : PH} {a : Nat} {xs : List PV} (e : h0.get a = some (.lst xs)) (ne : p ≠ some a) (k : Nat) (h : PH) (l : Le p h0 h) : ivN (.lst a) k h = pick xs[k]? := by
  unfold ivN
  dsimp only
  rw [seqL_lst (l.get _ _ ne e)]
def rng (lo : Int) (n : Nat) : List PV := (List.range n).map fun k => .int (lo + (k : Nat))
theorem rng_len {lo : Int} {n : Nat} : (rng lo n).length = n := by
  unfold rng
  rw [List.length_map, List.length_range]
theorem rng_at {lo : Int} {n k : Nat} {v : PV} (e : (rng lo n)[k]? = some v) : k < n ∧ v = .int (lo + (k : Nat)) := by
  unfold rng at e
  rw [List.getElem?_map] at e
  by_cases hk : k < n
  · rw [List.getElem?_range hk] at e
    cases e
    exact ⟨hk, rfl⟩
  · rw [List.getElem?_eq_none (by rw [List.length_range]; omega)] at e
    cases e
theorem iv_rng {lo : Int} {n : Nat} (k : Nat) (h : PH) : ivN (.rng lo n) k h = pick (rng lo n)[k]? := by
  unfold ivN rng
  dsimp only
  rw [List.getElem?_map]
  by_cases hk : k < n
  · rw [show Nat.blt k n = true from Nat.ble_eq_true_of_le hk, List.getElem?_range hk]
    rfl
  · rw [List.getElem?_eq_none (by rw [List.length_range]; omega)]
    have e : Nat.blt k n = false := by
      cases z : Nat.blt k n with
      | false => rfl
      | true => exact absurd (Nat.le_of_ble_eq_true z) hk
    rw [e]
    rfl
theorem truth_bl {b : Bool} {h : PH} : truth (.bl b) h = some b := rfl
theorem truth_lst {a : Nat} {xs : List PV} {h : PH} (e : h.get a = some (.lst xs)) : truth (.ref a) h = some (!xs.isEmpty) := by
  unfold truth
  dsimp only
  rw [e]
/-- iL that pass -/
theorem filter_step (c : Nat → Bool) (f : Nat → PV) (k : Nat) : ((List.range (k + 1)).filter c).map f = ((List.range k).filter c).map f ++ (if c k then [f k] else []) := by
  rw [List.range_succ, List.filter_append, List.map_append]
  cases e : c k <;> simp [e]
end Pyx

set_option Elab.async false
set_option linter.all false
set_option maxRecDepth 100000
set_option maxHeartbeats 4000000
/-! Pyx: the codes of functions that many laws reach (printed by shared.py). ix: where a function stands in a law. -/
namespace Pyx
open PySem L2
def cf_is_in (ix : Nat → Nat) : Def := { ar := 3, sz := 3, body := [(.ret (.and (.isi (.var 0) .int) (.and (.not (.isi (.var 0) .bool)) (.chain .le .le (.var 1) (.var 0) (.var 2)))))] }
def cf_need_line (ix : Nat → Nat) : Def := { ar := 1, sz := 7, body := [(.ite (.or (.not (.val (.isi (.var 0) .tuple))) (.or (.bl (.cmp .ne (.bi .len [(.var 0)]) (.val (.int 3)))) (.not (.val (.isi (.ix (.var 0) (.val (.int 2))) .bool))))) [.stuck] []), (.asg (.tup [(.nm 1), (.nm 2), (.nm 3)]) (.var 0)), (.asg (.nm 4) (.ite (.val (.var 3)) (.val (.int 3)) (.val (.int 1)))), (.ite (.or (.not (.val (.isi (.var 1) .tuple))) (.not (.bl (.chain .le .le (.var 4) (.bi .len [(.var 1)]) (.val (.int 40)))))) [.stuck] []), (.for (.tup [(.nm 5), (.nm 6)]) (.enum (.var 1)) [(.ite (.not (.val (.call (ix 0) [(.var 6), (.val (.int 0)), (.val (.int 9))]))) [.stuck] [])]), (.ite (.not (.val (.call (ix 2) [(.bi .len [(.var 1)]), (.var 2)]))) [.stuck] [])] }
def cf_is_cells (ix : Nat → Nat) : Def := { ar := 2, sz := 3, body := [(.ite (.or (.not (.val (.isi (.var 1) .tuple))) (.bl (.cmp .ne (.lc (.over (.var 1)) (.nm 2) [2] (some (.not (.val (.call (ix 0) [(.var 2), (.val (.int 0)), (.bin .sub (.var 0) (.val (.int 1)))])))) (.var 2)) (.lst [])))) [(.ret (.val (.bl false)))] []), (.ret (.cmp .eq (.bi .list [(.var 1)]) (.bi .sorted [(.bi .set [(.var 1)])])))] }
def cf_need_cell (ix : Nat → Nat) : Def := { ar := 2, sz := 2, body := [(.ite (.not (.val (.call (ix 0) [(.var 1), (.val (.int 0)), (.bin .sub (.bi .len [(.ix (.var 0) (.val (.int 0)))]) (.val (.int 1)))]))) [.stuck] [])] }
def cf_held_in (ix : Nat → Nat) : Def := { ar := 1, sz := 5, body := [(.asg (.tup [(.nm 1), (.nm 2), (.nm 3)]) (.var 0)), (.asg (.nm 4) (.ite (.val (.var 3)) (.lst []) (.lst [(.val (.int 0)), (.bin .sub (.bi .len [(.var 1)]) (.val (.int 1)))]))), (.ret (.bi .sorted [(.bi .set [(.bin .add (.bi .list [(.var 2)]) (.var 4))])]))] }
def cf_flanks (ix : Nat → Nat) : Def := { ar := 2, sz := 2, body := [(.ret (.tup [(.bin .mod (.bin .sub (.var 1) (.val (.int 1))) (.var 0)), (.bin .mod (.bin .add (.var 1) (.val (.int 1))) (.var 0))]))] }
def cf_is_flanked (ix : Nat → Nat) : Def := { ar := 2, sz := 4, body := [(.asg (.tup [(.nm 2), (.nm 3)]) (.call (ix 5) [(.bi .len [(.var 0)]), (.var 1)])), (.ret (.chain .eq .ne (.ix (.var 0) (.var 2)) (.ix (.var 0) (.var 3)) (.ix (.var 0) (.var 1))))] }
def cf_ready_in (ix : Nat → Nat) : Def := { ar := 1, sz := 3, body := [(.asg (.nm 1) (.call (ix 4) [(.var 0)])), (.ret (.lc (.rng1 (.bi .len [(.ix (.var 0) (.val (.int 0)))])) (.nm 2) [2] (some (.and (.bl (.isin true (.var 2) (.var 1))) (.val (.call (ix 6) [(.ix (.var 0) (.val (.int 0))), (.var 2)])))) (.var 2)))] }
def cf_ready_cells (ix : Nat → Nat) : Def := { ar := 1, sz := 1, body := [(.expr (.call (ix 1) [(.var 0)])), (.ret (.bi .tuple [(.call (ix 7) [(.var 0)])]))] }
def cf_with_turned (ix : Nat → Nat) : Def := { ar := 2, sz := 4, body := [(.asg (.nm 2) (.bi .list [(.var 0)])), (.for (.nm 3) (.over (.var 1)) [(.setix (.var 2) (.var 3) (.ix (.var 0) (.bin .sub (.var 3) (.val (.int 1)))))]), (.ret (.bi .tuple [(.var 2)]))] }
def cf_turned (ix : Nat → Nat) : Def := { ar := 2, sz := 2, body := [(.expr (.call (ix 1) [(.var 0)])), (.expr (.call (ix 3) [(.var 0), (.var 1)])), (.ite (.bl (.isin true (.var 1) (.call (ix 7) [(.var 0)]))) [.stuck] []), (.ret (.tup [(.call (ix 9) [(.ix (.var 0) (.val (.int 0))), (.lst [(.var 1)])]), (.ix (.var 0) (.val (.int 1))), (.ix (.var 0) (.val (.int 2)))]))] }
def cf_swings_in (ix : Nat → Nat) : Def := { ar := 1, sz := 1, body := [(.ret (.and (.ix (.var 0) (.val (.int 2))) (.cmp .eq (.bi .len [(.call (ix 7) [(.var 0)])]) (.bi .len [(.ix (.var 0) (.val (.int 0)))]))))] }
def cf_swings (ix : Nat → Nat) : Def := { ar := 1, sz := 1, body := [(.expr (.call (ix 1) [(.var 0)])), (.ret (.call (ix 11) [(.var 0)]))] }
def cf_stretches_in (ix : Nat → Nat) : Def := { ar := 1, sz := 6, body := [(.par 1 2 (.call (ix 7) [(.var 0)]) (.bi .len [(.ix (.var 0) (.val (.int 0)))])), (.asg (.nm 3) (.lst [])), (.for (.nm 4) (.over (.var 1)) [(.ite (.bl (.isin true (.bin .mod (.bin .sub (.var 4) (.val (.int 1))) (.var 2)) (.var 1))) [(.asg (.nm 5) (.lst [(.bin .mod (.bin .sub (.var 4) (.val (.int 1))) (.var 2)), (.var 4)])), (.while (.bl (.isin false (.ix (.var 5) (.neg (.val (.int 1)))) (.var 1))) [(.expr (.mt .append (.var 5) [(.bin .mod (.bin .add (.ix (.var 5) (.neg (.val (.int 1)))) (.val (.int 1))) (.var 2))]))]), (.expr (.mt .append (.var 3) [(.bi .tuple [(.var 5)])]))] [])]), (.ret (.bi .sorted [(.var 3)]))] }
def cf_stretches (ix : Nat → Nat) : Def := { ar := 1, sz := 1, body := [(.expr (.call (ix 1) [(.var 0)])), (.ret (.ite (.val (.call (ix 11) [(.var 0)])) (.tup []) (.bi .tuple [(.call (ix 13) [(.var 0)])])))] }
def cf_need_resting (ix : Nat → Nat) : Def := { ar := 1, sz := 1, body := [(.expr (.call (ix 1) [(.var 0)])), (.ite (.val (.call (ix 11) [(.var 0)])) [.stuck] [])] }
def cf_depths_in (ix : Nat → Nat) : Def := { ar := 1, sz := 4, body := [(.asg (.nm 1) (.bin .mul (.lst [(.val (.int 0))]) (.bi .len [(.ix (.var 0) (.val (.int 0)))]))), (.for (.nm 2) (.over (.call (ix 13) [(.var 0)])) [(.for (.nm 3) (.rng2 (.val (.int 1)) (.bin .sub (.bi .len [(.var 2)]) (.val (.int 1)))) [(.setix (.var 1) (.ix (.var 2) (.var 3)) (.bi .min [(.var 3), (.bin .sub (.bin .sub (.bi .len [(.var 2)]) (.val (.int 1))) (.var 3))]))])]), (.ret (.var 1))] }
def cf_depths (ix : Nat → Nat) : Def := { ar := 1, sz := 1, body := [(.expr (.call (ix 15) [(.var 0)])), (.ret (.bi .tuple [(.call (ix 16) [(.var 0)])]))] }
def cf_need_time (ix : Nat → Nat) : Def := { ar := 1, sz := 1, body := [(.ite (.not (.val (.call (ix 0) [(.var 0), (.val (.int 0)), (.val (.int 1000000))]))) [.stuck] [])] }
def cf_with_cells (ix : Nat → Nat) : Def := { ar := 2, sz := 2, body := [(.ret (.tup [(.bi .tuple [(.var 1)]), (.ix (.var 0) (.val (.int 1))), (.ix (.var 0) (.val (.int 2)))]))] }
def cf_step (ix : Nat → Nat) : Def := { ar := 1, sz := 1, body := [(.expr (.call (ix 1) [(.var 0)])), (.ret (.call (ix 19) [(.var 0), (.call (ix 9) [(.ix (.var 0) (.val (.int 0))), (.call (ix 7) [(.var 0)])])]))] }
def cf_turns_in (ix : Nat → Nat) : Def := { ar := 2, sz := 3, body := [(.ite (.val (.call (ix 11) [(.var 0)])) [(.ret (.bin .mul (.lst [(.var 1)]) (.bi .len [(.ix (.var 0) (.val (.int 0)))])))] []), (.ret (.lc (.over (.call (ix 16) [(.var 0)])) (.nm 2) [2] none (.bi .min [(.var 1), (.var 2)])))] }
def cf_cells_after (ix : Nat → Nat) : Def := { ar := 2, sz := 5, body := [(.asg (.nm 2) (.ix (.var 0) (.val (.int 0)))), (.ret (.lc (.enum (.call (ix 21) [(.var 0), (.var 1)])) (.tup [(.nm 3), (.nm 4)]) [3, 4] none (.ite (.bl (.cmp .eq (.bin .mod (.var 4) (.val (.int 2))) (.val (.int 1)))) (.ix (.var 2) (.bin .sub (.var 3) (.val (.int 1)))) (.ix (.var 2) (.var 3)))))] }
def cf_after (ix : Nat → Nat) : Def := { ar := 2, sz := 2, body := [(.expr (.call (ix 1) [(.var 0)])), (.expr (.call (ix 18) [(.var 1)])), (.ret (.call (ix 19) [(.var 0), (.call (ix 22) [(.var 0), (.var 1)])]))] }
def cf_rest_cells (ix : Nat → Nat) : Def := { ar := 1, sz := 1, body := [(.ret (.call (ix 22) [(.var 0), (.bi .len [(.ix (.var 0) (.val (.int 0)))])]))] }
def cf_rest (ix : Nat → Nat) : Def := { ar := 1, sz := 1, body := [(.expr (.call (ix 15) [(.var 0)])), (.ret (.call (ix 19) [(.var 0), (.call (ix 24) [(.var 0)])]))] }
def cf_rest_time (ix : Nat → Nat) : Def := { ar := 1, sz := 1, body := [(.expr (.call (ix 15) [(.var 0)])), (.ret (.bi .max [(.call (ix 16) [(.var 0)])]))] }
def cf_turn_counts (ix : Nat → Nat) : Def := { ar := 1, sz := 1, body := [(.expr (.call (ix 15) [(.var 0)])), (.ret (.bi .tuple [(.call (ix 16) [(.var 0)])]))] }
def cf_turns_by (ix : Nat → Nat) : Def := { ar := 2, sz := 2, body := [(.expr (.call (ix 1) [(.var 0)])), (.expr (.call (ix 18) [(.var 1)])), (.ret (.bi .tuple [(.call (ix 21) [(.var 0), (.var 1)])]))] }
def cf_changes (ix : Nat → Nat) : Def := { ar := 1, sz := 4, body := [(.expr (.call (ix 15) [(.var 0)])), (.asg (.nm 1) (.call (ix 16) [(.var 0)])), (.ret (.bi .tuple [(.lc (.rng2 (.val (.int 1)) (.bin .add (.bi .max [(.var 1)]) (.val (.int 1)))) (.nm 2) [2] none (.bi .len [(.lc (.over (.var 1)) (.nm 3) [3] (some (.bl (.cmp .ge (.var 3) (.var 2)))) (.var 3))]))]))] }
def cf_last_turned (ix : Nat → Nat) : Def := { ar := 1, sz := 3, body := [(.expr (.call (ix 15) [(.var 0)])), (.asg (.nm 1) (.call (ix 16) [(.var 0)])), (.ret (.bi .tuple [(.lc (.rng1 (.bi .len [(.var 1)])) (.nm 2) [2] (some (.bl (.chain .eq .gt (.ix (.var 1) (.var 2)) (.bi .max [(.var 1)]) (.val (.int 0))))) (.var 2))]))] }
def cf_colour_at (ix : Nat → Nat) : Def := { ar := 3, sz := 3, body := [(.expr (.call (ix 1) [(.var 0)])), (.expr (.call (ix 3) [(.var 0), (.var 1)])), (.expr (.call (ix 18) [(.var 2)])), (.ret (.ix (.call (ix 22) [(.var 0), (.var 2)]) (.var 1)))] }
def cf_masses_in (ix : Nat → Nat) : Def := { ar := 1, sz := 2, body := [(.ret (.lc (.over (.bi .sorted [(.bi .set [(.var 0)])])) (.nm 1) [1] none (.tup [(.var 1), (.mt .count (.bi .list [(.var 0)]) [(.var 1)])])))] }
def cf_masses (ix : Nat → Nat) : Def := { ar := 1, sz := 1, body := [(.expr (.call (ix 1) [(.var 0)])), (.ret (.bi .tuple [(.call (ix 32) [(.ix (.var 0) (.val (.int 0)))])]))] }
def cf_gains (ix : Nat → Nat) : Def := { ar := 1, sz := 4, body := [(.expr (.call (ix 15) [(.var 0)])), (.asg (.nm 1) (.call (ix 24) [(.var 0)])), (.ret (.bi .tuple [(.lc (.over (.call (ix 32) [(.ix (.var 0) (.val (.int 0)))])) (.tup [(.nm 2), (.nm 3)]) [2, 3] none (.tup [(.var 2), (.bin .sub (.mt .count (.var 1) [(.var 2)]) (.var 3))]))]))] }
def cf_borders_in (ix : Nat → Nat) : Def := { ar := 2, sz := 4, body := [(.asg (.nm 2) (.ite (.val (.var 1)) (.val (.int 0)) (.val (.int 1)))), (.ret (.bi .len [(.lc (.rng2 (.var 2) (.bi .len [(.var 0)])) (.nm 3) [3] (some (.bl (.cmp .ne (.ix (.var 0) (.var 3)) (.ix (.var 0) (.bin .sub (.var 3) (.val (.int 1))))))) (.var 3))]))] }
def cf_borders (ix : Nat → Nat) : Def := { ar := 1, sz := 1, body := [(.expr (.call (ix 1) [(.var 0)])), (.ret (.call (ix 35) [(.ix (.var 0) (.val (.int 0))), (.ix (.var 0) (.val (.int 2)))]))] }
def cf_lost_borders (ix : Nat → Nat) : Def := { ar := 1, sz := 1, body := [(.expr (.call (ix 15) [(.var 0)])), (.ret (.bin .sub (.call (ix 35) [(.ix (.var 0) (.val (.int 0))), (.ix (.var 0) (.val (.int 2)))]) (.call (ix 35) [(.call (ix 24) [(.var 0)]), (.ix (.var 0) (.val (.int 2)))])))] }
def cf__law_taken (ix : Nat → Nat) : Def := { ar := 2, sz := 4, body := [(.ite (.bl (.cmp .gt (.ix (.var 0) (.val (.int 3))) (.val (.int 0)))) [(.asg (.nm 2) (.bin .mod (.bi .int [(.ix (.var 0) (.val (.int 3)))]) (.var 1))), (.setix (.var 0) (.val (.int 3)) (.bin .fdiv (.ix (.var 0) (.val (.int 3))) (.var 1))), (.ret (.var 2))] []), (.setix (.var 0) (.val (.int 1)) (.bin .add (.ix (.var 0) (.val (.int 1))) (.val (.int 1)))), (.ite (.bl (.cmp .gt (.ix (.var 0) (.val (.int 1))) (.bi .len [(.ix (.var 0) (.val (.int 0)))]))) [(.setix (.var 0) (.val (.int 2)) (.bin .mod (.bi .int [(.bin .add (.bin .mul (.ix (.var 0) (.val (.int 2))) (.val (.int 48271))) (.val (.int 11)))]) (.val (.int 2147483647)))), (.ret (.bin .mod (.bi .int [(.bin .fdiv (.ix (.var 0) (.val (.int 2))) (.val (.int 7)))]) (.var 1)))] []), (.asg (.nm 3) (.ix (.ix (.var 0) (.val (.int 0))) (.bin .sub (.ix (.var 0) (.val (.int 1))) (.val (.int 1))))), (.setix (.var 0) (.val (.int 2)) (.bin .mod (.bi .int [(.bin .add (.bin .add (.bin .mul (.ix (.var 0) (.val (.int 2))) (.val (.int 48271))) (.var 3)) (.val (.int 11)))]) (.val (.int 2147483647)))), (.ite (.bl (.cmp .ge (.var 3) (.bin .pow (.val (.int 10)) (.val (.int 18))))) [(.setix (.var 0) (.val (.int 3)) (.bin .fdiv (.var 3) (.var 1)))] []), (.ret (.bin .mod (.bi .int [(.var 3)]) (.var 1)))] }
def cf__law_pick (ix : Nat → Nat) : Def := { ar := 2, sz := 2, body := [(.ret (.ix (.var 1) (.call (ix 38) [(.var 0), (.bi .len [(.var 1)])])))] }
def cf__law_line (ix : Nat → Nat) : Def := { ar := 3, sz := 11, body := [(.asg (.nm 3) (.cmp .eq (.call (ix 38) [(.var 0), (.val (.int 2))]) (.val (.int 0)))), (.asg (.nm 4) (.ite (.val (.var 3)) (.bin .add (.val (.int 3)) (.call (ix 38) [(.var 0), (.bin .sub (.var 1) (.val (.int 2)))])) (.bin .add (.val (.int 1)) (.call (ix 38) [(.var 0), (.var 1)])))), (.par 5 6 (.call (ix 38) [(.var 0), (.val (.int 4))]) (.lst [(.call (ix 38) [(.var 0), (.var 2)]), (.call (ix 38) [(.var 0), (.var 2)])])), (.for (.nm 7) (.rng2 (.val (.int 2)) (.var 4)) [(.asg (.nm 8) (.call (ix 38) [(.var 0), (.var 2)])), (.expr (.mt .append (.var 6) [(.ite (.and (.bl (.cmp .gt (.var 5) (.val (.int 0)))) (.bl (.cmp .lt (.call (ix 38) [(.var 0), (.val (.int 5))]) (.bin .add (.var 5) (.val (.int 1)))))) (.ix (.var 6) (.bin .sub (.var 7) (.val (.int 2)))) (.var 8))]))]), (.asg (.nm 9) (.call (ix 39) [(.var 0), (.lst [(.val (.int 3)), (.val (.int 6)), (.val (.int 40))])])), (.asg (.nm 10) (.bi .tuple [(.lc (.rng1 (.var 4)) (.nm 7) [7] (some (.bl (.cmp .eq (.call (ix 38) [(.var 0), (.var 9)]) (.val (.int 0))))) (.var 7))])), (.ret (.tup [(.bi .tuple [(.sl (.var 6) none (some (.var 4)))]), (.var 10), (.var 3)]))] }
def cf__law_held (ix : Nat → Nat) : Def := { ar := 1, sz := 3, body := [(.asg (.nm 1) (.bi .len [(.ix (.var 0) (.val (.int 0)))])), (.ret (.lc (.rng1 (.var 1)) (.nm 2) [2] (some (.or (.bl (.isin false (.var 2) (.ix (.var 0) (.val (.int 1))))) (.and (.not (.val (.ix (.var 0) (.val (.int 2))))) (.bl (.isin false (.var 2) (.lst [(.val (.int 0)), (.bin .sub (.var 1) (.val (.int 1)))])))))) (.var 2)))] }
def cf__law_ready (ix : Nat → Nat) : Def := { ar := 1, sz := 8, body := [(.asg (.tup [(.nm 1), (.nm 2), (.nm 3), (.nm 4)]) (.tup [(.ix (.var 0) (.val (.int 0))), (.bi .len [(.ix (.var 0) (.val (.int 0)))]), (.call (ix 41) [(.var 0)]), (.lst [])])), (.for (.nm 5) (.rng1 (.var 2)) [(.par 6 7 (.ix (.var 1) (.bin .sub (.var 5) (.val (.int 1)))) (.ix (.var 1) (.bin .sub (.bin .add (.var 5) (.val (.int 1))) (.var 2)))), (.ite (.and (.bl (.isin true (.var 5) (.var 3))) (.and (.bl (.cmp .eq (.var 6) (.var 7))) (.bl (.cmp .ne (.var 6) (.ix (.var 1) (.var 5)))))) [(.expr (.mt .append (.var 4) [(.var 5)]))] [])]), (.ret (.var 4))] }
def cf__law_step (ix : Nat → Nat) : Def := { ar := 1, sz := 3, body := [(.asg (.nm 1) (.call (ix 42) [(.var 0)])), (.ret (.tup [(.bi .tuple [(.lc (.rng1 (.bi .len [(.ix (.var 0) (.val (.int 0)))])) (.nm 2) [2] none (.ite (.bl (.isin false (.var 2) (.var 1))) (.ix (.ix (.var 0) (.val (.int 0))) (.bin .sub (.var 2) (.val (.int 1)))) (.ix (.ix (.var 0) (.val (.int 0))) (.var 2))))]), (.ix (.var 0) (.val (.int 1))), (.ix (.var 0) (.val (.int 2)))]))] }
def cf__law_run (ix : Nat → Nat) : Def := { ar := 1, sz := 3, body := [(.asg (.nm 1) (.lst [(.var 0)])), (.for (.nm 2) (.rng1 (.bin .add (.bi .len [(.ix (.var 0) (.val (.int 0)))]) (.val (.int 2)))) [(.ite (.bl (.cmp .eq (.call (ix 42) [(.ix (.var 1) (.neg (.val (.int 1))))]) (.lst []))) [(.ret (.var 1))] []), (.expr (.mt .append (.var 1) [(.call (ix 43) [(.ix (.var 1) (.neg (.val (.int 1))))])]))]), (.ret (.val .non))] }
def cf__law_alike (ix : Nat → Nat) : Def := { ar := 2, sz := 3, body := [(.ite (.val (.isis (.var 1) .tuple .list)) [(.ite (.or (.not (.val (.isis (.var 0) .tuple .list))) (.bl (.cmp .ne (.isi (.var 0) .list) (.isi (.var 1) .list)))) [(.ret (.val (.bl false)))] []), (.ite (.bl (.cmp .ne (.bi .len [(.var 0)]) (.bi .len [(.var 1)]))) [(.ret (.val (.bl false)))] []), (.ret (.cmp .eq (.lc (.rng1 (.bi .len [(.var 1)])) (.nm 2) [2] (some (.not (.val (.call (ix 45) [(.ix (.var 0) (.var 2)), (.ix (.var 1) (.var 2))])))) (.var 2)) (.lst [])))] []), (.ite (.or (.bl (.cmp .is (.var 1) (.val .non))) (.val (.isi (.var 1) .str))) [(.ret (.and (.cmp .eq (.var 0) (.var 1)) (.cmp .eq (.isi (.var 0) .str) (.isi (.var 1) .str))))] []), (.ret (.and (.isi (.var 0) .int) (.and (.cmp .eq (.isi (.var 0) .bool) (.isi (.var 1) .bool)) (.cmp .eq (.var 0) (.var 1)))))] }
def cf_is_colours (ix : Nat → Nat) : Def := { ar := 2, sz := 3, body := [(.ite (.or (.not (.val (.isi (.var 1) .tuple))) (.bl (.cmp .ne (.bi .len [(.var 1)]) (.bi .len [(.ix (.var 0) (.val (.int 0)))])))) [(.ret (.val (.bl false)))] []), (.ret (.cmp .eq (.lc (.over (.var 1)) (.nm 2) [2] (some (.not (.val (.call (ix 0) [(.var 2), (.val (.int 0)), (.val (.int 9))])))) (.var 2)) (.lst [])))] }
def cf_need_colours_of (ix : Nat → Nat) : Def := { ar := 2, sz := 2, body := [(.expr (.call (ix 1) [(.var 0)])), (.ite (.not (.val (.call (ix 46) [(.var 0), (.var 1)]))) [.stuck] [])] }
def cf_insides (ix : Nat → Nat) : Def := { ar := 1, sz := 2, body := [(.ret (.lc (.over (.call (ix 13) [(.var 0)])) (.nm 1) [1] none (.bi .list [(.sl (.var 1) (some (.val (.int 1))) (some (.neg (.val (.int 1)))))])))] }
def cf_turned_cells (ix : Nat → Nat) : Def := { ar := 2, sz := 6, body := [(.par3 2 3 4 (.call (ix 7) [(.var 0)]) (.bi .len [(.ix (.var 0) (.val (.int 0)))]) (.lst [])), (.for (.nm 5) (.rng1 (.var 3)) [(.ite (.bl (.cmp .ne (.ix (.var 1) (.var 5)) (.ix (.ix (.var 0) (.val (.int 0))) (.var 5)))) [(.ite (.or (.bl (.isin true (.var 5) (.var 2))) (.bl (.cmp .ne (.ix (.var 1) (.var 5)) (.ix (.ix (.var 0) (.val (.int 0))) (.bin .sub (.var 5) (.val (.int 1))))))) [(.ret (.val .non))] []), (.expr (.mt .append (.var 4) [(.var 5)]))] [])]), (.for (.nm 5) (.over (.var 4)) [(.ite (.bl (.isin false (.ix (.call (ix 5) [(.var 3), (.var 5)]) (.val (.int 0))) (.var 4))) [(.ret (.val .non))] [])]), (.ret (.var 4))] }
def cf_is_full (ix : Nat → Nat) : Def := { ar := 2, sz := 6, body := [(.asg (.nm 2) (.bi .len [(.ix (.var 0) (.val (.int 0)))])), (.for (.nm 3) (.over (.call (ix 7) [(.var 0)])) [(.asg (.tup [(.nm 4), (.nm 5)]) (.call (ix 5) [(.var 2), (.var 3)])), (.ite (.and (.bl (.isin true (.var 3) (.var 1))) (.and (.bl (.isin true (.var 4) (.var 1))) (.bl (.isin true (.var 5) (.var 1))))) [(.ret (.val (.bl false)))] [])]), (.ret (.val (.bl true)))] }
def cf_can_come (ix : Nat → Nat) : Def := { ar := 2, sz := 2, body := [(.expr (.call (ix 47) [(.var 0), (.var 1)])), (.ret (.cmp .nis (.call (ix 49) [(.var 0), (.var 1)]) (.val .non)))] }
def cf_is_end_in (ix : Nat → Nat) : Def := { ar := 2, sz := 3, body := [(.asg (.nm 2) (.call (ix 49) [(.var 0), (.var 1)])), (.ret (.and (.cmp .nis (.var 2) (.val .non)) (.call (ix 50) [(.var 0), (.var 2)])))] }
def cf_is_end (ix : Nat → Nat) : Def := { ar := 2, sz := 2, body := [(.expr (.call (ix 47) [(.var 0), (.var 1)])), (.ret (.call (ix 52) [(.var 0), (.var 1)]))] }
def cf_added (ix : Nat → Nat) : Def := { ar := 2, sz := 7, body := [(.asg (.nm 2) (.bi .max [(.bi .len [(.var 0)]), (.bi .len [(.var 1)])])), (.par 3 4 (.bin .add (.var 0) (.bin .mul (.lst [(.val (.int 0))]) (.bin .sub (.var 2) (.bi .len [(.var 0)])))) (.bin .add (.var 1) (.bin .mul (.lst [(.val (.int 0))]) (.bin .sub (.var 2) (.bi .len [(.var 1)]))))), (.ret (.lc (.zip (.var 3) (.var 4)) (.tup [(.nm 5), (.nm 6)]) [5, 6] none (.bin .add (.var 5) (.var 6))))] }
def cf_multiplied (ix : Nat → Nat) : Def := { ar := 2, sz := 7, body := [(.asg (.nm 2) (.bin .mul (.lst [(.val (.int 0))]) (.bin .sub (.bin .add (.bi .len [(.var 0)]) (.bi .len [(.var 1)])) (.val (.int 1))))), (.for (.tup [(.nm 3), (.nm 4)]) (.enum (.var 0)) [(.for (.tup [(.nm 5), (.nm 6)]) (.enum (.var 1)) [(.augix (.var 2) (.bin .add (.var 3) (.var 5)) .add (.bin .mul (.var 4) (.var 6)))])]), (.ret (.var 2))] }
def cf_path_sets (ix : Nat → Nat) : Def := { ar := 1, sz := 2, body := [(.asg (.nm 1) (.lst [(.lst [(.val (.int 1))]), (.lst [(.val (.int 1)), (.val (.int 1))])])), (.while (.bl (.cmp .le (.bi .len [(.var 1)]) (.var 0))) [(.expr (.mt .append (.var 1) [(.call (ix 54) [(.ix (.var 1) (.neg (.val (.int 1)))), (.bin .add (.lst [(.val (.int 0))]) (.ix (.var 1) (.neg (.val (.int 2)))))])]))]), (.ret (.ix (.var 1) (.var 0)))] }
def cf_path_ends (ix : Nat → Nat) : Def := { ar := 1, sz := 2, body := [(.asg (.nm 1) (.lst [(.lst [(.val (.int 1))]), (.lst [(.val (.int 0)), (.val (.int 1))]), (.lst [(.val (.int 0)), (.val (.int 2))])])), (.while (.bl (.cmp .le (.bi .len [(.var 1)]) (.var 0))) [(.expr (.mt .append (.var 1) [(.call (ix 54) [(.bin .add (.lst [(.val (.int 0))]) (.ix (.var 1) (.neg (.val (.int 2))))), (.bin .add (.lst [(.val (.int 0))]) (.ix (.var 1) (.neg (.val (.int 3)))))])]))]), (.ret (.ix (.var 1) (.var 0)))] }
def cf_ring_sets (ix : Nat → Nat) : Def := { ar := 1, sz := 1, body := [(.ret (.call (ix 54) [(.call (ix 56) [(.bin .sub (.var 0) (.val (.int 1)))]), (.bin .add (.lst [(.val (.int 0))]) (.call (ix 56) [(.bin .sub (.var 0) (.val (.int 3)))]))]))] }
def cf_ring_ends (ix : Nat → Nat) : Def := { ar := 1, sz := 3, body := [(.asg (.nm 1) (.disp [(.val (.int 3)), (.val (.int 4)), (.val (.int 5))] [(.lst [(.val (.int 0)), (.val (.int 3))]), (.lst [(.val (.int 0)), (.val (.int 0)), (.val (.int 2))]), (.lst [(.val (.int 0)), (.val (.int 0)), (.val (.int 5))])])), (.for (.nm 2) (.rng2 (.val (.int 6)) (.bin .add (.var 0) (.val (.int 1)))) [(.setix (.var 1) (.var 2) (.call (ix 54) [(.bin .add (.lst [(.val (.int 0))]) (.ix (.var 1) (.bin .sub (.var 2) (.val (.int 2))))), (.bin .add (.lst [(.val (.int 0))]) (.ix (.var 1) (.bin .sub (.var 2) (.val (.int 3)))))]))]), (.ret (.ix (.var 1) (.var 0)))] }
def cf_by_turns (ix : Nat → Nat) : Def := { ar := 3, sz := 5, body := [(.ite (.val (.call (ix 11) [(.var 0)])) [(.ret (.callv 2 [(.bi .len [(.ix (.var 0) (.val (.int 0)))])]))] []), (.asg (.nm 3) (.lst [(.val (.int 1))])), (.for (.nm 4) (.over (.call (ix 48) [(.var 0)])) [(.asg (.nm 3) (.call (ix 55) [(.var 3), (.callv 1 [(.bi .len [(.var 4)])])]))]), (.ret (.var 3))] }
def cf_trimmed (ix : Nat → Nat) : Def := { ar := 1, sz := 2, body := [(.asg (.nm 1) (.bi .list [(.var 0)])), (.while (.bl (.cmp .eq (.ix (.var 1) (.neg (.val (.int 1)))) (.val (.int 0)))) [(.expr (.mt .pop (.var 1) []))]), (.ret (.bi .tuple [(.var 1)]))] }
def cf_comes_by_turns (ix : Nat → Nat) : Def := { ar := 1, sz := 1, body := [(.expr (.call (ix 1) [(.var 0)])), (.ret (.call (ix 61) [(.call (ix 60) [(.var 0), (.val (.fn (ix 56))), (.val (.fn (ix 58)))])]))] }
def cf_ends_by_turns (ix : Nat → Nat) : Def := { ar := 1, sz := 1, body := [(.expr (.call (ix 1) [(.var 0)])), (.ret (.call (ix 61) [(.call (ix 60) [(.var 0), (.val (.fn (ix 57))), (.val (.fn (ix 59)))])]))] }
def cf_come_count (ix : Nat → Nat) : Def := { ar := 1, sz := 1, body := [(.expr (.call (ix 1) [(.var 0)])), (.ret (.bi .sum [(.call (ix 60) [(.var 0), (.val (.fn (ix 56))), (.val (.fn (ix 58)))])]))] }
def cf_end_count (ix : Nat → Nat) : Def := { ar := 1, sz := 1, body := [(.expr (.call (ix 1) [(.var 0)])), (.ret (.bi .sum [(.call (ix 60) [(.var 0), (.val (.fn (ix 57))), (.val (.fn (ix 59)))])]))] }
def cf_all_ends (ix : Nat → Nat) : Def := { ar := 1, sz := 6, body := [(.asg (.tup [(.nm 1), (.nm 2)]) (.tup [(.lst [(.lst [])]), (.call (ix 7) [(.var 0)])])), (.for (.nm 3) (.over (.var 2)) [(.asg (.nm 4) (.lst [])), (.for (.nm 5) (.over (.var 1)) [(.expr (.mt .append (.var 4) [(.var 5)])), (.ite (.and (.bl (.isin true (.ix (.call (ix 5) [(.bi .len [(.ix (.var 0) (.val (.int 0)))]), (.var 3)]) (.val (.int 0))) (.var 5))) (.bl (.isin true (.ix (.call (ix 5) [(.bi .len [(.ix (.var 0) (.val (.int 0)))]), (.var 3)]) (.val (.int 1))) (.var 5)))) [(.expr (.mt .append (.var 4) [(.bin .add (.var 5) (.lst [(.var 3)]))]))] [])]), (.asg (.nm 1) (.lc (.over (.var 4)) (.nm 5) [5] (some (.val (.call (ix 67) [(.var 0), (.var 2), (.var 5), (.var 3)]))) (.var 5)))]), (.ret (.bi .sorted [(.lc (.over (.var 1)) (.nm 5) [5] (some (.val (.call (ix 50) [(.var 0), (.var 5)]))) (.call (ix 9) [(.ix (.var 0) (.val (.int 0))), (.var 5)]))]))] }
def cf_is_hopeful (ix : Nat → Nat) : Def := { ar := 4, sz := 8, body := [(.asg (.nm 4) (.bi .len [(.ix (.var 0) (.val (.int 0)))])), (.for (.nm 5) (.over (.var 1)) [(.asg (.tup [(.nm 6), (.nm 7)]) (.call (ix 5) [(.var 4), (.var 5)])), (.ite (.and (.bl (.cmp .lt (.var 5) (.var 3))) (.and (.bl (.cmp .le (.var 7) (.var 3))) (.and (.bl (.isin true (.var 5) (.var 2))) (.and (.bl (.isin true (.var 6) (.var 2))) (.and (.bl (.isin true (.var 7) (.var 2))) (.bl (.cmp .lt (.var 6) (.var 5)))))))) [(.ret (.val (.bl false)))] [])]), (.ret (.val (.bl true)))] }
def cf_ends (ix : Nat → Nat) : Def := { ar := 1, sz := 1, body := [(.expr (.call (ix 1) [(.var 0)])), (.ite (.bl (.cmp .gt (.bi .sum [(.call (ix 60) [(.var 0), (.val (.fn (ix 57))), (.val (.fn (ix 59)))])]) (.val (.int 2000)))) [.stuck] []), (.ret (.call (ix 66) [(.var 0)]))] }
def cf_fewest_turns (ix : Nat → Nat) : Def := { ar := 1, sz := 3, body := [(.expr (.call (ix 1) [(.var 0)])), (.asg (.nm 1) (.call (ix 60) [(.var 0), (.val (.fn (ix 57))), (.val (.fn (ix 59)))])), (.ret (.ix (.lc (.rng1 (.bi .len [(.var 1)])) (.nm 2) [2] (some (.bl (.cmp .gt (.ix (.var 1) (.var 2)) (.val (.int 0))))) (.var 2)) (.val (.int 0))))] }
def cf_most_turns (ix : Nat → Nat) : Def := { ar := 1, sz := 1, body := [(.expr (.call (ix 1) [(.var 0)])), (.ret (.bin .sub (.bi .len [(.call (ix 61) [(.call (ix 60) [(.var 0), (.val (.fn (ix 57))), (.val (.fn (ix 59)))])])]) (.val (.int 1))))] }
def cf_factorial (ix : Nat → Nat) : Def := { ar := 1, sz := 3, body := [(.asg (.nm 1) (.val (.int 1))), (.for (.nm 2) (.rng2 (.val (.int 2)) (.bin .add (.var 0) (.val (.int 1)))) [(.augn 1 .mul (.var 2))]), (.ret (.var 1))] }
def cf_ways_to (ix : Nat → Nat) : Def := { ar := 2, sz := 3, body := [(.expr (.call (ix 47) [(.var 0), (.var 1)])), (.asg (.nm 2) (.call (ix 49) [(.var 0), (.var 1)])), (.ret (.ite (.bl (.cmp .is (.var 2) (.val .non))) (.val (.int 0)) (.call (ix 71) [(.bi .len [(.var 2)])])))] }
def cf_ways_in_all (ix : Nat → Nat) : Def := { ar := 1, sz := 3, body := [(.expr (.call (ix 1) [(.var 0)])), (.ret (.bi .sum [(.lc (.enum (.call (ix 60) [(.var 0), (.val (.fn (ix 57))), (.val (.fn (ix 59)))])) (.tup [(.nm 1), (.nm 2)]) [1, 2] none (.bin .mul (.call (ix 71) [(.var 1)]) (.var 2)))]))] }
def cf_end_with (ix : Nat → Nat) : Def := { ar := 2, sz := 4, body := [(.expr (.call (ix 1) [(.var 0)])), (.ite (.not (.val (.call (ix 0) [(.var 1), (.val (.int 0)), (.val (.int 40))]))) [.stuck] []), (.ite (.bl (.cmp .gt (.bi .sum [(.call (ix 60) [(.var 0), (.val (.fn (ix 57))), (.val (.fn (ix 59)))])]) (.val (.int 2000)))) [.stuck] []), (.asg (.nm 2) (.lc (.over (.call (ix 66) [(.var 0)])) (.nm 3) [3] (some (.bl (.cmp .eq (.bi .len [(.call (ix 49) [(.var 0), (.var 3)])]) (.var 1)))) (.var 3))), (.ret (.ite (.bl (.cmp .ne (.var 2) (.lst []))) (.ix (.var 2) (.val (.int 0))) (.val .non)))] }
def cf_is_rest_an_end (ix : Nat → Nat) : Def := { ar := 1, sz := 2, body := [(.expr (.call (ix 15) [(.var 0)])), (.ret (.cmp .eq (.lc (.over (.call (ix 13) [(.var 0)])) (.nm 1) [1] (some (.bl (.cmp .eq (.bin .mod (.bi .len [(.var 1)]) (.val (.int 4))) (.val (.int 0))))) (.var 1)) (.lst [])))] }
def cf_turns_between (ix : Nat → Nat) : Def := { ar := 2, sz := 3, body := [(.expr (.call (ix 47) [(.var 0), (.var 1)])), (.asg (.nm 2) (.call (ix 49) [(.var 0), (.var 1)])), (.ret (.ite (.bl (.cmp .is (.var 2) (.val .non))) (.val .non) (.bi .len [(.var 2)])))] }
def cf_both_in (ix : Nat → Nat) : Def := { ar := 3, sz := 6, body := [(.expr (.call (ix 1) [(.var 0)])), (.asg (.nm 3) (.lst [])), (.for (.nm 4) (.over (.tup [(.var 1), (.var 2)])) [(.asg (.nm 5) (.ite (.val (.call (ix 46) [(.var 0), (.var 4)])) (.call (ix 49) [(.var 0), (.var 4)]) (.val .non))), (.ite (.bl (.cmp .is (.var 5) (.val .non))) [.stuck] []), (.expr (.mt .append (.var 3) [(.var 5)]))]), (.ret (.var 3))] }
def cf_left_over (ix : Nat → Nat) : Def := { ar := 2, sz := 7, body := [(.par 2 3 (.bi .len [(.ix (.var 0) (.val (.int 0)))]) (.lst [])), (.for (.nm 4) (.over (.call (ix 7) [(.var 0)])) [(.asg (.tup [(.nm 5), (.nm 6)]) (.call (ix 5) [(.var 2), (.var 4)])), (.ite (.and (.bl (.isin true (.var 4) (.var 1))) (.and (.bl (.isin true (.var 5) (.var 1))) (.bl (.isin true (.var 6) (.var 1))))) [(.expr (.mt .append (.var 3) [(.var 4)]))] [])]), (.ret (.var 3))] }
def cf_runs_in (ix : Nat → Nat) : Def := { ar := 2, sz := 7, body := [(.par 2 3 (.bi .len [(.ix (.var 0) (.val (.int 0)))]) (.lst [])), (.for (.nm 4) (.over (.var 1)) [(.ite (.bl (.isin true (.ix (.call (ix 5) [(.var 2), (.var 4)]) (.val (.int 0))) (.var 1))) [(.par 5 6 (.var 4) (.val (.int 0))), (.while (.bl (.isin false (.var 5) (.var 1))) [(.par 5 6 (.ix (.call (ix 5) [(.var 2), (.var 5)]) (.val (.int 1))) (.bin .add (.var 6) (.val (.int 1))))]), (.expr (.mt .append (.var 3) [(.var 6)]))] [])]), (.ret (.var 3))] }
def cf_common_count (ix : Nat → Nat) : Def := { ar := 3, sz := 9, body := [(.asg (.tup [(.nm 3), (.nm 4)]) (.call (ix 77) [(.var 0), (.var 1), (.var 2)])), (.asg (.nm 5) (.bi .sorted [(.bi .set [(.bin .add (.var 3) (.var 4))])])), (.ite (.val (.call (ix 81) [(.var 0), (.var 5)])) [(.ret (.val (.int 0)))] []), (.asg (.nm 6) (.call (ix 78) [(.var 0), (.var 5)])), (.ite (.bl (.cmp .eq (.bi .len [(.var 6)]) (.bi .len [(.ix (.var 0) (.val (.int 0)))]))) [(.ret (.bi .sum [(.call (ix 58) [(.bi .len [(.var 6)])])]))] []), (.asg (.nm 7) (.val (.int 1))), (.for (.nm 8) (.over (.call (ix 79) [(.var 0), (.var 6)])) [(.augn 7 .mul (.bi .sum [(.call (ix 56) [(.var 8)])]))]), (.ret (.var 7))] }
def cf_is_clash (ix : Nat → Nat) : Def := { ar := 2, sz := 3, body := [(.ret (.cmp .ne (.lc (.over (.var 1)) (.nm 2) [2] (some (.and (.bl (.isin false (.ix (.call (ix 5) [(.bi .len [(.ix (.var 0) (.val (.int 0)))]), (.var 2)]) (.val (.int 0))) (.var 1))) (.bl (.cmp .gt (.bi .len [(.ix (.var 0) (.val (.int 0)))]) (.val (.int 1)))))) (.var 2)) (.lst [])))] }
def cf_last_common (ix : Nat → Nat) : Def := { ar := 3, sz := 6, body := [(.asg (.tup [(.nm 3), (.nm 4)]) (.call (ix 77) [(.var 0), (.var 1), (.var 2)])), (.ret (.call (ix 9) [(.ix (.var 0) (.val (.int 0))), (.lc (.over (.var 3)) (.nm 5) [5] (some (.bl (.isin false (.var 5) (.var 4)))) (.var 5))]))] }
def cf_joined_turns (ix : Nat → Nat) : Def := { ar := 3, sz := 6, body := [(.asg (.tup [(.nm 3), (.nm 4)]) (.call (ix 77) [(.var 0), (.var 1), (.var 2)])), (.asg (.nm 5) (.bi .sorted [(.bi .set [(.bin .add (.var 3) (.var 4))])])), (.ret (.ite (.val (.call (ix 81) [(.var 0), (.var 5)])) (.val .non) (.call (ix 9) [(.ix (.var 0) (.val (.int 0))), (.var 5)])))] }
def cf_with_held (ix : Nat → Nat) : Def := { ar := 2, sz := 2, body := [(.ret (.tup [(.ix (.var 0) (.val (.int 0))), (.bi .tuple [(.bi .sorted [(.bi .set [(.bin .add (.ix (.var 0) (.val (.int 1))) (.bi .tuple [(.var 1)]))])])]), (.ix (.var 0) (.val (.int 2)))]))] }
def cf_held_rest (ix : Nat → Nat) : Def := { ar := 2, sz := 3, body := [(.expr (.call (ix 1) [(.var 0)])), (.ite (.not (.val (.call (ix 2) [(.bi .len [(.ix (.var 0) (.val (.int 0)))]), (.var 1)]))) [.stuck] []), (.asg (.nm 2) (.call (ix 84) [(.var 0), (.var 1)])), (.ite (.val (.call (ix 11) [(.var 2)])) [.stuck] []), (.ret (.tup [(.bi .tuple [(.call (ix 24) [(.var 2)])]), (.ix (.var 2) (.val (.int 1))), (.ix (.var 2) (.val (.int 2)))]))] }
def cf_hold_effects (ix : Nat → Nat) : Def := { ar := 1, sz := 6, body := [(.expr (.call (ix 15) [(.var 0)])), (.asg (.tup [(.nm 1), (.nm 2)]) (.tup [(.call (ix 24) [(.var 0)]), (.lst [])])), (.for (.nm 3) (.rng1 (.bi .len [(.ix (.var 0) (.val (.int 0)))])) [(.asg (.nm 4) (.call (ix 24) [(.call (ix 84) [(.var 0), (.lst [(.var 3)])])])), (.expr (.mt .append (.var 2) [(.bi .len [(.lc (.rng1 (.bi .len [(.var 1)])) (.nm 5) [5] (some (.bl (.cmp .ne (.ix (.var 4) (.var 5)) (.ix (.var 1) (.var 5))))) (.var 5))])]))]), (.ret (.bi .tuple [(.var 2)]))] }
def cf__law_singles (ix : Nat → Nat) : Def := { ar := 1, sz := 8, body := [(.par 1 2 (.lst []) (.disp [(.ix (.var 0) (.val (.int 0)))] [(.val (.int 1))])), (.for (.nm 3) (.rng1 (.bin .add (.bi .len [(.ix (.var 0) (.val (.int 0)))]) (.val (.int 1)))) [(.expr (.mt .append (.var 1) [(.var 2)])), (.asg (.nm 4) (.dnew false)), .stuck, (.asg (.nm 2) (.var 4)), (.ite (.bl (.cmp .eq (.var 2) (.dnew false))) [(.ret (.var 1))] [])]), (.ret (.var 1))] }
def cf__law_still (ix : Nat → Nat) : Def := { ar := 2, sz := 2, body := [(.ret (.cmp .eq (.call (ix 42) [(.tup [(.var 1), (.ix (.var 0) (.val (.int 1))), (.ix (.var 0) (.val (.int 2)))])]) (.lst [])))] }
def cf_without_carry (ix : Nat → Nat) : Def := { ar := 2, sz := 4, body := [(.asg (.tup [(.nm 2), (.nm 3)]) (.tup [(.val (.int 0)), (.val (.int 1))])), (.while (.or (.bl (.cmp .gt (.var 0) (.val (.int 0)))) (.bl (.cmp .gt (.var 1) (.val (.int 0))))) [(.ite (.bl (.cmp .ne (.bin .mod (.var 0) (.val (.int 2))) (.bin .mod (.var 1) (.val (.int 2))))) [(.augn 2 .add (.var 3))] []), (.par3 0 1 3 (.bin .fdiv (.var 0) (.val (.int 2))) (.bin .fdiv (.var 1) (.val (.int 2))) (.bin .mul (.val (.int 2)) (.var 3)))]), (.ret (.var 2))] }
def cf_longest_in (ix : Nat → Nat) : Def := { ar := 1, sz := 7, body := [(.asg (.tup [(.nm 1), (.nm 2), (.nm 3)]) (.var 0)), (.asg (.nm 4) (.call (ix 4) [(.tup [(.bin .mul (.tup [(.val (.int 0))]) (.var 1)), (.var 2), (.var 3)])])), (.ite (.not (.val (.var 3))) [(.ret (.bi .max [(.bin .add (.lc (.rng2 (.val (.int 1)) (.bi .len [(.var 4)])) (.nm 5) [5] none (.bin .add (.bin .sub (.ix (.var 4) (.var 5)) (.ix (.var 4) (.bin .sub (.var 5) (.val (.int 1))))) (.val (.int 1)))) (.lst [(.val (.int 1))]))]))] []), (.ite (.bl (.cmp .eq (.var 4) (.lst []))) [(.ret (.ite (.bl (.cmp .eq (.bin .mod (.var 1) (.val (.int 2))) (.val (.int 1)))) (.var 1) (.bin .sub (.var 1) (.val (.int 1)))))] []), (.ite (.bl (.cmp .eq (.bi .len [(.var 4)]) (.val (.int 1)))) [(.ret (.ite (.bl (.cmp .eq (.bin .mod (.var 1) (.val (.int 2))) (.val (.int 1)))) (.var 1) (.bin .add (.var 1) (.val (.int 1)))))] []), (.asg (.nm 6) (.bin .add (.lc (.rng2 (.val (.int 1)) (.bi .len [(.var 4)])) (.nm 5) [5] none (.bin .sub (.ix (.var 4) (.var 5)) (.ix (.var 4) (.bin .sub (.var 5) (.val (.int 1)))))) (.lst [(.bin .sub (.bin .add (.ix (.var 4) (.val (.int 0))) (.var 1)) (.ix (.var 4) (.neg (.val (.int 1)))))]))), (.ret (.bin .add (.bi .max [(.var 6)]) (.val (.int 1))))] }
def cf_times_in (ix : Nat → Nat) : Def := { ar := 1, sz := 1, body := [(.ret (.bin .fdiv (.bin .sub (.call (ix 90) [(.var 0)]) (.val (.int 1))) (.val (.int 2))))] }
def cf_most_time (ix : Nat → Nat) : Def := { ar := 1, sz := 1, body := [(.expr (.call (ix 93) [(.var 0)])), (.ret (.call (ix 91) [(.var 0)]))] }
def cf_need_frame (ix : Nat → Nat) : Def := { ar := 1, sz := 2, body := [(.ite (.or (.not (.val (.isi (.var 0) .tuple))) (.or (.bl (.cmp .ne (.bi .len [(.var 0)]) (.val (.int 3)))) (.not (.val (.isi (.ix (.var 0) (.val (.int 2))) .bool))))) [.stuck] []), (.asg (.nm 1) (.ite (.val (.ix (.var 0) (.val (.int 2)))) (.val (.int 3)) (.val (.int 1)))), (.ite (.or (.not (.val (.call (ix 0) [(.ix (.var 0) (.val (.int 0))), (.var 1), (.val (.int 40))]))) (.not (.val (.call (ix 2) [(.ix (.var 0) (.val (.int 0))), (.ix (.var 0) (.val (.int 1)))])))) [.stuck] [])] }
def cf_worth_in (ix : Nat → Nat) : Def := { ar := 1, sz := 2, body := [(.ite (.val (.call (ix 11) [(.var 0)])) [(.ret (.ite (.bl (.cmp .eq (.call (ix 94) [(.lst [(.bin .sub (.bi .len [(.ix (.var 0) (.val (.int 0)))]) (.val (.int 3)))])]) (.val (.int 0)))) (.val (.int 1)) (.val (.int 0))))] []), (.ret (.call (ix 94) [(.lc (.over (.call (ix 48) [(.var 0)])) (.nm 1) [1] none (.bi .len [(.var 1)]))]))] }
def cf_worth (ix : Nat → Nat) : Def := { ar := 1, sz := 1, body := [(.expr (.call (ix 1) [(.var 0)])), (.ret (.call (ix 96) [(.var 0)]))] }
def cf_last_hand (ix : Nat → Nat) : Def := { ar := 1, sz := 1, body := [(.expr (.call (ix 1) [(.var 0)])), (.ret (.cmp .ne (.call (ix 96) [(.var 0)]) (.val (.int 0))))] }
def cf_winning_cells (ix : Nat → Nat) : Def := { ar := 1, sz := 2, body := [(.expr (.call (ix 1) [(.var 0)])), (.ret (.bi .tuple [(.lc (.over (.call (ix 7) [(.var 0)])) (.nm 1) [1] (some (.bl (.cmp .eq (.call (ix 94) [(.call (ix 95) [(.var 0), (.var 1)])]) (.val (.int 0))))) (.var 1))]))] }
end Pyx

set_option Elab.async false
set_option linter.all false
set_option maxRecDepth 100000
set_option maxHeartbeats 4000000
/-! Pyx: what the functions of lines answer. -/
namespace Pyx
open PySem L2
theorem ty_ii {i : Int} {h : PH} : isTy (.int i) h .int = some true := rfl
theorem ty_ib {i : Int} {h : PH} : isTy (.int i) h .bool = some false := rfl
theorem ty_tt {xs : List PV} {h : PH} : isTy (.tup xs) h .tuple = some true := rfl
theorem ty_tl {xs : List PV} {h : PH} : isTy (.tup xs) h .list = some false := rfl
theorem ty_bb {b : Bool} {h : PH} : isTy (.bl b) h .bool = some true := rfl
theorem ty_bi {b : Bool} {h : PH} : isTy (.bl b) h .int = some true := rfl
local macro_rules | `(tactic| walk_at "px") => `(tactic| first
  | (with_reducible refine ok_var (v := ?_) (by with_unfolding_all exact rfl) ?_)
  | with_reducible refine os_nil ?_
  | with_reducible refine os_cons ?_
  | with_reducible refine os_pass ?_
  | with_reducible refine os_retN ?_
  | with_reducible refine os_brk ?_
  | with_reducible refine os_cont ?_
  | with_reducible refine os_ret ?_
  | with_reducible refine os_expr ?_
  | with_reducible refine os_set ?_
  | with_reducible refine os_asg ?_
  | with_reducible refine os_par ?_
  | with_reducible refine os_par3 ?_
  | with_reducible refine os_setix ?_
  | with_reducible refine os_ite ?_
  | with_reducible refine os_for ?_
  | with_reducible refine os_while ?_
  | with_reducible refine ok_val ?_
  | with_reducible refine ok_bin ?_
  | with_reducible refine ok_neg ?_
  | with_reducible refine ok_cmp ?_
  | with_reducible refine ok_chain ?_
  | with_reducible refine ok_isin ?_
  | with_reducible refine ok_and ?_
  | with_reducible refine ok_or ?_
  | with_reducible refine ok_not ?_
  | with_reducible refine ok_ite ?_
  | with_reducible refine ok_tup ?_
  | with_reducible refine ok_lst ?_
  | with_reducible refine ok_call ?_
  | with_reducible refine ok_bi ?_
  | with_reducible refine ok_isi ?_
  | with_reducible refine ok_isis ?_
  | with_reducible refine ok_ix ?_
  | with_reducible refine ok_sl ?_
  | with_reducible refine ok_oN ?_
  | with_reducible refine ok_oS ?_
  | with_reducible refine ok_nil ?_
  | with_reducible refine ok_cons ?_
  | with_reducible refine ok_bval ?_
  | with_reducible refine ok_bbl ?_
  | with_reducible refine ok_bnot ?_
  | with_reducible refine ok_band ?_
  | with_reducible refine ok_bor ?_
  | with_reducible refine ok_ifN ?_
  | with_reducible refine ok_ifS ?_
  | with_reducible refine ok_rng1 ?_
  | with_reducible refine ok_rng2 ?_
  | with_reducible refine ok_over ?_
  | with_reducible refine ok_enum ?_
  | with_reducible refine ok_add ?_
  | with_reducible refine ok_sub ?_
  | (with_reducible refine ok_lc (by with_unfolding_all exact rfl) ?_)
  | with_reducible refine ⟨_, eq_int, ?_⟩
  | with_reducible refine ⟨_, ne_int, ?_⟩
  | with_reducible refine ⟨_, lt_int', ?_⟩
  | with_reducible refine ⟨_, le_int', ?_⟩
  | with_reducible refine ⟨_, gt_int', ?_⟩
  | with_reducible refine ⟨_, ge_int', ?_⟩
  | with_reducible refine ⟨_, eq_bl, ?_⟩
  | with_reducible refine ⟨_, ne_bl, ?_⟩
  | with_reducible refine ⟨_, ty_ii, ?_⟩
  | with_reducible refine ⟨_, ty_ib, ?_⟩
  | with_reducible refine ⟨_, ty_tt, ?_⟩
  | with_reducible refine ⟨_, ty_tl, ?_⟩
  | with_reducible refine ⟨_, ty_bb, ?_⟩
  | with_reducible refine ⟨_, ty_bi, ?_⟩
  | with_reducible refine ⟨_, truth_bl, ?_⟩
  | with_reducible refine ⟨_, (rfl : PV.bl _ = PV.bl _), ?_⟩
  | with_reducible refine ⟨_, (rfl : PV.int _ = PV.int _), ?_⟩
  | (with_reducible refine And.intro (Nat.le_of_ble_eq_true (by with_unfolding_all exact rfl)) ?_)
  | refine ⟨fun _ => ?_, fun e => nomatch (e : true = false)⟩
  | refine ⟨fun e => (nomatch (e : false = true)), fun _ => ?_⟩
  | refine ⟨fun e => (nomatch (e : true = false)), fun _ => ?_⟩
  | refine ⟨fun _ => ?_, fun e => nomatch (e : false = true)⟩)
/-- the code of a function stands at its place -/
abbrev Has (P : Prg) (ix : Nat → Nat) (g : Nat) (c : (Nat → Nat) → Def) : Prop := (show List Def from P)[ix g]? = some (c ix)
/-- a line -/
structure Ln where
  cells : List Int
  held : List Int
  ring : Bool
def Ln.v (L : Ln) : PV := .tup [.tup (iL L.cells), .tup (iL L.held), .bl L.ring]
def Ln.many (L : Ln) : Nat := L.cells.length
structure Good1 (L : Ln) : Prop where
  one : 1 ≤ L.many
  three : L.ring = true → 3 ≤ L.many
  most : L.many ≤ 40
  col : ∀ c ∈ L.cells, 0 ≤ c ∧ c ≤ 9
  srt : L.held.Pairwise (· < ·)
  hin : ∀ k ∈ L.held, 0 ≤ k ∧ k < L.many
theorem Good1.len {L : Ln} (G : Good1 L) : L.held.length ≤ 40 := by
  have key : ∀ (l : List Int) (a b : Int), l.Pairwise (· < ·) → (∀ k ∈ l, a ≤ k ∧ k < b) → (l.length : Int) ≤ max 0 (b - a) := by
    intro l
    induction l with
    | nil => intro a b _ _; show (0 : Int) ≤ _; omega
    | cons x r ih =>
      intro a b h1 h2
      obtain ⟨p1, p2⟩ := List.pairwise_cons.mp h1
      have z := ih (x + 1) b p2 fun k hk => ⟨by have := p1 k hk; omega, (h2 k (List.mem_cons_of_mem _ hk)).2⟩
      have y := h2 x List.mem_cons_self
      rw [List.length_cons]
      omega
  have z := key L.held 0 L.many G.srt G.hin
  have := G.most
  omega
theorem sortI_srt' : ∀ l : List Int, l.Pairwise (· < ·) → sortI l = l
  | [], _ => rfl
  | x :: r, h => by
    obtain ⟨h1, h2⟩ := List.pairwise_cons.mp h
    show insI x (sortI r) = x :: r
    rw [sortI_srt' r h2]
    cases r with
    | nil => rfl
    | cons y r =>
      show (match decide (x ≤ y) with | true => x :: y :: r | false => y :: insI x r) = _
      have := h1 y List.mem_cons_self
      rw [decide_eq_true (by omega : x ≤ y)]
theorem dedI_srt' : ∀ l : List Int, l.Pairwise (· < ·) → dedI l = l
  | [], _ => rfl
  | x :: r, h => by
    obtain ⟨h1, h2⟩ := List.pairwise_cons.mp h
    show (match r.contains x with | true => dedI r | false => x :: dedI r) = _
    have e : r.contains x = false := by
      cases z : r.contains x with
      | false => rfl
      | true =>
        have m : x ∈ r := List.mem_of_elem_eq_true z
        exact absurd (h1 x m) (Int.lt_irrefl x)
    rw [e]
    show x :: dedI r = _
    rw [dedI_srt' r h2]
section
variable {P : Prg} {ix : Nat → Nat} {d : Nat} {h : PH} {Q : PV → PH → Prop}
theorem f_is_in (H : Has P ix 0 cf_is_in) {v a b : Int} (h1 : a ≤ v) (h2 : v ≤ b) (q : Q (.bl true) h) : Ok (callP P 1000 (d + 1) (ix 0) [.int v, .int a, .int b] h) Q := by
  refine ok_def H rfl ?_
  repeat walk_at "px"
  refine ⟨fun _ => ?_, fun e => absurd h1 (of_decide_eq_false e)⟩
  repeat walk_at "px"
  rw [decide_eq_true h2]
  exact q
theorem toDs_ints (n : Nat) : ∀ ns : List Int, toDs (toD (n + 1) h) (iL ns) = some (ns.map PyData.int)
  | [] => rfl
  | k :: ns => by
    show (match toD (n + 1) h (.int k) with | none => none | some d => match toDs (toD (n + 1) h) (iL ns) with | none => none | some ds => some (d :: ds)) = _
    rw [toDs_ints n ns]
    rfl
theorem lay_ints : ∀ ns : List Int, PyData.canLayAll0 (ns.map PyData.int) = true
  | [] => by rw [List.map_nil, PyData.canLayAll0]
  | k :: ns => by
    rw [List.map_cons, PyData.canLayAll0, lay_ints ns, PyData.canLay0]
    rfl
theorem dep_ints : ∀ ns : List Int, PyData.depthAll (ns.map PyData.int) = 0
  | [] => by rw [List.map_nil, PyData.depthAll]
  | k :: ns => by
    rw [List.map_cons, PyData.depthAll, dep_ints ns, PyData.depth]
    rfl
theorem eqv_ints : ∀ ns ms : List Int, PyData.eqvAll (ns.map PyData.int) (ms.map PyData.int) = decide (ns = ms)
  | [], [] => by rw [List.map_nil, PyData.eqvAll]; rfl
  | [], m :: ms => by rw [List.map_nil, List.map_cons, PyData.eqvAll]; rfl
  | n :: ns, [] => by rw [List.map_nil, List.map_cons, PyData.eqvAll]; rfl
  | n :: ns, m :: ms => by
    rw [List.map_cons, List.map_cons, PyData.eqvAll, eqv_ints ns ms, PyData.eqv]
    by_cases e : n = m
    · subst e
      by_cases e2 : ns = ms <;> simp [e2]
    · simp [e]
theorem dat_lst {a : Nat} {ns : List Int} (ha : h.get a = some (.lst (iL ns))) : toDat h (.ref a) = some (.list (ns.map PyData.int)) := by
  have e : toD 20 h (.ref a) = some (.list (ns.map PyData.int)) := by
    unfold toD
    dsimp only
    rw [ha]
    dsimp only
    rw [toDs_ints]
  unfold toDat
  rw [e]
  dsimp only
  have s : SeqAt.shaped (.list (ns.map PyData.int)) = true := by
    unfold SeqAt.shaped
    rw [PyData.canLay0, lay_ints, PyData.depth, dep_ints]
    rfl
  rw [s]
/-- two lists of ints -/
theorem eq_lsts {a b : Nat} {ns ms : List Int} (ha : h.get a = some (.lst (iL ns))) (hb : h.get b = some (.lst (iL ms))) : cmpP .eq (.ref a) (.ref b) h = some (decide (ns = ms)) := by
  show eqP h (.ref a) (.ref b) = _
  unfold eqP
  rw [dat_lst ha, dat_lst hb]
  dsimp only
  rw [PyData.eqv, eqv_ints]
theorem ne_lsts {a b : Nat} {ns ms : List Int} (ha : h.get a = some (.lst (iL ns))) (hb : h.get b = some (.lst (iL ms))) : cmpP .ne (.ref a) (.ref b) h = some (!decide (ns = ms)) := by
  show negO (cmpP .eq (.ref a) (.ref b) h) = _
  rw [eq_lsts ha hb]
  rfl
theorem f_is_cells (H0 : Has P ix 0 cf_is_in) (H : Has P ix 2 cf_is_cells) {many : Int} {held : List Int} (w : Wf h) (hl : held.length ≤ 60) (hs : held.Pairwise (· < ·)) (hi : ∀ k ∈ held, 0 ≤ k ∧ k < many)
    (q : ∀ h', Le none h h' → Q (.bl true) h') : Ok (callP P 1000 (d + 2) (ix 2) [.int many, .tup (iL held)] h) Q := by
  refine ok_def H rfl ?_
  repeat walk_at "px"
  refine .inr ⟨_, rfl, ?_⟩
  refine ok_lcI none (iL held) h w (fun i e => by cases e) (fun k h' _ => iv_tup k h') (by rw [List.length_map]; omega) (fun _ acc => acc = []) rfl (fun k v acc h1 e i l => ?_) (fun acc h' i _ l g => ?_) (by rw [List.length_map]; omega)
  · have hv : ∃ x, v = .int x ∧ 0 ≤ x ∧ x < many := by
      obtain ⟨x, hx, rfl⟩ := List.mem_map.mp (List.mem_of_getElem? e)
      exact ⟨x, rfl, hi x hx⟩
    obtain ⟨x, rfl, h0, h1'⟩ := hv
    refine ⟨_, rfl, ?_⟩
    repeat walk_at "px"
    refine f_is_in H0 h0 (by omega) ?_
    repeat walk_at "px"
    exact ⟨Le.refl l.wf, fun _ => i, fun e => nomatch (e : false = true)⟩
  · subst i
    have l1 : Le none h (h'.push (.lst [])) := l.trans (Le.push l.wf)
    repeat walk_at "px"
    refine ⟨_, ne_lsts (ns := []) (ms := []) (get_old g) get_new, ?_⟩
    rw [decide_eq_true (rfl : ([] : List Int) = [])]
    repeat walk_at "px"
    refine ok_listOf (xs := iL held) (by rfl) (by rw [List.length_map]; omega) ?_
    repeat walk_at "px"
    refine ok_setOf (ns := held) rfl hl ?_
    repeat walk_at "px"
    refine ok_sortedSet get_new (by rw [dedI_srt' held hs]; exact hl) ?_
    rw [dedI_srt' held hs, sortI_srt' held hs]
    have w1 := wf_push (o := PO.lst []) l.wf
    have w2 := wf_push (o := PO.lst (iL held)) w1
    have w3 := wf_push (o := PO.set held) w2
    refine ⟨_, eq_lsts (ns := held) (ms := held) (get_old (get_old get_new)) get_new, ?_⟩
    rw [decide_eq_true rfl]
    exact q _ (l1.trans ((Le.push w1).trans ((Le.push w2).trans (Le.push w3))))
theorem f_flanks (H : Has P ix 5 cf_flanks) {m c : Int} (hm : 0 < m) (q : Q (.tup [.int ((c - 1) % m), .int ((c + 1) % m)]) h) : Ok (callP P 1000 (d + 1) (ix 5) [.int m, .int c] h) Q := by
  refine ok_def H rfl ?_
  repeat walk_at "px"
  refine ok_mod hm ?_
  repeat walk_at "px"
  refine ok_mod hm ?_
  repeat walk_at "px"
  exact q
/-- the colour of a cell, by its number modulo -/
def Ln.at (L : Ln) (k : Int) : Int := L.cells.getD (k % L.many).toNat 0
theorem at_ix {L : Ln} (h0 : 1 ≤ L.many) (k : Int) : ixP (.tup (iL L.cells)) (.int (k % L.many)) h = some (.int (L.at k)) := by
  have hm : (0 : Int) < L.many := by omega
  have h1 := Int.emod_nonneg k (by omega : (L.many : Int) ≠ 0)
  have h2 := Int.emod_lt_of_pos k hm
  have e : k % (L.many : Int) = (((k % L.many).toNat : Nat) : Int) := by omega
  rw [e]
  refine ix_of_nat (xs := iL L.cells) rfl ?_
  have hk : (k % (L.many : Int)).toNat < L.cells.length := by
    show _ < L.many
    omega
  rw [List.getElem?_map, List.getElem?_eq_getElem hk]
  unfold Ln.at
  rw [List.getD_eq_getElem?_getD, List.getElem?_eq_getElem hk]
  rfl
theorem at_small {L : Ln} {k : Nat} (hk : k < L.many) : ixP (.tup (iL L.cells)) (.int (k : Int)) h = some (.int (L.at k)) := by
  have e := at_ix (h := h) (L := L) (by omega) (k : Int)
  rw [Int.emod_eq_of_lt (by omega) (by omega)] at e
  exact e
/-- both neighbours are of one colour, the cell of another -/
def Ln.flk (L : Ln) (k : Nat) : Bool := decide (L.at ((k : Int) - 1) = L.at ((k : Int) + 1)) && !decide (L.at ((k : Int) + 1) = L.at k)
theorem f_is_flanked (H5 : Has P ix 5 cf_flanks) (H : Has P ix 6 cf_is_flanked) {L : Ln} {k : Nat} (hk : k < L.many) (q : Q (.bl (L.flk k)) h) : Ok (callP P 1000 (d + 2) (ix 6) [.tup (iL L.cells), .int k] h) Q := by
  refine ok_def H rfl ?_
  repeat walk_at "px"
  refine ok_len rfl ?_
  rw [List.length_map]
  have hm : (0 : Int) < (L.cells.length : Nat) := by
    have : k < L.cells.length := hk
    omega
  repeat walk_at "px"
  refine f_flanks H5 hm ⟨_, rfl, ?_⟩
  repeat walk_at "px"
  refine ⟨_, at_ix (by omega) _, ?_⟩
  repeat walk_at "px"
  refine ⟨_, at_ix (by omega) _, ?_⟩
  refine ⟨_, eq_int, fun e => ?_, fun e => ?_⟩
  · repeat walk_at "px"
    refine ⟨_, at_small hk, ⟨_, ne_int, ?_⟩⟩
    unfold Ln.flk at q
    rw [e, Bool.true_and] at q
    exact q
  · unfold Ln.flk at q
    rw [e, Bool.false_and] at q
    exact q
end
end Pyx

set_option Elab.async false
set_option linter.all false
set_option maxRecDepth 100000
set_option maxHeartbeats 4000000
namespace Pyx
open PySem L2
local macro_rules | `(tactic| walk_at "px") => `(tactic| first
  | (with_reducible refine ok_var (v := ?_) (by with_unfolding_all exact rfl) ?_)
  | with_reducible refine os_nil ?_
  | with_reducible refine os_cons ?_
  | with_reducible refine os_pass ?_
  | with_reducible refine os_retN ?_
  | with_reducible refine os_brk ?_
  | with_reducible refine os_cont ?_
  | with_reducible refine os_ret ?_
  | with_reducible refine os_expr ?_
  | with_reducible refine os_set ?_
  | with_reducible refine os_asg ?_
  | with_reducible refine os_par ?_
  | with_reducible refine os_par3 ?_
  | with_reducible refine os_setix ?_
  | with_reducible refine os_ite ?_
  | with_reducible refine os_for ?_
  | with_reducible refine os_while ?_
  | with_reducible refine ok_val ?_
  | with_reducible refine ok_bin ?_
  | with_reducible refine ok_neg ?_
  | with_reducible refine ok_cmp ?_
  | with_reducible refine ok_chain ?_
  | with_reducible refine ok_isin ?_
  | with_reducible refine ok_and ?_
  | with_reducible refine ok_or ?_
  | with_reducible refine ok_not ?_
  | with_reducible refine ok_ite ?_
  | with_reducible refine ok_tup ?_
  | with_reducible refine ok_lst ?_
  | with_reducible refine ok_call ?_
  | with_reducible refine ok_bi ?_
  | with_reducible refine ok_isi ?_
  | with_reducible refine ok_isis ?_
  | with_reducible refine ok_ix ?_
  | with_reducible refine ok_sl ?_
  | with_reducible refine ok_oN ?_
  | with_reducible refine ok_oS ?_
  | with_reducible refine ok_nil ?_
  | with_reducible refine ok_cons ?_
  | with_reducible refine ok_bval ?_
  | with_reducible refine ok_bbl ?_
  | with_reducible refine ok_bnot ?_
  | with_reducible refine ok_band ?_
  | with_reducible refine ok_bor ?_
  | with_reducible refine ok_ifN ?_
  | with_reducible refine ok_ifS ?_
  | with_reducible refine ok_rng1 ?_
  | with_reducible refine ok_rng2 ?_
  | with_reducible refine ok_over ?_
  | with_reducible refine ok_enum ?_
  | with_reducible refine ok_add ?_
  | with_reducible refine ok_sub ?_
  | (with_reducible refine ok_lc (by with_unfolding_all exact rfl) ?_)
  | with_reducible refine ⟨_, eq_int, ?_⟩
  | with_reducible refine ⟨_, ne_int, ?_⟩
  | with_reducible refine ⟨_, lt_int', ?_⟩
  | with_reducible refine ⟨_, le_int', ?_⟩
  | with_reducible refine ⟨_, gt_int', ?_⟩
  | with_reducible refine ⟨_, ge_int', ?_⟩
  | with_reducible refine ⟨_, eq_bl, ?_⟩
  | with_reducible refine ⟨_, ne_bl, ?_⟩
  | with_reducible refine ⟨_, ty_ii, ?_⟩
  | with_reducible refine ⟨_, ty_ib, ?_⟩
  | with_reducible refine ⟨_, ty_tt, ?_⟩
  | with_reducible refine ⟨_, ty_tl, ?_⟩
  | with_reducible refine ⟨_, ty_bb, ?_⟩
  | with_reducible refine ⟨_, ty_bi, ?_⟩
  | with_reducible refine ⟨_, truth_bl, ?_⟩
  | with_reducible refine ⟨_, (rfl : PV.bl _ = PV.bl _), ?_⟩
  | with_reducible refine ⟨_, (rfl : PV.int _ = PV.int _), ?_⟩
  | (with_reducible refine And.intro (Nat.le_of_ble_eq_true (by with_unfolding_all exact rfl)) ?_)
  | refine ⟨fun _ => ?_, fun e => nomatch (e : true = false)⟩
  | refine ⟨fun e => (nomatch (e : false = true)), fun _ => ?_⟩
  | refine ⟨fun e => (nomatch (e : true = false)), fun _ => ?_⟩
  | refine ⟨fun _ => ?_, fun e => nomatch (e : false = true)⟩)
theorem Le.p {p : Option Nat} {h0 h : PH} (a : Le p h0 h) {o : PO} : Le p h0 (h.push o) := a.trans (Le.push a.wf)
theorem dedI_len : ∀ l : List Int, (dedI l).length ≤ l.length
  | [] => Nat.le_refl _
  | x :: r => by
    unfold dedI
    split
    · exact Nat.le_succ_of_le (dedI_len r)
    · exact Nat.succ_le_succ (dedI_len r)
def Ln.ends (L : Ln) : List Int := match L.ring with
  | true => []
  | false => [0, (L.many : Int) - 1]
def Ln.heldI (L : Ln) : List Int := sortI (dedI (L.held ++ L.ends))
theorem heldI_mem {L : Ln} {k : Int} : k ∈ L.heldI ↔ k ∈ L.held ∨ (L.ring = false ∧ (k = 0 ∨ k = (L.many : Int) - 1)) := by
  unfold Ln.heldI
  rw [(sortI_perm _).mem_iff, dedI_mem, List.mem_append]
  unfold Ln.ends
  cases L.ring <;> simp
theorem iL_app (a b : List Int) : iL a ++ iL b = iL (a ++ b) := (List.map_append ..).symm
def Ln.rdy (L : Ln) (k : Nat) : Bool := !decide ((k : Int) ∈ L.heldI) && L.flk k
def Ln.ready (L : Ln) : List Int := ((List.range L.many).filter L.rdy).map fun k => ((k : Nat) : Int)
section
variable {P : Prg} {ix : Nat → Nat} {d : Nat} {h : PH} {Q : PV → PH → Prop}
theorem f_held_in (H : Has P ix 4 cf_held_in) {L : Ln} (G : Good1 L) (w : Wf h) (q : ∀ i h', Le none h h' → h.n ≤ i → h'.get i = some (.lst (iL L.heldI)) → Q (.ref i) h') : Ok (callP P 1000 (d + 1) (ix 4) [L.v] h) Q := by
  have hl := G.len
  refine ok_def H rfl ?_
  refine os_cons (os_asg (ok_var rfl ⟨_, rfl, ?_⟩))
  refine os_cons (os_set (Ok.mono (Q := fun v h1 => ∃ i es, v = .ref i ∧ es.length ≤ 2 ∧ L.heldI = sortI (dedI (L.held ++ es)) ∧ Le none h h1 ∧ h1.get i = some (.lst (iL es))) ?A ?B))
  case A =>
    obtain ⟨cells, held, ring⟩ := L
    cases ring with
    | true =>
      repeat walk_at "px"
      exact ⟨_, [], rfl, by decide, rfl, Le.push w, get_new⟩
    | false =>
      repeat walk_at "px"
      refine ok_len (xs := iL cells) (by rfl) ?_
      rw [List.length_map]
      repeat walk_at "px"
      exact ⟨_, [0, (cells.length : Int) - 1], rfl, Nat.le_refl 2, rfl, Le.push w, get_new⟩
  case B =>
    rintro v h1 ⟨i, es, rfl, he, hh, l, g⟩
    repeat walk_at "px"
    refine ok_listOf (xs := iL L.held) (by rfl) (by rw [List.length_map]; omega) ?_
    repeat walk_at "px"
    refine ok_catL get_new (get_old g) (by rw [List.length_append, List.length_map, List.length_map]; omega) ?_
    rw [iL_app]
    repeat walk_at "px"
    have lz : (L.held ++ es).length ≤ 60 := by
      rw [List.length_append]
      omega
    refine ok_setOf (seqOf_lst get_new) lz ?_
    repeat walk_at "px"
    refine ok_sortedSet get_new (Nat.le_trans (dedI_len _) lz) ?_
    refine q _ _ l.p.p.p.p ?_ (by rw [hh]; exact get_new)
    have z1 := l.n
    show h.n ≤ h1.n + 1 + 1 + 1
    omega
theorem f_ready_in (H4 : Has P ix 4 cf_held_in) (H5 : Has P ix 5 cf_flanks) (H6 : Has P ix 6 cf_is_flanked) (H : Has P ix 7 cf_ready_in) {L : Ln} (G : Good1 L) (w : Wf h) (q : ∀ i h', Le none h h' → h.n ≤ i → h'.get i = some (.lst (iL L.ready)) → Q (.ref i) h') :
    Ok (callP P 1000 (d + 3) (ix 7) [L.v] h) Q := by
  have h40 := G.most
  refine ok_def H rfl ?_
  repeat walk_at "px"
  refine f_held_in H4 G w fun i h1 l1 hi g1 => ?_
  repeat walk_at "px"
  refine ⟨_, rfl, ?_⟩
  repeat walk_at "px"
  refine ok_len (xs := iL L.cells) (by rfl) ?_
  rw [List.length_map]
  refine ⟨_, rfl, ⟨by omega, by show (L.many : Int) ≤ _; omega⟩, ?_⟩
  have hm : ((L.cells.length : Nat) : Int).toNat = L.many := Int.toNat_natCast _
  rw [hm]
  refine ok_lcI none (rng 0 L.many) h1 l1.wf (fun i e => by cases e) (fun k h' _ => iv_rng k h') (by rw [rng_len]; omega) (fun k acc => acc = ((List.range k).filter L.rdy).map fun k => .int ((k : Nat) : Int)) rfl (fun k v acc h2 e i2 l2 => ?_) (fun acc h' i2 _ l g => ?_) (by rw [rng_len]; omega)
  · obtain ⟨hk, rfl⟩ := rng_at e
    rw [Int.zero_add] at e ⊢
    refine ⟨_, rfl, ?_⟩
    repeat walk_at "px"
    have g2 : h2.get i = some (.lst (iL L.heldI)) := l2.get _ _ (by intro z; cases z) g1
    refine ⟨_, in_ints (seqOf_lst g2), ⟨_, rfl, fun e1 => ?_, fun e1 => ?_⟩⟩
    · repeat walk_at "px"
      refine ⟨_, rfl, ?_⟩
      repeat walk_at "px"
      refine f_is_flanked H5 H6 hk ?_
      have er : L.rdy k = L.flk k := by
        unfold Ln.rdy
        have e1 : (!decide ((k : Int) ∈ L.heldI)) = true := e1
        rw [e1, Bool.true_and]
      refine ⟨_, truth_bl, Le.refl l2.wf, fun e2 => ?_, fun e2 => ?_⟩
      · rw [i2, filter_step, er, e2]
        exact (List.append_nil _).symm
      · repeat walk_at "px"
        refine ⟨Le.refl l2.wf, ?_⟩
        rw [i2, filter_step, er, e2]
        rfl
    · have er : L.rdy k = false := by
        unfold Ln.rdy
        have e1 : (!decide ((k : Int) ∈ L.heldI)) = false := e1
        rw [e1, Bool.false_and]
      refine ⟨Le.refl l2.wf, fun _ => ?_, fun e => (nomatch (e : false = true))⟩
      rw [i2, filter_step, er]
      exact (List.append_nil _).symm
  · rw [rng_len] at i2
    refine q _ h' (l1.trans l) l1.n ?_
    rw [g, i2]
    unfold Ln.ready
    rw [iL, List.map_map]
    rfl
end
end Pyx

set_option Elab.async false
set_option linter.all false
set_option maxRecDepth 100000
set_option maxHeartbeats 400000
namespace Pyx
open PySem L2
local macro_rules | `(tactic| walk_at "px") => `(tactic| first
  | (with_reducible refine ok_var (v := ?_) (by with_unfolding_all exact rfl) ?_)
  | with_reducible refine os_nil ?_
  | with_reducible refine os_cons ?_
  | with_reducible refine os_pass ?_
  | with_reducible refine os_retN ?_
  | with_reducible refine os_brk ?_
  | with_reducible refine os_cont ?_
  | with_reducible refine os_ret ?_
  | with_reducible refine os_expr ?_
  | with_reducible refine os_set ?_
  | with_reducible refine os_asg ?_
  | with_reducible refine os_par ?_
  | with_reducible refine os_par3 ?_
  | with_reducible refine os_setix ?_
  | with_reducible refine os_ite ?_
  | with_reducible refine os_for ?_
  | with_reducible refine os_while ?_
  | with_reducible refine ok_val ?_
  | with_reducible refine ok_bin ?_
  | with_reducible refine ok_neg ?_
  | with_reducible refine ok_cmp ?_
  | with_reducible refine ok_chain ?_
  | with_reducible refine ok_isin ?_
  | with_reducible refine ok_and ?_
  | with_reducible refine ok_or ?_
  | with_reducible refine ok_not ?_
  | with_reducible refine ok_ite ?_
  | with_reducible refine ok_tup ?_
  | with_reducible refine ok_lst ?_
  | with_reducible refine ok_call ?_
  | with_reducible refine ok_bi ?_
  | with_reducible refine ok_isi ?_
  | with_reducible refine ok_isis ?_
  | with_reducible refine ok_ix ?_
  | with_reducible refine ok_sl ?_
  | with_reducible refine ok_oN ?_
  | with_reducible refine ok_oS ?_
  | with_reducible refine ok_nil ?_
  | with_reducible refine ok_cons ?_
  | with_reducible refine ok_bval ?_
  | with_reducible refine ok_bbl ?_
  | with_reducible refine ok_bnot ?_
  | with_reducible refine ok_band ?_
  | with_reducible refine ok_bor ?_
  | with_reducible refine ok_ifN ?_
  | with_reducible refine ok_ifS ?_
  | with_reducible refine ok_rng1 ?_
  | with_reducible refine ok_rng2 ?_
  | with_reducible refine ok_over ?_
  | with_reducible refine ok_enum ?_
  | with_reducible refine ok_add ?_
  | with_reducible refine ok_sub ?_
  | (with_reducible refine ok_lc (by with_unfolding_all exact rfl) ?_)
  | with_reducible refine ⟨_, eq_int, ?_⟩
  | with_reducible refine ⟨_, ne_int, ?_⟩
  | with_reducible refine ⟨_, lt_int', ?_⟩
  | with_reducible refine ⟨_, le_int', ?_⟩
  | with_reducible refine ⟨_, gt_int', ?_⟩
  | with_reducible refine ⟨_, ge_int', ?_⟩
  | with_reducible refine ⟨_, eq_bl, ?_⟩
  | with_reducible refine ⟨_, ne_bl, ?_⟩
  | with_reducible refine ⟨_, ty_ii, ?_⟩
  | with_reducible refine ⟨_, ty_ib, ?_⟩
  | with_reducible refine ⟨_, ty_tt, ?_⟩
  | with_reducible refine ⟨_, ty_tl, ?_⟩
  | with_reducible refine ⟨_, ty_bb, ?_⟩
  | with_reducible refine ⟨_, ty_bi, ?_⟩
  | with_reducible refine ⟨_, truth_bl, ?_⟩
  | with_reducible refine ⟨_, (rfl : PV.bl _ = PV.bl _), ?_⟩
  | with_reducible refine ⟨_, (rfl : PV.int _ = PV.int _), ?_⟩
  | (with_reducible refine And.intro (Nat.le_of_ble_eq_true (by with_unfolding_all exact rfl)) ?_)
  | refine ⟨fun _ => ?_, fun e => nomatch (e : true = false)⟩
  | refine ⟨fun e => (nomatch (e : false = true)), fun _ => ?_⟩
  | refine ⟨fun e => (nomatch (e : true = false)), fun _ => ?_⟩
  | refine ⟨fun _ => ?_, fun e => nomatch (e : false = true)⟩)
theorem iv_enumT {xs : List PV} (k : Nat) (h : PH) : ivN (.enumT xs) k h = match xs[k]? with | some v => .item (.tup [.int k, v]) | none => .stop := rfl
section
variable {P : Prg} {ix : Nat → Nat} {d : Nat} {h : PH} {Q : PV → PH → Prop}
theorem f_need_line (H0 : Has P ix 0 cf_is_in) (H2 : Has P ix 2 cf_is_cells) (H : Has P ix 1 cf_need_line) {L : Ln} (G : Good1 L) (w : Wf h) (q : ∀ h', Le none h h' → Q .non h') : Ok (callP P 1000 (d + 3) (ix 1) [L.v] h) Q := by
  have h40 := G.most
  have hl := G.len
  refine ok_def H rfl ?_
  unfold Ln.v
  repeat walk_at "px"
  refine ok_len rfl ?_
  repeat walk_at "px"
  refine ⟨_, rfl, ?_⟩
  repeat walk_at "px"
  refine ⟨_, rfl, ?_⟩
  refine os_cons (os_set (Ok.mono (Q := fun v h1 => h1 = h ∧ v = .int (if L.ring then 3 else 1)) ?A ?B))
  case A =>
    cases L.ring with
    | true =>
      repeat walk_at "px"
      exact ⟨rfl, rfl⟩
    | false =>
      repeat walk_at "px"
      exact ⟨rfl, rfl⟩
  case B =>
    rintro v h1 ⟨rfl, rfl⟩
    repeat walk_at "px"
    refine ok_len (xs := iL L.cells) (by rfl) ?_
    rw [List.length_map]
    have e1 : decide ((if L.ring then (3 : Int) else 1) ≤ ((L.cells.length : Nat) : Int)) = true := by
      have z1 : 1 ≤ L.cells.length := G.one
      refine decide_eq_true ?_
      cases hr : L.ring with
      | true =>
        have z3 : 3 ≤ L.cells.length := G.three hr
        show (3 : Int) ≤ _
        omega
      | false =>
        show (1 : Int) ≤ _
        omega
    refine ⟨_, le_int', ?_⟩
    rw [e1]
    repeat walk_at "px"
    rw [show decide (((L.cells.length : Nat) : Int) ≤ 40) = true from decide_eq_true (by have : L.cells.length ≤ 40 := h40; omega)]
    repeat walk_at "px"
    refine .inr ⟨_, rfl, ?_⟩
    refine os_forL (fun k st h' => h' = h1 ∧ k ≤ L.many ∧ st.length = 7 ∧ st[1]? = some (some (.tup (iL L.cells))) ∧ st[2]? = some (some (.tup (iL L.held)))) L.many (fun k st h' ⟨i1, i2, i3, i4, i5⟩ => ⟨i2, ?_⟩) _ 0 _ _ (by omega) ⟨rfl, Nat.zero_le _, rfl, rfl, rfl⟩
    subst i1
    match st, i3, i4, i5 with
    | [s0, s1, s2, s3, s4, s5, s6], _, i4, i5 =>
      have i4 : some s1 = some (some (.tup (iL L.cells))) := i4
      have i5 : some s2 = some (some (.tup (iL L.held))) := i5
      cases i4
      cases i5
      rw [iv_enumT]
      by_cases hk : k < L.many
      · have e : (iL L.cells)[k]? = some (.int (L.cells[k]'hk)) := by
          rw [List.getElem?_map, List.getElem?_eq_getElem hk]
          rfl
        rw [e]
        refine .inr ⟨_, _, rfl, rfl, ?_⟩
        have c := G.col _ (List.getElem_mem hk)
        repeat walk_at "px"
        refine f_is_in H0 c.1 c.2 ?_
        repeat walk_at "px"
        exact ⟨rfl, hk, rfl, rfl, rfl⟩
      · have hk2 : k = L.many := by omega
        have e : (iL L.cells)[k]? = none := List.getElem?_eq_none (by rw [List.length_map]; show L.many ≤ k; omega)
        rw [e]
        refine .inl ⟨rfl, ?_⟩
        repeat walk_at "px"
        refine ok_len (xs := iL L.cells) (by rfl) ?_
        rw [List.length_map]
        repeat walk_at "px"
        refine f_is_cells H0 H2 w (by omega) G.srt G.hin fun h2 l2 => ?_
        repeat walk_at "px"
        exact q _ l2
theorem f_ready_cells (H0 : Has P ix 0 cf_is_in) (H2 : Has P ix 2 cf_is_cells) (H1 : Has P ix 1 cf_need_line) (H4 : Has P ix 4 cf_held_in) (H5 : Has P ix 5 cf_flanks) (H6 : Has P ix 6 cf_is_flanked) (H7 : Has P ix 7 cf_ready_in) (H : Has P ix 8 cf_ready_cells) {L : Ln} (G : Good1 L) (w : Wf h)
    (q : ∀ h', Le none h h' → Q (.tup (iL L.ready)) h') : Ok (callP P 1000 (d + 4) (ix 8) [L.v] h) Q := by
  have h40 := G.most
  refine ok_def H rfl ?_
  repeat walk_at "px"
  refine f_need_line H0 H2 H1 G w fun h1 l1 => ?_
  repeat walk_at "px"
  refine f_ready_in H4 H5 H6 H7 G l1.wf fun i h2 l2 hi g2 => ?_
  repeat walk_at "px"
  refine ok_tupleOf (seqOf_lst g2) ?_ (q _ (l1.trans l2))
  unfold Ln.ready
  rw [List.length_map, List.length_map]
  have z := List.length_filter_le L.rdy (List.range L.many)
  rw [List.length_range] at z
  omega
end
end Pyx

set_option Elab.async false
set_option linter.all false
set_option maxRecDepth 100000
set_option maxHeartbeats 400000
namespace Pyx
open PySem L2
local macro_rules | `(tactic| walk_at "px") => `(tactic| first
  | (with_reducible refine ok_var (v := ?_) (by with_unfolding_all exact rfl) ?_)
  | with_reducible refine os_nil ?_
  | with_reducible refine os_cons ?_
  | with_reducible refine os_pass ?_
  | with_reducible refine os_retN ?_
  | with_reducible refine os_brk ?_
  | with_reducible refine os_cont ?_
  | with_reducible refine os_ret ?_
  | with_reducible refine os_expr ?_
  | with_reducible refine os_set ?_
  | with_reducible refine os_asg ?_
  | with_reducible refine os_par ?_
  | with_reducible refine os_par3 ?_
  | with_reducible refine os_setix ?_
  | with_reducible refine os_ite ?_
  | with_reducible refine os_for ?_
  | with_reducible refine os_while ?_
  | with_reducible refine ok_val ?_
  | with_reducible refine ok_bin ?_
  | with_reducible refine ok_neg ?_
  | with_reducible refine ok_cmp ?_
  | with_reducible refine ok_chain ?_
  | with_reducible refine ok_isin ?_
  | with_reducible refine ok_and ?_
  | with_reducible refine ok_or ?_
  | with_reducible refine ok_not ?_
  | with_reducible refine ok_ite ?_
  | with_reducible refine ok_tup ?_
  | with_reducible refine ok_lst ?_
  | with_reducible refine ok_call ?_
  | with_reducible refine ok_bi ?_
  | with_reducible refine ok_isi ?_
  | with_reducible refine ok_isis ?_
  | with_reducible refine ok_ix ?_
  | with_reducible refine ok_sl ?_
  | with_reducible refine ok_oN ?_
  | with_reducible refine ok_oS ?_
  | with_reducible refine ok_nil ?_
  | with_reducible refine ok_cons ?_
  | with_reducible refine ok_bval ?_
  | with_reducible refine ok_bbl ?_
  | with_reducible refine ok_bnot ?_
  | with_reducible refine ok_band ?_
  | with_reducible refine ok_bor ?_
  | with_reducible refine ok_ifN ?_
  | with_reducible refine ok_ifS ?_
  | with_reducible refine ok_rng1 ?_
  | with_reducible refine ok_rng2 ?_
  | with_reducible refine ok_over ?_
  | with_reducible refine ok_enum ?_
  | with_reducible refine ok_add ?_
  | with_reducible refine ok_sub ?_
  | (with_reducible refine ok_lc (by with_unfolding_all exact rfl) ?_)
  | with_reducible refine ⟨_, eq_int, ?_⟩
  | with_reducible refine ⟨_, ne_int, ?_⟩
  | with_reducible refine ⟨_, lt_int', ?_⟩
  | with_reducible refine ⟨_, le_int', ?_⟩
  | with_reducible refine ⟨_, gt_int', ?_⟩
  | with_reducible refine ⟨_, ge_int', ?_⟩
  | with_reducible refine ⟨_, eq_bl, ?_⟩
  | with_reducible refine ⟨_, ne_bl, ?_⟩
  | with_reducible refine ⟨_, ty_ii, ?_⟩
  | with_reducible refine ⟨_, ty_ib, ?_⟩
  | with_reducible refine ⟨_, ty_tt, ?_⟩
  | with_reducible refine ⟨_, ty_tl, ?_⟩
  | with_reducible refine ⟨_, ty_bb, ?_⟩
  | with_reducible refine ⟨_, ty_bi, ?_⟩
  | with_reducible refine ⟨_, truth_bl, ?_⟩
  | with_reducible refine ⟨_, (rfl : PV.bl _ = PV.bl _), ?_⟩
  | with_reducible refine ⟨_, (rfl : PV.int _ = PV.int _), ?_⟩
  | (with_reducible refine And.intro (Nat.le_of_ble_eq_true (by with_unfolding_all exact rfl)) ?_)
  | refine ⟨fun _ => ?_, fun e => nomatch (e : true = false)⟩
  | refine ⟨fun e => (nomatch (e : false = true)), fun _ => ?_⟩
  | refine ⟨fun e => (nomatch (e : true = false)), fun _ => ?_⟩
  | refine ⟨fun _ => ?_, fun e => nomatch (e : false = true)⟩)
theorem at_pred {L : Ln} {k : Nat} {h : PH} (hk : k < L.many) : ixP (.tup (iL L.cells)) (.int ((k : Int) - 1)) h = some (.int (L.at ((k : Int) - 1))) := by
  cases k with
  | succ j =>
    have e : (((j + 1 : Nat) : Int) - 1) = ((j : Nat) : Int) := by omega
    rw [e]
    exact at_small (by omega)
  | zero =>
    have hl : (iL L.cells).length = L.many := List.length_map _
    have e1 : ixN (iL L.cells).length (((0 : Nat) : Int) - 1) = some (L.many - 1) := by
      unfold ixN
      rw [hl, if_neg (by omega), if_pos (by omega)]
      congr 1
      omega
    unfold ixP
    dsimp only
    rw [show seqOf (.tup (iL L.cells)) h = some (iL L.cells) from rfl]
    dsimp only
    unfold atI
    rw [e1]
    show (iL L.cells)[L.many - 1]? = _
    have hk2 : L.many - 1 < L.cells.length := by
      show _ < L.many
      omega
    rw [List.getElem?_map, List.getElem?_eq_getElem hk2]
    unfold Ln.at
    have e2 : ((((0 : Nat) : Int) - 1) % (L.many : Int)).toNat = L.many - 1 := by
      have : (((0 : Nat) : Int) - 1) % (L.many : Int) = (L.many : Int) - 1 := by
        have h3 : (((0 : Nat) : Int) - 1) = ((L.many : Int) - 1) + (L.many : Int) * (-1) := by omega
        rw [h3, Int.add_mul_emod_self_left, Int.emod_eq_of_lt (by omega) (by omega)]
      rw [this]
      omega
    rw [e2, List.getD_eq_getElem?_getD, List.getElem?_eq_getElem hk2]
    rfl
theorem at_cells {L : Ln} {k : Nat} (hk : k < L.cells.length) : L.at (k : Int) = L.cells[k] := by
  unfold Ln.at
  have e : ((k : Int) % (L.many : Int)).toNat = k := by
    have : k < L.many := hk
    rw [Int.emod_eq_of_lt (by omega) (by omega), Int.toNat_natCast]
  rw [e, List.getD_eq_getElem?_getD, List.getElem?_eq_getElem hk]
  rfl
/-- the cells with these turned -/
def Ln.turn (L : Ln) (ks : List Nat) : List Int := (List.range L.many).map fun k => if k ∈ ks then L.at ((k : Int) - 1) else L.at k
theorem turn_len {L : Ln} {ks : List Nat} : (L.turn ks).length = L.many := by
  unfold Ln.turn
  rw [List.length_map, List.length_range]
theorem turn_get {L : Ln} {ks : List Nat} {k : Nat} (hk : k < (L.turn ks).length) : (L.turn ks)[k] = if k ∈ ks then L.at ((k : Int) - 1) else L.at k := by
  simp only [Ln.turn, List.getElem_map, List.getElem_range]
theorem turn_nil {L : Ln} : L.turn [] = L.cells := by
  refine List.ext_getElem turn_len fun k h1 h2 => ?_
  rw [turn_get, if_neg (by simp), at_cells h2]
theorem turn_step {L : Ln} {ks : List Nat} {j k : Nat} (e : ks[j]? = some k) : (L.turn (ks.take j)).set k (L.at ((k : Int) - 1)) = L.turn (ks.take (j + 1)) := by
  refine List.ext_getElem (by rw [List.length_set, turn_len, turn_len]) fun i h1 h2 => ?_
  rw [List.getElem_set, turn_get, turn_get]
  have m : i ∈ ks.take (j + 1) ↔ i ∈ ks.take j ∨ i = k := by
    rw [List.take_add_one, e, List.mem_append]
    simp
  by_cases hi : k = i
  · subst hi
    rw [if_pos rfl, if_pos (m.mpr (.inr rfl))]
  · rw [if_neg hi]
    have hi' : ¬ i = k := fun z => hi z.symm
    by_cases hm : i ∈ ks.take j
    · rw [if_pos hm, if_pos (m.mpr (.inl hm))]
    · rw [if_neg hm, if_neg (fun z => by rcases m.mp z with z | z; exact hm z; exact hi' z)]
def nL (ks : List Nat) : List PV := ks.map fun k => .int ((k : Nat) : Int)
def Ln.readyN (L : Ln) : List Nat := (List.range L.many).filter L.rdy
theorem ready_nL {L : Ln} : iL L.ready = nL L.readyN := by
  unfold Ln.ready Ln.readyN nL
  rw [iL, List.map_map]
  rfl
section
variable {P : Prg} {ix : Nat → Nat} {d : Nat} {h : PH} {Q : PV → PH → Prop}
theorem f_with_turned (H : Has P ix 9 cf_with_turned) {L : Ln} (G : Good1 L) {i : Nat} {ks : List Nat} (gi : h.get i = some (.lst (nL ks))) (hk : ∀ k ∈ ks, k < L.many) (hz : ks.length ≤ 900) (w : Wf h) (q : ∀ h', Le none h h' → Q (.tup (iL (L.turn ks))) h') :
    Ok (callP P 1000 (d + 1) (ix 9) [.tup (iL L.cells), .ref i] h) Q := by
  have h40 := G.most
  refine ok_def H rfl ?_
  repeat walk_at "px"
  refine ok_listOf (xs := iL L.cells) (by rfl) (by rw [List.length_map]; exact Nat.le_trans h40 (by decide)) ?_
  repeat walk_at "px"
  refine .inl ⟨i, nL ks, rfl, seqL_lst (get_old gi), ?_⟩
  have hi := get_lt gi
  refine os_forL (fun j st h' => j ≤ ks.length ∧ Le none h h' ∧ h'.get h.n = some (.lst (iL (L.turn (ks.take j)))) ∧ ∃ s3, st = [some (.tup (iL L.cells)), some (.ref i), some (.ref h.n), s3]) ks.length (fun j st h' ⟨i1, i2, i3, s3, i4⟩ => ⟨i1, ?_⟩) _ 0 _ _ (by omega) ⟨Nat.zero_le _, Le.push w, by rw [List.take_zero, turn_nil]; exact get_new, none, rfl⟩
  subst i4
  rw [iv_lst (p := none) gi (by intro z; cases z) j h' i2]
  cases e : ks[j]? with
  | none =>
    have e2 : (nL ks)[j]? = none := by
      unfold nL
      rw [List.getElem?_map, e]
      rfl
    rw [e2]
    refine .inl ⟨rfl, ?_⟩
    have ej : ks.take j = ks := List.take_of_length_le (List.getElem?_eq_none_iff.mp e)
    rw [ej] at i3
    repeat walk_at "px"
    refine ok_tupleOf (seqOf_lst i3) (by rw [List.length_map, turn_len]; exact Nat.le_trans h40 (by decide)) (q _ i2)
  | some k =>
    have e2 : (nL ks)[j]? = some (.int ((k : Nat) : Int)) := by
      unfold nL
      rw [List.getElem?_map, e]
      rfl
    rw [e2]
    refine .inr ⟨_, _, rfl, rfl, ?_⟩
    have hk1 := hk k (List.mem_of_getElem? e)
    repeat walk_at "px"
    refine ⟨_, at_pred hk1, ?_⟩
    repeat walk_at "px"
    refine ⟨_, set_lst i3 (by rw [List.length_map, turn_len]; exact hk1), ?_⟩
    repeat walk_at "px"
    have hj : j < ks.length := (List.getElem?_eq_some_iff.mp e).1
    refine ⟨hj, Le.set i2 (Nat.le_refl _) i3, ?_, _, rfl⟩
    rw [get_at_set i2.wf i3]
    have e3 : (iL (L.turn (ks.take j))).set k (.int (L.at ((k : Int) - 1))) = iL ((L.turn (ks.take j)).set k (L.at ((k : Int) - 1))) := (List.map_set ..).symm
    rw [e3, turn_step e]
theorem f_need_cell (H0 : Has P ix 0 cf_is_in) (H : Has P ix 3 cf_need_cell) {L : Ln} {k : Nat} (hk : k < L.many) (q : Q .non h) : Ok (callP P 1000 (d + 2) (ix 3) [L.v, .int k] h) Q := by
  refine ok_def H rfl ?_
  repeat walk_at "px"
  refine ⟨_, rfl, ?_⟩
  repeat walk_at "px"
  refine ok_len (xs := iL L.cells) (by rfl) ?_
  rw [List.length_map]
  repeat walk_at "px"
  have hk' : k < L.cells.length := hk
  refine f_is_in H0 (by omega) (by omega) ?_
  repeat walk_at "px"
  exact q
/-- the line with one cell turned -/
def Ln.one (L : Ln) (k : Nat) : Ln := ⟨L.turn [k], L.held, L.ring⟩
theorem f_turned (H0 : Has P ix 0 cf_is_in) (H2 : Has P ix 2 cf_is_cells) (H1 : Has P ix 1 cf_need_line) (H3 : Has P ix 3 cf_need_cell) (H4 : Has P ix 4 cf_held_in) (H5 : Has P ix 5 cf_flanks) (H6 : Has P ix 6 cf_is_flanked) (H7 : Has P ix 7 cf_ready_in) (H9 : Has P ix 9 cf_with_turned) (H : Has P ix 10 cf_turned) {L : Ln} (G : Good1 L) {k : Nat} (hk : k ∈ L.readyN) (w : Wf h)
    (q : ∀ h', Le none h h' → Q (L.one k).v h') : Ok (callP P 1000 (d + 4) (ix 10) [L.v, .int k] h) Q := by
  have hk1 : k < L.many := by
    unfold Ln.readyN at hk
    exact List.mem_range.mp (List.mem_filter.mp hk).1
  refine ok_def H rfl ?_
  repeat walk_at "px"
  refine f_need_line H0 H2 H1 G w fun h1 l1 => ?_
  repeat walk_at "px"
  refine f_need_cell H0 H3 hk1 ?_
  repeat walk_at "px"
  refine f_ready_in H4 H5 H6 H7 G l1.wf fun i h2 l2 hi g2 => ?_
  have hm : ((k : Nat) : Int) ∈ L.ready := by
    unfold Ln.ready
    exact List.mem_map.mpr ⟨k, hk, rfl⟩
  refine ⟨_, in_ints (seqOf_lst g2), ?_⟩
  rw [decide_eq_true hm]
  repeat walk_at "px"
  refine ⟨_, rfl, ?_⟩
  repeat walk_at "px"
  refine f_with_turned (ks := [k]) H9 G get_new (fun j hj => by rw [List.mem_singleton.mp hj]; exact hk1) (by show 1 ≤ 900; omega) (wf_push l2.wf) fun h3 l3 => ?_
  repeat walk_at "px"
  refine ⟨_, rfl, ?_⟩
  repeat walk_at "px"
  refine ⟨_, rfl, ?_⟩
  repeat walk_at "px"
  exact q _ ((l1.trans l2).p.trans l3)
end
end Pyx

set_option Elab.async false
set_option linter.all false
set_option maxRecDepth 100000
set_option maxHeartbeats 400000
namespace Pyx
open PySem L2
local macro_rules | `(tactic| walk_at "px") => `(tactic| first
  | (with_reducible refine ok_var (v := ?_) (by with_unfolding_all exact rfl) ?_)
  | with_reducible refine os_nil ?_
  | with_reducible refine os_cons ?_
  | with_reducible refine os_pass ?_
  | with_reducible refine os_retN ?_
  | with_reducible refine os_brk ?_
  | with_reducible refine os_cont ?_
  | with_reducible refine os_ret ?_
  | with_reducible refine os_expr ?_
  | with_reducible refine os_set ?_
  | with_reducible refine os_asg ?_
  | with_reducible refine os_par ?_
  | with_reducible refine os_par3 ?_
  | with_reducible refine os_setix ?_
  | with_reducible refine os_ite ?_
  | with_reducible refine os_for ?_
  | with_reducible refine os_while ?_
  | with_reducible refine ok_val ?_
  | with_reducible refine ok_bin ?_
  | with_reducible refine ok_neg ?_
  | with_reducible refine ok_cmp ?_
  | with_reducible refine ok_chain ?_
  | with_reducible refine ok_isin ?_
  | with_reducible refine ok_and ?_
  | with_reducible refine ok_or ?_
  | with_reducible refine ok_not ?_
  | with_reducible refine ok_ite ?_
  | with_reducible refine ok_tup ?_
  | with_reducible refine ok_lst ?_
  | with_reducible refine ok_call ?_
  | with_reducible refine ok_bi ?_
  | with_reducible refine ok_isi ?_
  | with_reducible refine ok_isis ?_
  | with_reducible refine ok_ix ?_
  | with_reducible refine ok_sl ?_
  | with_reducible refine ok_oN ?_
  | with_reducible refine ok_oS ?_
  | with_reducible refine ok_nil ?_
  | with_reducible refine ok_cons ?_
  | with_reducible refine ok_bval ?_
  | with_reducible refine ok_bbl ?_
  | with_reducible refine ok_bnot ?_
  | with_reducible refine ok_band ?_
  | with_reducible refine ok_bor ?_
  | with_reducible refine ok_ifN ?_
  | with_reducible refine ok_ifS ?_
  | with_reducible refine ok_rng1 ?_
  | with_reducible refine ok_rng2 ?_
  | with_reducible refine ok_over ?_
  | with_reducible refine ok_enum ?_
  | with_reducible refine ok_add ?_
  | with_reducible refine ok_sub ?_
  | (with_reducible refine ok_lc (by with_unfolding_all exact rfl) ?_)
  | with_reducible refine ⟨_, eq_int, ?_⟩
  | with_reducible refine ⟨_, ne_int, ?_⟩
  | with_reducible refine ⟨_, lt_int', ?_⟩
  | with_reducible refine ⟨_, le_int', ?_⟩
  | with_reducible refine ⟨_, gt_int', ?_⟩
  | with_reducible refine ⟨_, ge_int', ?_⟩
  | with_reducible refine ⟨_, eq_bl, ?_⟩
  | with_reducible refine ⟨_, ne_bl, ?_⟩
  | with_reducible refine ⟨_, ty_ii, ?_⟩
  | with_reducible refine ⟨_, ty_ib, ?_⟩
  | with_reducible refine ⟨_, ty_tt, ?_⟩
  | with_reducible refine ⟨_, ty_tl, ?_⟩
  | with_reducible refine ⟨_, ty_bb, ?_⟩
  | with_reducible refine ⟨_, ty_bi, ?_⟩
  | with_reducible refine ⟨_, truth_bl, ?_⟩
  | with_reducible refine ⟨_, (rfl : PV.bl _ = PV.bl _), ?_⟩
  | with_reducible refine ⟨_, (rfl : PV.int _ = PV.int _), ?_⟩
  | (with_reducible refine And.intro (Nat.le_of_ble_eq_true (by with_unfolding_all exact rfl)) ?_)
  | refine ⟨fun _ => ?_, fun e => nomatch (e : true = false)⟩
  | refine ⟨fun e => (nomatch (e : false = true)), fun _ => ?_⟩
  | refine ⟨fun e => (nomatch (e : true = false)), fun _ => ?_⟩
  | refine ⟨fun _ => ?_, fun e => nomatch (e : false = true)⟩)
theorem ok_int {h : PH} {Q : PV → PH → Prop} {i : Int} (q : Q (.int i) h) : Ok (biP .int [.int i] h) Q := q
theorem ok_pow {h : PH} {Q : PV → PH → Prop} {i j : Int} (h1 : 0 ≤ j) (h2 : j ≤ 1000000) (h3 : i.natAbs < 18446744073709551616) (q : Q (.int (i ^ j.toNat)) h) : Ok (binP .pow (.int i) (.int j) h) Q := by
  unfold binP
  dsimp only
  rw [decide_eq_true h1, decide_eq_true h2, show Nat.blt i.natAbs 18446744073709551616 = true from Nat.ble_eq_true_of_le h3]
  exact q
theorem ix0 {h : PH} {a : Nat} {x : PV} {xs : List PV} (e : h.get a = some (.lst (x :: xs))) : ixP (.ref a) (.int 0) h = some x := by
  unfold ixP
  dsimp only
  rw [seqOf_lst e]
  exact atI_nat (xs := x :: xs) (j := 0) rfl
theorem ix1 {h : PH} {a : Nat} {x y : PV} {xs : List PV} (e : h.get a = some (.lst (x :: y :: xs))) : ixP (.ref a) (.int 1) h = some y := by
  unfold ixP
  dsimp only
  rw [seqOf_lst e]
  exact atI_nat (xs := x :: y :: xs) (j := 1) rfl
theorem ix2 {h : PH} {a : Nat} {x y z : PV} {xs : List PV} (e : h.get a = some (.lst (x :: y :: z :: xs))) : ixP (.ref a) (.int 2) h = some z := by
  unfold ixP
  dsimp only
  rw [seqOf_lst e]
  exact atI_nat (xs := x :: y :: z :: xs) (j := 2) rfl
theorem ix3 {h : PH} {a : Nat} {x y z u : PV} {xs : List PV} (e : h.get a = some (.lst (x :: y :: z :: u :: xs))) : ixP (.ref a) (.int 3) h = some u := by
  unfold ixP
  dsimp only
  rw [seqOf_lst e]
  exact atI_nat (xs := x :: y :: z :: u :: xs) (j := 3) rfl
theorem set1 {h : PH} {a : Nat} {x y z u v : PV} (e : h.get a = some (.lst [x, y, z, u])) : setP (.ref a) (.int 1) v h = some (h.set a (.lst [x, v, z, u])) := by
  unfold setP lstAt
  dsimp only
  rw [e]
  rfl
theorem set2 {h : PH} {a : Nat} {x y z u v : PV} (e : h.get a = some (.lst [x, y, z, u])) : setP (.ref a) (.int 2) v h = some (h.set a (.lst [x, y, v, u])) := by
  unfold setP lstAt
  dsimp only
  rw [e]
  rfl
theorem set3 {h : PH} {a : Nat} {x y z u v : PV} (e : h.get a = some (.lst [x, y, z, u])) : setP (.ref a) (.int 3) v h = some (h.set a (.lst [x, y, z, v])) := by
  unfold setP lstAt
  dsimp only
  rw [e]
  rfl
/-- the row is rewritten -/
theorem Le.rowset {h0 h : PH} {i : Nat} {ns : List Int} {xs : List PV} {q s r : Int} (l : Le (some i) h0 h) (hi : i ≠ 0) (e0 : h.get 0 = some (.fz (ns.map PV.int))) (e : h.get i = some (.lst xs)) (hq : 0 ≤ q) : Le (some i) h0 (h.set i (.lst [.ref 0, .int q, .int s, .int r])) := by
  refine ⟨wf_set l.wf, l.n, fun j o k ej => get_of_set l.wf e (l.get j o k ej) (fun z => k (by rw [z])), fun j k _ => ?_⟩
  cases k
  exact ⟨ns, q, s, r, get_of_set l.wf e e0 (fun z => hi z.symm), get_at_set l.wf e, hq⟩
section
variable {P : Prg} {ix : Nat → Nat} {d : Nat} {h : PH} {Q : PV → PH → Prop}
theorem f_taken (H : Has P ix 38 cf__law_taken) {i : Nat} {m : Int} (hi : i ≠ 0) (R : RowAt h i) (w : Wf h) (hm : 0 < m) (hm2 : m < 1073741824) (k : ∀ x h', 0 ≤ x → x < m → Le (some i) h h' → Q (.int x) h') : Ok (callP P 1000 (d + 1) (ix 38) [.ref i, .int m] h) Q := by
  obtain ⟨ns, q, s, r, e0, e1, hq⟩ := R
  have lr : Le (some i) h h := Le.refl w
  have md : ∀ x : Int, 0 ≤ x % m ∧ x % m < m := fun x => ⟨Int.emod_nonneg x (by omega), Int.emod_lt_of_pos x hm⟩
  refine ok_def H rfl ?_
  repeat walk_at "px"
  refine ⟨_, ix3 e1, ?_⟩
  repeat walk_at "px"
  refine ⟨fun _ => ?_, fun _ => ?_⟩
  · repeat walk_at "px"
    refine ⟨_, ix3 e1, ?_⟩
    repeat walk_at "px"
    refine ok_int ?_
    repeat walk_at "px"
    refine ok_mod hm ?_
    repeat walk_at "px"
    refine ⟨_, ix3 e1, ?_⟩
    repeat walk_at "px"
    refine ok_fdiv ⟨hm, hm2⟩ ?_
    repeat walk_at "px"
    refine ⟨_, set3 e1, ?_⟩
    repeat walk_at "px"
    exact k _ _ (md _).1 (md _).2 (lr.rowset hi e0 e1 hq)
  · repeat walk_at "px"
    refine ⟨_, ix1 e1, ?_⟩
    repeat walk_at "px"
    refine ⟨_, set1 e1, ?_⟩
    have l1 : Le (some i) h (h.set i (.lst [.ref 0, .int (q + 1), .int s, .int r])) := lr.rowset hi e0 e1 (by omega)
    have e2 : (h.set i (.lst [.ref 0, .int (q + 1), .int s, .int r])).get i = some (.lst [.ref 0, .int (q + 1), .int s, .int r]) := get_at_set w e1
    have e3 : (h.set i (.lst [.ref 0, .int (q + 1), .int s, .int r])).get 0 = some (.fz (ns.map PV.int)) := get_of_set w e1 e0 (fun z => hi z.symm)
    generalize h.set i (.lst [.ref 0, .int (q + 1), .int s, .int r]) = h1 at l1 e2 e3 ⊢
    repeat walk_at "px"
    refine ⟨_, ix1 e2, ?_⟩
    repeat walk_at "px"
    refine ⟨_, ix0 e2, ?_⟩
    repeat walk_at "px"
    refine ok_len (seqOf_fz e3) ?_
    rw [List.length_map]
    repeat walk_at "px"
    refine ⟨fun _ => ?_, fun e4 => ?_⟩
    · repeat walk_at "px"
      refine ⟨_, ix2 e2, ?_⟩
      repeat walk_at "px"
      refine ok_mulR rfl ?_
      repeat walk_at "px"
      refine ok_int ?_
      repeat walk_at "px"
      refine ok_mod (by decide) ?_
      repeat walk_at "px"
      refine ⟨_, set2 e2, ?_⟩
      have l5 := l1.rowset (q := q + 1) (s := (s * 48271 + 11) % 2147483647) (r := r) hi e3 e2 (by omega)
      have e5 := get_at_set (o := PO.lst [.ref 0, .int (q + 1), .int ((s * 48271 + 11) % 2147483647), .int r]) l1.wf e2
      repeat walk_at "px"
      refine ⟨_, ix2 e5, ?_⟩
      repeat walk_at "px"
      refine ok_fdiv (by decide) ?_
      repeat walk_at "px"
      refine ok_int ?_
      repeat walk_at "px"
      refine ok_mod hm ?_
      exact k _ _ (md _).1 (md _).2 l5
    · have e4 := of_decide_eq_false e4
      have hlt : q.toNat < ns.length := by omega
      repeat walk_at "px"
      refine ⟨_, ix0 e2, ?_⟩
      repeat walk_at "px"
      refine ⟨_, ix1 e2, ?_⟩
      repeat walk_at "px"
      have e6 : ixP (.ref 0) (.int (q + 1 - 1)) h1 = some (.int ns[q.toNat]) := by
        rw [show q + 1 - 1 = ((q.toNat : Nat) : Int) by omega]
        refine ix_of_nat (seqOf_fz e3) ?_
        rw [List.getElem?_map, List.getElem?_eq_getElem hlt]
        rfl
      refine ⟨_, e6, ?_⟩
      generalize ns[q.toNat] = c at e6 ⊢
      repeat walk_at "px"
      refine ⟨_, ix2 e2, ?_⟩
      repeat walk_at "px"
      refine ok_mulR rfl ?_
      repeat walk_at "px"
      refine ok_int ?_
      repeat walk_at "px"
      refine ok_mod (by decide) ?_
      repeat walk_at "px"
      refine ⟨_, set2 e2, ?_⟩
      have l5 := l1.rowset (q := q + 1) (s := (s * 48271 + c + 11) % 2147483647) (r := r) hi e3 e2 (by omega)
      have e5 := get_at_set (o := PO.lst [.ref 0, .int (q + 1), .int ((s * 48271 + c + 11) % 2147483647), .int r]) l1.wf e2
      have e7 := get_of_set (o := PO.lst [.ref 0, .int (q + 1), .int ((s * 48271 + c + 11) % 2147483647), .int r]) l1.wf e2 e3 (fun z => hi z.symm)
      generalize h1.set i (.lst [.ref 0, .int (q + 1), .int ((s * 48271 + c + 11) % 2147483647), .int r]) = h2 at l5 e5 e7 ⊢
      repeat walk_at "px"
      refine ok_pow (by decide) (by decide) (by decide) ?_
      repeat walk_at "px"
      refine ⟨fun _ => ?_, fun _ => ?_⟩
      · repeat walk_at "px"
        refine ok_fdiv ⟨hm, hm2⟩ ?_
        repeat walk_at "px"
        refine ⟨_, set3 e5, ?_⟩
        repeat walk_at "px"
        refine ok_int ?_
        repeat walk_at "px"
        refine ok_mod hm ?_
        exact k _ _ (md _).1 (md _).2 (l5.rowset hi e7 e5 (by omega))
      · repeat walk_at "px"
        refine ok_int ?_
        repeat walk_at "px"
        refine ok_mod hm ?_
        exact k _ _ (md _).1 (md _).2 l5
theorem Le.rowAt {i : Nat} {h h' : PH} (l : Le (some i) h h') (R : RowAt h i) : RowAt h' i := l.row i rfl R
theorem f_pick (H38 : Has P ix 38 cf__law_taken) (H : Has P ix 39 cf__law_pick) {i j : Nat} {xs : List PV} (hi : i ≠ 0) (R : RowAt h i) (w : Wf h) (ne : j ≠ i) (ej : h.get j = some (.lst xs)) (h0 : 0 < xs.length) (h9 : xs.length ≤ 1000)
    (k : ∀ (n : Nat) (x : PV) (h' : PH), xs[n]? = some x → Le (some i) h h' → Q x h') : Ok (callP P 1000 (d + 2) (ix 39) [.ref i, .ref j] h) Q := by
  refine ok_def H rfl ?_
  repeat walk_at "px"
  refine ok_len (seqOf_lst ej) ?_
  repeat walk_at "px"
  refine f_taken H38 hi R w (by omega) (by omega) fun x h1 x0 x1 l1 => ?_
  have e1 := l1.get j _ (fun z => ne (by injection z with z; exact z.symm)) ej
  have hx : x.toNat < xs.length := by omega
  have e2 : ixP (.ref j) (.int ((x.toNat : Nat) : Int)) h1 = some xs[x.toNat] := ix_of_nat (seqOf_lst e1) (List.getElem?_eq_getElem hx)
  rw [Int.toNat_of_nonneg x0] at e2
  exact ⟨_, e2, k x.toNat _ _ (List.getElem?_eq_getElem hx) l1⟩
end
end Pyx

set_option Elab.async false
set_option linter.all false
set_option maxRecDepth 100000
set_option maxHeartbeats 400000
namespace Pyx
open PySem L2
local macro_rules | `(tactic| walk_at "px") => `(tactic| first
  | (with_reducible refine ok_var (v := ?_) (by with_unfolding_all exact rfl) ?_)
  | with_reducible refine os_nil ?_
  | with_reducible refine os_cons ?_
  | with_reducible refine os_pass ?_
  | with_reducible refine os_retN ?_
  | with_reducible refine os_brk ?_
  | with_reducible refine os_cont ?_
  | with_reducible refine os_ret ?_
  | with_reducible refine os_expr ?_
  | with_reducible refine os_set ?_
  | with_reducible refine os_asg ?_
  | with_reducible refine os_par ?_
  | with_reducible refine os_par3 ?_
  | with_reducible refine os_setix ?_
  | with_reducible refine os_ite ?_
  | with_reducible refine os_for ?_
  | with_reducible refine os_while ?_
  | with_reducible refine ok_val ?_
  | with_reducible refine ok_bin ?_
  | with_reducible refine ok_neg ?_
  | with_reducible refine ok_cmp ?_
  | with_reducible refine ok_chain ?_
  | with_reducible refine ok_isin ?_
  | with_reducible refine ok_and ?_
  | with_reducible refine ok_or ?_
  | with_reducible refine ok_not ?_
  | with_reducible refine ok_ite ?_
  | with_reducible refine ok_tup ?_
  | with_reducible refine ok_lst ?_
  | with_reducible refine ok_call ?_
  | with_reducible refine ok_bi ?_
  | with_reducible refine ok_isi ?_
  | with_reducible refine ok_isis ?_
  | with_reducible refine ok_ix ?_
  | with_reducible refine ok_sl ?_
  | with_reducible refine ok_oN ?_
  | with_reducible refine ok_oS ?_
  | with_reducible refine ok_nil ?_
  | with_reducible refine ok_cons ?_
  | with_reducible refine ok_bval ?_
  | with_reducible refine ok_bbl ?_
  | with_reducible refine ok_bnot ?_
  | with_reducible refine ok_band ?_
  | with_reducible refine ok_bor ?_
  | with_reducible refine ok_ifN ?_
  | with_reducible refine ok_ifS ?_
  | with_reducible refine ok_rng1 ?_
  | with_reducible refine ok_rng2 ?_
  | with_reducible refine ok_over ?_
  | with_reducible refine ok_enum ?_
  | with_reducible refine ok_add ?_
  | with_reducible refine ok_sub ?_
  | (with_reducible refine ok_lc (by with_unfolding_all exact rfl) ?_)
  | with_reducible refine ⟨_, eq_int, ?_⟩
  | with_reducible refine ⟨_, ne_int, ?_⟩
  | with_reducible refine ⟨_, lt_int', ?_⟩
  | with_reducible refine ⟨_, le_int', ?_⟩
  | with_reducible refine ⟨_, gt_int', ?_⟩
  | with_reducible refine ⟨_, ge_int', ?_⟩
  | with_reducible refine ⟨_, eq_bl, ?_⟩
  | with_reducible refine ⟨_, ne_bl, ?_⟩
  | with_reducible refine ⟨_, ty_ii, ?_⟩
  | with_reducible refine ⟨_, ty_ib, ?_⟩
  | with_reducible refine ⟨_, ty_tt, ?_⟩
  | with_reducible refine ⟨_, ty_tl, ?_⟩
  | with_reducible refine ⟨_, ty_bb, ?_⟩
  | with_reducible refine ⟨_, ty_bi, ?_⟩
  | with_reducible refine ⟨_, truth_bl, ?_⟩
  | with_reducible refine ⟨_, (rfl : PV.bl _ = PV.bl _), ?_⟩
  | with_reducible refine ⟨_, (rfl : PV.int _ = PV.int _), ?_⟩
  | (with_reducible refine And.intro (Nat.le_of_ble_eq_true (by with_unfolding_all exact rfl)) ?_)
  | refine ⟨fun _ => ?_, fun e => nomatch (e : true = false)⟩
  | refine ⟨fun e => (nomatch (e : false = true)), fun _ => ?_⟩
  | refine ⟨fun e => (nomatch (e : true = false)), fun _ => ?_⟩
  | refine ⟨fun _ => ?_, fun e => nomatch (e : false = true)⟩)
theorem srt_len : ∀ (ks : List Nat) (a m : Nat), ks.Pairwise (· < ·) → (∀ x ∈ ks, a ≤ x ∧ x < a + m) → ks.length ≤ m
  | [], _, _, _, _ => Nat.zero_le _
  | x :: r, a, m, h1, h2 => by
    obtain ⟨p1, p2⟩ := List.pairwise_cons.mp h1
    have y := h2 x List.mem_cons_self
    have z := srt_len r (x + 1) (a + m - (x + 1)) p2 fun k hk => by
      have h3 := p1 k hk
      have h4 := h2 k (List.mem_cons_of_mem _ hk)
      omega
    rw [List.length_cons]
    omega
theorem ok_slL {h : PH} {Q : PV → PH → Prop} {a : Nat} {xs : List PV} {lo hi : Option Int} (e : seqL (.ref a) h = some xs) (z : xs.length ≤ 100000) (q : Q (.ref h.n) (h.push (.lst (cutP xs lo hi)))) : Ok (slP (.ref a) lo hi h) Q := by
  unfold slP
  dsimp only
  rw [e]
  dsimp only
  unfold okL small
  have z2 : (cutP xs lo hi).length ≤ 100000 := by
    unfold cutP
    rw [List.length_take, List.length_drop]
    omega
  rw [Nat.ble_eq_true_of_le z2]
  exact q
theorem cut_take (xs : List PV) (m : Nat) : cutP xs none (some (m : Int)) = xs.take m := by
  unfold cutP
  rw [HT.sIx_nat, HT.sIx_none, List.drop_zero, Nat.sub_zero]
  by_cases h : m ≤ xs.length
  · rw [Nat.min_eq_left h]
  · rw [Nat.min_eq_right (by omega), List.take_length, List.take_of_length_le (by omega)]
section
variable {P : Prg} {ix : Nat → Nat} {d : Nat} {h : PH} {Q : PV → PH → Prop}
theorem f_line (H38 : Has P ix 38 cf__law_taken) (H39 : Has P ix 39 cf__law_pick) (H : Has P ix 40 cf__law_line) {i : Nat} {most col : Int} (hi : i ≠ 0) (R : RowAt h i) (w : Wf h) (h3 : 3 ≤ most) (h40 : most ≤ 40) (c1 : 1 ≤ col) (c10 : col ≤ 10)
    (k : ∀ (L : Ln) (h' : PH), Good1 L → (L.many : Int) ≤ most → (∀ c ∈ L.cells, c < col) → Le (some i) h h' → Q L.v h') : Ok (callP P 1000 (d + 3) (ix 40) [.ref i, .int most, .int col] h) Q := by
  have hin : i < h.n := by
    obtain ⟨_, _, _, _, _, e, _⟩ := R
    exact get_lt e
  refine ok_def H rfl ?_
  repeat walk_at "px"
  refine f_taken H38 hi R w (by decide) (by decide) fun x1 h1 _ _ l1 => ?_
  refine ok_val ⟨_, eq_int, ?_⟩
  generalize decide (x1 = 0) = ring
  refine os_cons (os_set (Ok.mono (Q := fun v h2 => ∃ m : Nat, v = .int (m : Int) ∧ 1 ≤ m ∧ (ring = true → 3 ≤ m) ∧ (m : Int) ≤ most ∧ Le (some i) h h2) ?A ?B))
  case A =>
    repeat walk_at "px"
    refine ⟨fun e => ?_, fun e => ?_⟩
    · repeat walk_at "px"
      refine f_taken H38 hi (l1.rowAt R) l1.wf (by omega) (by omega) fun x2 h2 a b l2 => ?_
      repeat walk_at "px"
      exact ⟨(3 + x2).toNat, by rw [Int.toNat_of_nonneg (by omega)], by omega, fun _ => by omega, by omega, l1.trans l2⟩
    · repeat walk_at "px"
      refine f_taken H38 hi (l1.rowAt R) l1.wf (by omega) (by omega) fun x2 h2 a b l2 => ?_
      repeat walk_at "px"
      exact ⟨(1 + x2).toNat, by rw [Int.toNat_of_nonneg (by omega)], by omega, fun z => absurd (e.symm.trans z) (by decide), by omega, l1.trans l2⟩
  case B =>
    rintro v h2 ⟨m, rfl, m1, m3, mm, l2⟩
    repeat walk_at "px"
    refine f_taken H38 hi (l2.rowAt R) l2.wf (by decide) (by decide) fun way h3' w0 w4 l3 => ?_
    have l3 := l2.trans l3
    repeat walk_at "px"
    refine f_taken H38 hi (l3.rowAt R) l3.wf (by omega) (by omega) fun ca h4 ca0 ca1 l4 => ?_
    have l4 := l3.trans l4
    repeat walk_at "px"
    refine f_taken H38 hi (l4.rowAt R) l4.wf (by omega) (by omega) fun cb h5 cb0 cb1 l5 => ?_
    have l5 := l4.trans l5
    repeat walk_at "px"
    refine ⟨⟨by omega, by omega, by omega, by omega⟩, ?_⟩
    refine os_forL (fun j st h' => j ≤ ((m : Int) - 2).toNat ∧ Le (some i) h h' ∧ ∃ (cs : List Int) (s7 s8 : Option PV), h'.get h5.n = some (.lst (iL cs)) ∧ cs.length = 2 + j ∧ (∀ c ∈ cs, 0 ≤ c ∧ c < col) ∧
        st = [some (.ref i), some (.int most), some (.int col), some (.bl ring), some (.int (m : Int)), some (.int way), some (.ref h5.n), s7, s8, none, none]) ((m : Int) - 2).toNat (fun j st h' ⟨i1, i2, cs, s7, s8, i3, i4, i5, i6⟩ => ⟨i1, ?_⟩) _ 0 _ _ (by omega)
      ⟨Nat.zero_le _, l5.p, [ca, cb], none, none, get_new, rfl, fun c hc => by
        rcases List.mem_cons.mp hc with e | hc
        · rw [e]; exact ⟨ca0, ca1⟩
        · rw [List.mem_singleton.mp hc]; exact ⟨cb0, cb1⟩, rfl⟩
    subst i6
    rw [iv_rng]
    have hne : some i ≠ some h5.n := fun z => by
      injection z with z
      have := l5.n
      omega
    by_cases hj : j < ((m : Int) - 2).toNat
    · have e : (rng 2 ((m : Int) - 2).toNat)[j]? = some (.int (2 + (j : Nat))) := by
        unfold rng
        rw [List.getElem?_map, List.getElem?_range hj]
        rfl
      rw [e]
      refine .inr ⟨_, _, rfl, rfl, ?_⟩
      repeat walk_at "px"
      refine f_taken H38 hi (i2.rowAt R) i2.wf (by omega) (by omega) fun fr h6 f0 f1 l6 => ?_
      have g6 := l6.get _ _ hne i3
      have l6 := i2.trans l6
      repeat walk_at "px"
      refine ok_mt (ok_var rfl ⟨⟨_, seqL_lst g6⟩, ?_⟩)
      refine ok_cons (Ok.mono (Q := fun v h' => ∃ c : Int, v = .int c ∧ 0 ≤ c ∧ c < col ∧ Le (some i) h6 h') ?C ?D)
      case C =>
        repeat walk_at "px"
        refine ⟨fun _ => ?_, fun _ => ?_⟩
        · repeat walk_at "px"
          refine f_taken H38 hi (l6.rowAt R) l6.wf (by decide) (by decide) fun x7 h7 _ _ l7 => ?_
          have g7 := l7.get _ _ hne g6
          repeat walk_at "px"
          refine ⟨fun _ => ?_, fun _ => ?_⟩
          · repeat walk_at "px"
            have hj2 : j < cs.length := by omega
            have e7 : ixP (.ref h5.n) (.int (2 + (j : Nat) - 2)) h7 = some (.int cs[j]) := by
              rw [show (2 + ((j : Nat) : Int) - 2) = ((j : Nat) : Int) by omega]
              refine ix_of_nat (seqOf_lst g7) ?_
              rw [List.getElem?_map, List.getElem?_eq_getElem hj2]
              rfl
            have c0 := i5 _ (List.getElem_mem hj2)
            exact ⟨_, e7, _, rfl, c0.1, c0.2, l7⟩
          · repeat walk_at "px"
            exact ⟨f0, f1, l7⟩
        · repeat walk_at "px"
          exact ⟨f0, f1, Le.refl l6.wf⟩
      case D =>
        rintro v h7 ⟨c, rfl, c0, c9, l7⟩
        have g7 := l7.get _ _ hne g6
        have l7 := l6.trans l7
        repeat walk_at "px"
        refine ok_append g7 (by rw [List.length_map]; omega) ?_
        repeat walk_at "px"
        refine ⟨by omega, Le.set l7 (by have := l5.n; omega) g7, cs ++ [c], _, _, ?_, by rw [List.length_append, i4, List.length_singleton]; omega, fun y hy => ?_, rfl⟩
        · rw [get_at_set l7.wf g7, ← iL_app]
          rfl
        · rcases List.mem_append.mp hy with hy | hy
          · exact i5 y hy
          · rw [List.mem_singleton.mp hy]
            exact ⟨c0, c9⟩
    · have ej : j = ((m : Int) - 2).toNat := by omega
      have e : (rng 2 ((m : Int) - 2).toNat)[j]? = none := List.getElem?_eq_none (by rw [rng_len]; omega)
      rw [e]
      refine .inl ⟨rfl, ?_⟩
      have hin' : i < h'.n := by
        have := i2.n
        omega
      repeat walk_at "px"
      refine f_pick H38 H39 hi ((i2.p (o := PO.lst [.int 3, .int 6, .int 40])).rowAt R) (wf_push i2.wf) (fun z => by omega) get_new (by show 0 < 3; omega) (by show 3 ≤ 1000; omega) fun n x h7 en l7 => ?_
      have g7 := l7.get _ _ hne (get_old i3)
      have l7 := i2.p.trans l7
      have ht : ∃ t : Int, x = .int t ∧ 0 < t ∧ t < 1073741824 := by
        match n, en with
        | 0, en => cases en; exact ⟨3, rfl, by decide, by decide⟩
        | 1, en => cases en; exact ⟨6, rfl, by decide, by decide⟩
        | 2, en => cases en; exact ⟨40, rfl, by decide, by decide⟩
        | n + 3, en => cases en
      obtain ⟨t, rfl, t0, t1⟩ := ht
      repeat walk_at "px"
      refine ⟨⟨by omega, by omega⟩, ?_⟩
      rw [Int.toNat_natCast]
      refine ok_lcI (some i) (rng 0 m) h7 l7.wf (fun a e => by cases e; have := l7.n; omega) (fun k h' _ => iv_rng k h') (by rw [rng_len]; omega) (fun k acc => ∃ ks : List Nat, acc = nL ks ∧ ks.Pairwise (· < ·) ∧ ∀ x ∈ ks, x < k) ⟨[], rfl, List.Pairwise.nil, fun x hx => (nomatch hx)⟩ (fun k v acc h8 e i8 l8 => ?_) (fun acc h8 i8 _ l8 g8 => ?_) (by rw [rng_len]; omega)
      · obtain ⟨hk, rfl⟩ := rng_at e
        rw [Int.zero_add] at e ⊢
        obtain ⟨ks, rfl, k1, k2⟩ := i8
        refine ⟨_, rfl, ?_⟩
        repeat walk_at "px"
        have l8' := l7.trans l8
        refine f_taken H38 hi (l8'.rowAt R) l8'.wf t0 t1 fun x9 h9 _ _ l9 => ?_
        repeat walk_at "px"
        refine ⟨l9, fun _ => ⟨ks, rfl, k1, fun x hx => Nat.lt_succ_of_lt (k2 x hx)⟩, fun _ => ?_⟩
        repeat walk_at "px"
        refine ⟨Le.refl l9.wf, ks ++ [k], ?_, ?_, fun x hx => ?_⟩
        · unfold nL
          rw [List.map_append]
          rfl
        · exact List.pairwise_append.mpr ⟨k1, List.pairwise_singleton _ _, fun a ha b hb => by rw [List.mem_singleton.mp hb]; exact k2 a ha⟩
        · rcases List.mem_append.mp hx with hx | hx
          · exact Nat.lt_succ_of_lt (k2 x hx)
          · rw [List.mem_singleton.mp hx]
            exact Nat.lt_succ_self _
      · obtain ⟨ks, rfl, k1, k2⟩ := i8
        rw [rng_len] at k2
        have g9 := l8.get _ _ hne g7
        have l8' := l7.trans l8
        have klen : ks.length ≤ m := srt_len ks 0 m k1 fun x hx => ⟨Nat.zero_le _, by have := k2 x hx; omega⟩
        repeat walk_at "px"
        refine ok_tupleOf (seqOf_lst g8) (by unfold nL; rw [List.length_map]; omega) ?_
        repeat walk_at "px"
        refine ok_slL (seqL_lst g9) (by rw [List.length_map]; omega) ?_
        rw [cut_take]
        repeat walk_at "px"
        refine ok_tupleOf (seqOf_lst get_new) (by rw [List.length_take]; omega) ?_
        repeat walk_at "px"
        have hlen : (cs.take m).length = m := by
          rw [List.length_take]
          omega
        have fin := k ⟨cs.take m, ks.map (fun k => ((k : Nat) : Int)), ring⟩ _ ⟨?g1, ?g2, ?g3, ?g4, ?g5, ?g6⟩ (by show (((cs.take m).length : Nat) : Int) ≤ most; rw [hlen]; exact mm) (fun c hc => (i5 c (List.mem_of_mem_take hc)).2) (l8'.p (o := PO.lst ((iL cs).take m)))
        case g1 => show 1 ≤ (cs.take m).length; rw [hlen]; exact m1
        case g2 => intro z; show 3 ≤ (cs.take m).length; rw [hlen]; exact m3 z
        case g3 => show (cs.take m).length ≤ 40; rw [hlen]; omega
        case g4 => intro c hc; have := i5 c (List.mem_of_mem_take hc); omega
        case g5 => exact List.pairwise_map.mpr (k1.imp fun h => by omega)
        case g6 =>
          intro x hx
          obtain ⟨y, hy, rfl⟩ := List.mem_map.mp hx
          have := k2 y hy
          show 0 ≤ ((y : Nat) : Int) ∧ ((y : Nat) : Int) < (((cs.take m).length : Nat) : Int)
          rw [hlen]
          omega
        have e9 : Ln.v ⟨cs.take m, ks.map (fun k => ((k : Nat) : Int)), ring⟩ = .tup [.tup ((iL cs).take m), .tup (nL ks), .bl ring] := by
          unfold Ln.v nL
          rw [iL, List.map_take, iL, List.map_map]
          rfl
        rw [e9] at fin
        exact fin
end
end Pyx

set_option Elab.async false
set_option linter.all false
set_option maxRecDepth 100000
set_option maxHeartbeats 400000
namespace Pyx
open PySem L2
local macro_rules | `(tactic| walk_at "px") => `(tactic| first
  | (with_reducible refine ok_var (v := ?_) (by with_unfolding_all exact rfl) ?_)
  | with_reducible refine os_nil ?_
  | with_reducible refine os_cons ?_
  | with_reducible refine os_pass ?_
  | with_reducible refine os_retN ?_
  | with_reducible refine os_brk ?_
  | with_reducible refine os_cont ?_
  | with_reducible refine os_ret ?_
  | with_reducible refine os_expr ?_
  | with_reducible refine os_set ?_
  | with_reducible refine os_asg ?_
  | with_reducible refine os_par ?_
  | with_reducible refine os_par3 ?_
  | with_reducible refine os_setix ?_
  | with_reducible refine os_ite ?_
  | with_reducible refine os_for ?_
  | with_reducible refine os_while ?_
  | with_reducible refine ok_val ?_
  | with_reducible refine ok_bin ?_
  | with_reducible refine ok_neg ?_
  | with_reducible refine ok_cmp ?_
  | with_reducible refine ok_chain ?_
  | with_reducible refine ok_isin ?_
  | with_reducible refine ok_and ?_
  | with_reducible refine ok_or ?_
  | with_reducible refine ok_not ?_
  | with_reducible refine ok_ite ?_
  | with_reducible refine ok_tup ?_
  | with_reducible refine ok_lst ?_
  | with_reducible refine ok_call ?_
  | with_reducible refine ok_bi ?_
  | with_reducible refine ok_isi ?_
  | with_reducible refine ok_isis ?_
  | with_reducible refine ok_ix ?_
  | with_reducible refine ok_sl ?_
  | with_reducible refine ok_oN ?_
  | with_reducible refine ok_oS ?_
  | with_reducible refine ok_nil ?_
  | with_reducible refine ok_cons ?_
  | with_reducible refine ok_bval ?_
  | with_reducible refine ok_bbl ?_
  | with_reducible refine ok_bnot ?_
  | with_reducible refine ok_band ?_
  | with_reducible refine ok_bor ?_
  | with_reducible refine ok_ifN ?_
  | with_reducible refine ok_ifS ?_
  | with_reducible refine ok_rng1 ?_
  | with_reducible refine ok_rng2 ?_
  | with_reducible refine ok_over ?_
  | with_reducible refine ok_enum ?_
  | with_reducible refine ok_add ?_
  | with_reducible refine ok_sub ?_
  | (with_reducible refine ok_lc (by with_unfolding_all exact rfl) ?_)
  | with_reducible refine ⟨_, eq_int, ?_⟩
  | with_reducible refine ⟨_, ne_int, ?_⟩
  | with_reducible refine ⟨_, lt_int', ?_⟩
  | with_reducible refine ⟨_, le_int', ?_⟩
  | with_reducible refine ⟨_, gt_int', ?_⟩
  | with_reducible refine ⟨_, ge_int', ?_⟩
  | with_reducible refine ⟨_, eq_bl, ?_⟩
  | with_reducible refine ⟨_, ne_bl, ?_⟩
  | with_reducible refine ⟨_, ty_ii, ?_⟩
  | with_reducible refine ⟨_, ty_ib, ?_⟩
  | with_reducible refine ⟨_, ty_tt, ?_⟩
  | with_reducible refine ⟨_, ty_tl, ?_⟩
  | with_reducible refine ⟨_, ty_bb, ?_⟩
  | with_reducible refine ⟨_, ty_bi, ?_⟩
  | with_reducible refine ⟨_, truth_bl, ?_⟩
  | with_reducible refine ⟨_, (rfl : PV.bl _ = PV.bl _), ?_⟩
  | with_reducible refine ⟨_, (rfl : PV.int _ = PV.int _), ?_⟩
  | (with_reducible refine And.intro (Nat.le_of_ble_eq_true (by with_unfolding_all exact rfl)) ?_)
  | refine ⟨fun _ => ?_, fun e => nomatch (e : true = false)⟩
  | refine ⟨fun e => (nomatch (e : false = true)), fun _ => ?_⟩
  | refine ⟨fun e => (nomatch (e : true = false)), fun _ => ?_⟩
  | refine ⟨fun _ => ?_, fun e => nomatch (e : false = true)⟩)
theorem at_succ {L : Ln} {k : Nat} {h : PH} (hk : k < L.many) : ixP (.tup (iL L.cells)) (.int ((k : Int) + 1 - (L.many : Int))) h = some (.int (L.at ((k : Int) + 1))) := by
  have hl : (iL L.cells).length = L.many := List.length_map _
  by_cases h1 : k + 1 = L.many
  · have e : (k : Int) + 1 - (L.many : Int) = ((0 : Nat) : Int) := by omega
    rw [e, at_small (by omega)]
    unfold Ln.at
    have e2 : ((k : Int) + 1) % (L.many : Int) = 0 := by
      rw [show (k : Int) + 1 = (L.many : Int) by omega, Int.emod_self]
    have e3 : ((((0 : Nat) : Int)) % (L.many : Int)) = 0 := Int.zero_emod _
    rw [e2, e3]
  · have e1 : ixN (iL L.cells).length ((k : Int) + 1 - (L.many : Int)) = some (k + 1) := by
      unfold ixN
      rw [hl, if_neg (by omega), if_pos (by omega)]
      congr 1
      omega
    unfold ixP
    dsimp only
    rw [show seqOf (.tup (iL L.cells)) h = some (iL L.cells) from rfl]
    dsimp only
    unfold atI
    rw [e1]
    show (iL L.cells)[k + 1]? = _
    have hk2 : k + 1 < L.cells.length := by
      have : k + 1 ≠ L.many := h1
      show k + 1 < L.many
      omega
    rw [List.getElem?_map, List.getElem?_eq_getElem hk2, show (k : Int) + 1 = ((k + 1 : Nat) : Int) by omega, at_cells hk2]
    rfl
theorem nL_succ (c : Nat → Bool) (k : Nat) : nL ((List.range (k + 1)).filter c) = nL ((List.range k).filter c) ++ (if c k then [.int ((k : Nat) : Int)] else []) := filter_step c _ k
theorem nL_len {ks : List Nat} : (nL ks).length = ks.length := List.length_map _
theorem fr_len (c : Nat → Bool) (k : Nat) : ((List.range k).filter c).length ≤ k := by
  have z := List.length_filter_le c (List.range k)
  rw [List.length_range] at z
  exact z
section
variable {P : Prg} {ix : Nat → Nat} {d : Nat} {h : PH} {Q : PV → PH → Prop}
theorem nL_ints (ks : List Nat) : nL ks = iL (ks.map fun k => ((k : Nat) : Int)) := by
  unfold nL
  rw [iL, List.map_map]
  rfl
theorem in_nL {v : PV} {ks : List Nat} {k : Nat} (e : seqOf v h = some (nL ks)) : inP (.int (k : Int)) v h = some (decide (k ∈ ks)) := by
  rw [nL_ints] at e
  rw [in_ints e]
  refine congrArg some (decide_eq_decide.mpr ⟨fun z => ?_, fun z => List.mem_map.mpr ⟨k, z, rfl⟩⟩)
  obtain ⟨j, hj, e⟩ := List.mem_map.mp z
  have : j = k := by omega
  rw [← this]
  exact hj
def Ln.heldN (L : Ln) : List Nat := (List.range L.many).filter fun k => decide ((k : Int) ∈ L.heldI)
theorem g_held (H : Has P ix 41 cf__law_held) {L : Ln} (G : Good1 L) (w : Wf h) (q : ∀ i h', Le none h h' → h.n ≤ i → h'.get i = some (.lst (nL L.heldN)) → Q (.ref i) h') : Ok (callP P 1000 (d + 1) (ix 41) [L.v] h) Q := by
  have h40 := G.most
  refine ok_def H rfl ?_
  repeat walk_at "px"
  refine ⟨_, rfl, ?_⟩
  repeat walk_at "px"
  refine ok_len (xs := iL L.cells) (by rfl) ?_
  rw [List.length_map]
  repeat walk_at "px"
  refine ⟨⟨by omega, by show (L.many : Int) ≤ _; omega⟩, ?_⟩
  rw [show ((L.cells.length : Nat) : Int).toNat = L.many from Int.toNat_natCast _]
  refine ok_lcI none (rng 0 L.many) h w (fun i e => by cases e) (fun k h' _ => iv_rng k h') (by rw [rng_len]; omega) (fun k acc => acc = nL ((List.range k).filter fun k => decide ((k : Int) ∈ L.heldI))) rfl (fun k v acc h1 e i1 l1 => ?_) (fun acc h' i1 _ l g => ?_) (by rw [rng_len]; omega)
  · obtain ⟨hk, rfl⟩ := rng_at e
    rw [Int.zero_add] at e ⊢
    refine ⟨_, rfl, ?_⟩
    refine ok_ifS (Ok.mono (Q := fun b h2 => Le none h1 h2 ∧ b = decide ((k : Int) ∈ L.heldI)) ?A ?B)
    case A =>
      repeat walk_at "px"
      refine ⟨_, rfl, ?_⟩
      repeat walk_at "px"
      refine ⟨_, in_ints (ns := L.held) (by rfl), ?_⟩
      repeat walk_at "px"
      refine ⟨fun e1 => ?_, fun e1 => ?_⟩
      · have e1 : decide ((k : Int) ∈ L.held) = false := e1
        repeat walk_at "px"
        refine ⟨_, rfl, ?_⟩
        repeat walk_at "px"
        refine ⟨fun e2 => ?_, fun e2 => ?_⟩
        · have e2 : L.ring = false := by cases z : L.ring <;> rw [z] at e2 <;> first | rfl | (cases e2; done)
          repeat walk_at "px"
          refine ⟨_, in_ints (ns := [0, (L.cells.length : Int) - 1]) (seqOf_lst get_new), ?_⟩
          repeat walk_at "px"
          refine ⟨Le.push l1.wf, decide_eq_decide.mpr ?_⟩
          rw [heldI_mem]
          have e1 := of_decide_eq_false e1
          rw [List.mem_cons, List.mem_singleton]
          exact ⟨fun z => .inr ⟨e2, z⟩, fun z => by
            rcases z with z | z
            · exact absurd z e1
            · exact z.2⟩
        · have e2 : L.ring = true := by cases z : L.ring <;> rw [z] at e2 <;> first | rfl | (cases e2; done)
          refine ⟨Le.refl l1.wf, (decide_eq_false fun z => ?_).symm⟩
          have e1 := of_decide_eq_false e1
          rcases heldI_mem.mp z with z | z
          · exact e1 z
          · rw [e2] at z
            cases z.1
      · have e1 : decide ((k : Int) ∈ L.held) = true := e1
        exact ⟨Le.refl l1.wf, (decide_eq_true (heldI_mem.mpr (.inl (of_decide_eq_true e1)))).symm⟩
    case B =>
      rintro b h2 ⟨l2, rfl⟩
      refine ⟨l2, fun e2 => ?_, fun e2 => ?_⟩
      · rw [i1, nL_succ, e2]
        exact (List.append_nil _).symm
      · repeat walk_at "px"
        refine ⟨Le.refl l2.wf, ?_⟩
        rw [i1, nL_succ, e2]
        rfl
  · rw [rng_len] at i1
    refine q _ h' l (Nat.le_refl _) ?_
    rw [g, i1]
    rfl
theorem g_ready (H41 : Has P ix 41 cf__law_held) (H : Has P ix 42 cf__law_ready) {L : Ln} (G : Good1 L) (w : Wf h) (q : ∀ i h', Le none h h' → h.n ≤ i → h'.get i = some (.lst (nL L.readyN)) → Q (.ref i) h') : Ok (callP P 1000 (d + 2) (ix 42) [L.v] h) Q := by
  have h40 := G.most
  refine ok_def H rfl ?_
  repeat walk_at "px"
  refine ⟨_, rfl, ?_⟩
  repeat walk_at "px"
  refine ⟨_, rfl, ?_⟩
  repeat walk_at "px"
  refine ok_len (xs := iL L.cells) (by rfl) ?_
  rw [List.length_map]
  repeat walk_at "px"
  refine g_held H41 G w fun i h1 l1 hi g1 => ?_
  repeat walk_at "px"
  refine ⟨_, rfl, ?_⟩
  repeat walk_at "px"
  refine ⟨⟨by omega, by show (L.many : Int) ≤ _; omega⟩, ?_⟩
  rw [show ((L.cells.length : Nat) : Int).toNat = L.many from Int.toNat_natCast _]
  refine os_forL (fun j st h' => j ≤ L.many ∧ Le none h1 h' ∧ h'.get h1.n = some (.lst (nL ((List.range j).filter L.rdy))) ∧ ∃ s5 s6 s7, st = [some L.v, some (.tup (iL L.cells)), some (.int ((L.many : Nat) : Int)), some (.ref i), some (.ref h1.n), s5, s6, s7]) L.many (fun j st h' ⟨i1, i2, i3, s5, s6, s7, i4⟩ => ⟨i1, ?_⟩) _ 0 _ _ (by omega)
    ⟨Nat.zero_le _, Le.push l1.wf, get_new, none, none, none, rfl⟩
  subst i4
  rw [iv_rng]
  have gh := i2.get _ _ (by intro z; cases z) g1
  by_cases hj : j < L.many
  · have e : (rng 0 L.many)[j]? = some (.int ((j : Nat) : Int)) := by
      unfold rng
      rw [List.getElem?_map, List.getElem?_range hj]
      show some (PV.int (0 + (j : Int))) = _
      rw [Int.zero_add]
    rw [e]
    refine .inr ⟨_, _, rfl, rfl, ?_⟩
    repeat walk_at "px"
    refine ⟨_, at_pred hj, ?_⟩
    repeat walk_at "px"
    refine ⟨_, at_succ hj, ?_⟩
    have hh : decide (j ∈ L.heldN) = decide ((j : Int) ∈ L.heldI) := decide_eq_decide.mpr (by
      unfold Ln.heldN
      rw [List.mem_filter, List.mem_range, decide_eq_true_eq]
      exact ⟨fun z => z.2, fun z => ⟨hj, z⟩⟩)
    have done0 : L.rdy j = false → nL ((List.range (j + 1)).filter L.rdy) = nL ((List.range j).filter L.rdy) := fun z => by
      rw [nL_succ, z]
      exact List.append_nil _
    repeat walk_at "px"
    refine ⟨_, in_nL (seqOf_lst gh), ?_⟩
    rw [hh]
    repeat walk_at "px"
    refine ⟨fun e1 => ?_, fun e1 => ?_⟩
    · have e1 : (!decide ((j : Int) ∈ L.heldI)) = true := e1
      repeat walk_at "px"
      refine ⟨fun e2 => ?_, fun e2 => ?_⟩
      · repeat walk_at "px"
        refine ⟨_, at_small hj, ?_⟩
        repeat walk_at "px"
        have er : L.rdy j = !decide (L.at ((j : Int) - 1) = L.at j) := by
          unfold Ln.rdy Ln.flk
          rw [e1, e2, Bool.true_and, Bool.true_and, of_decide_eq_true e2]
        rw [← er]
        refine ⟨fun e3 => ?_, fun e3 => ?_⟩
        · refine os_cons (os_expr (ok_mt (ok_var rfl ⟨⟨_, seqL_lst i3⟩, ?_⟩)))
          repeat walk_at "px"
          refine ok_append i3 (by rw [nL_len]; exact Nat.le_trans (fr_len _ _) (by omega)) ?_
          repeat walk_at "px"
          refine ⟨hj, Le.set i2 (Nat.le_refl _) i3, ?_, _, _, _, rfl⟩
          rw [get_at_set i2.wf i3, nL_succ, e3]
          rfl
        · repeat walk_at "px"
          exact ⟨hj, i2, by rw [done0 e3]; exact i3, _, _, _, rfl⟩
      · repeat walk_at "px"
        refine ⟨hj, i2, ?_, _, _, _, rfl⟩
        rw [done0 (by unfold Ln.rdy Ln.flk; rw [e2, Bool.false_and, Bool.and_false])]
        exact i3
    · have e1 : (!decide ((j : Int) ∈ L.heldI)) = false := e1
      repeat walk_at "px"
      refine ⟨hj, i2, ?_, _, _, _, rfl⟩
      rw [done0 (by unfold Ln.rdy; rw [e1, Bool.false_and])]
      exact i3
  · have ej : j = L.many := by omega
    have e : (rng 0 L.many)[j]? = none := List.getElem?_eq_none (by rw [rng_len]; omega)
    rw [e]
    refine .inl ⟨rfl, ?_⟩
    repeat walk_at "px"
    subst ej
    exact q _ _ (l1.trans i2) l1.n i3
end
end Pyx

set_option Elab.async false
set_option linter.all false
set_option maxRecDepth 100000
set_option maxHeartbeats 400000
namespace Pyx
open PySem L2
local macro_rules | `(tactic| walk_at "px") => `(tactic| first
  | (with_reducible refine ok_var (v := ?_) (by with_unfolding_all exact rfl) ?_)
  | with_reducible refine os_nil ?_
  | with_reducible refine os_cons ?_
  | with_reducible refine os_pass ?_
  | with_reducible refine os_retN ?_
  | with_reducible refine os_brk ?_
  | with_reducible refine os_cont ?_
  | with_reducible refine os_ret ?_
  | with_reducible refine os_expr ?_
  | with_reducible refine os_set ?_
  | with_reducible refine os_asg ?_
  | with_reducible refine os_par ?_
  | with_reducible refine os_par3 ?_
  | with_reducible refine os_setix ?_
  | with_reducible refine os_ite ?_
  | with_reducible refine os_for ?_
  | with_reducible refine os_while ?_
  | with_reducible refine ok_val ?_
  | with_reducible refine ok_bin ?_
  | with_reducible refine ok_neg ?_
  | with_reducible refine ok_cmp ?_
  | with_reducible refine ok_chain ?_
  | with_reducible refine ok_isin ?_
  | with_reducible refine ok_and ?_
  | with_reducible refine ok_or ?_
  | with_reducible refine ok_not ?_
  | with_reducible refine ok_ite ?_
  | with_reducible refine ok_tup ?_
  | with_reducible refine ok_lst ?_
  | with_reducible refine ok_call ?_
  | with_reducible refine ok_bi ?_
  | with_reducible refine ok_isi ?_
  | with_reducible refine ok_isis ?_
  | with_reducible refine ok_ix ?_
  | with_reducible refine ok_sl ?_
  | with_reducible refine ok_oN ?_
  | with_reducible refine ok_oS ?_
  | with_reducible refine ok_nil ?_
  | with_reducible refine ok_cons ?_
  | with_reducible refine ok_bval ?_
  | with_reducible refine ok_bbl ?_
  | with_reducible refine ok_bnot ?_
  | with_reducible refine ok_band ?_
  | with_reducible refine ok_bor ?_
  | with_reducible refine ok_ifN ?_
  | with_reducible refine ok_ifS ?_
  | with_reducible refine ok_rng1 ?_
  | with_reducible refine ok_rng2 ?_
  | with_reducible refine ok_over ?_
  | with_reducible refine ok_enum ?_
  | with_reducible refine ok_add ?_
  | with_reducible refine ok_sub ?_
  | (with_reducible refine ok_lc (by with_unfolding_all exact rfl) ?_)
  | with_reducible refine ⟨_, eq_int, ?_⟩
  | with_reducible refine ⟨_, ne_int, ?_⟩
  | with_reducible refine ⟨_, lt_int', ?_⟩
  | with_reducible refine ⟨_, le_int', ?_⟩
  | with_reducible refine ⟨_, gt_int', ?_⟩
  | with_reducible refine ⟨_, ge_int', ?_⟩
  | with_reducible refine ⟨_, eq_bl, ?_⟩
  | with_reducible refine ⟨_, ne_bl, ?_⟩
  | with_reducible refine ⟨_, ty_ii, ?_⟩
  | with_reducible refine ⟨_, ty_ib, ?_⟩
  | with_reducible refine ⟨_, ty_tt, ?_⟩
  | with_reducible refine ⟨_, ty_tl, ?_⟩
  | with_reducible refine ⟨_, ty_bb, ?_⟩
  | with_reducible refine ⟨_, ty_bi, ?_⟩
  | with_reducible refine ⟨_, truth_bl, ?_⟩
  | with_reducible refine ⟨_, (rfl : PV.bl _ = PV.bl _), ?_⟩
  | with_reducible refine ⟨_, (rfl : PV.int _ = PV.int _), ?_⟩
  | (with_reducible refine And.intro (Nat.le_of_ble_eq_true (by with_unfolding_all exact rfl)) ?_)
  | refine ⟨fun _ => ?_, fun e => nomatch (e : true = false)⟩
  | refine ⟨fun e => (nomatch (e : false = true)), fun _ => ?_⟩
  | refine ⟨fun e => (nomatch (e : true = false)), fun _ => ?_⟩
  | refine ⟨fun _ => ?_, fun e => nomatch (e : false = true)⟩)
/-- tuples of tuples of ints and truth values -/
inductive Pln : Nat → PV → Prop where
  | int (n : Nat) (i : Int) : Pln n (.int i)
  | bl (n : Nat) (b : Bool) : Pln n (.bl b)
  | tup {n : Nat} {xs : List PV} (z : xs.length ≤ 900) (k : ∀ x ∈ xs, Pln n x) : Pln (n + 1) (.tup xs)
theorem Pln.ints (n : Nat) {ns : List Int} (z : ns.length ≤ 900) : Pln (n + 1) (.tup (iL ns)) := .tup (by rw [List.length_map]; exact z) fun x hx => by
  obtain ⟨i, _, rfl⟩ := List.mem_map.mp hx
  exact .int n i
theorem tup_ix {xs : List PV} {k : Nat} {u : PV} {h : PH} (g : xs[k]? = some u) : ixP (.tup xs) (.int (k : Int)) h = some u := ix_of_nat (xs := xs) rfl g
theorem ok_slT {h : PH} {Q : PV → PH → Prop} {xs : List PV} {lo hi : Option Int} (z : xs.length ≤ 100000) (q : Q (.tup (cutP xs lo hi)) h) : Ok (slP (.tup xs) lo hi h) Q := by
  unfold slP
  dsimp only
  unfold okT small
  have z2 : (cutP xs lo hi).length ≤ 100000 := by
    unfold cutP
    rw [List.length_take, List.length_drop]
    omega
  rw [Nat.ble_eq_true_of_le z2]
  exact q
theorem cut_drop (xs : List PV) (m : Nat) : cutP xs (some (m : Int)) none = xs.drop m := by
  unfold cutP
  rw [HT.sIx_nat, HT.sIx_none]
  by_cases h : m ≤ xs.length
  · rw [Nat.min_eq_left h]
    exact List.take_of_length_le (by rw [List.length_drop]; exact Nat.le_refl _)
  · rw [Nat.min_eq_right (by omega), List.drop_length, List.drop_eq_nil_of_le (by omega), List.take_nil]
section
variable {P : Prg} {ix : Nat → Nat} {h : PH} {Q : PV → PH → Prop}
theorem g_alike (H : Has P ix 45 cf__law_alike) : ∀ (n : Nat) (v : PV), Pln n v → ∀ (d : Nat) (h : PH) (Q : PV → PH → Prop), Wf h → (∀ h', Le none h h' → Q (.bl true) h') → Ok (callP P 1000 (d + n + 1) (ix 45) [v, v] h) Q := by
  intro n
  induction n with
  | zero =>
    intro v p d h Q w q
    cases p with
    | int _ i =>
      refine ok_def H rfl ?_
      repeat walk_at "px"
      refine ⟨_, _, rfl, rfl, ?_⟩
      repeat walk_at "px"
      refine ⟨_, rfl, ?_⟩
      repeat walk_at "px"
      refine ⟨_, rfl, ?_⟩
      repeat walk_at "px"
      rw [decide_eq_true rfl]
      exact q _ (Le.refl w)
    | bl _ b =>
      refine ok_def H rfl ?_
      repeat walk_at "px"
      refine ⟨_, _, rfl, rfl, ?_⟩
      repeat walk_at "px"
      refine ⟨_, rfl, ?_⟩
      repeat walk_at "px"
      refine ⟨_, rfl, ?_⟩
      repeat walk_at "px"
      rw [beq_self_eq_true]
      exact q _ (Le.refl w)
  | succ n ih =>
    intro v p d h Q w q
    cases p with
    | int _ i =>
      refine ok_def H rfl ?_
      repeat walk_at "px"
      refine ⟨_, _, rfl, rfl, ?_⟩
      repeat walk_at "px"
      refine ⟨_, rfl, ?_⟩
      repeat walk_at "px"
      refine ⟨_, rfl, ?_⟩
      repeat walk_at "px"
      rw [decide_eq_true rfl]
      exact q _ (Le.refl w)
    | bl _ b =>
      refine ok_def H rfl ?_
      repeat walk_at "px"
      refine ⟨_, _, rfl, rfl, ?_⟩
      repeat walk_at "px"
      refine ⟨_, rfl, ?_⟩
      repeat walk_at "px"
      refine ⟨_, rfl, ?_⟩
      repeat walk_at "px"
      rw [beq_self_eq_true]
      exact q _ (Le.refl w)
    | tup z k =>
      rename_i xs
      refine ok_def H rfl ?_
      repeat walk_at "px"
      refine ⟨_, _, rfl, rfl, ?_⟩
      repeat walk_at "px"
      refine ⟨_, _, rfl, rfl, ?_⟩
      repeat walk_at "px"
      refine ok_len (xs := xs) (by rfl) ?_
      repeat walk_at "px"
      refine ok_len (xs := xs) (by rfl) ?_
      repeat walk_at "px"
      rw [decide_eq_true (rfl : ((xs.length : Nat) : Int) = (xs.length : Nat))]
      repeat walk_at "px"
      refine ok_len (xs := xs) (by rfl) ?_
      repeat walk_at "px"
      refine ⟨⟨by omega, by omega⟩, ?_⟩
      rw [Int.toNat_natCast]
      refine ok_lcI none (rng 0 xs.length) h w (fun i e => by cases e) (fun k h' _ => iv_rng k h') (by rw [rng_len]; omega) (fun _ acc => acc = []) rfl (fun j v acc h1 e i1 l1 => ?_) (fun acc h' i1 _ l g => ?_) (by rw [rng_len]; omega)
      · obtain ⟨hj, rfl⟩ := rng_at e
        rw [Int.zero_add] at e ⊢
        refine ⟨_, rfl, ?_⟩
        have ej : xs[j]? = some xs[j] := List.getElem?_eq_getElem hj
        repeat walk_at "px"
        refine ⟨_, tup_ix ej, ?_⟩
        repeat walk_at "px"
        refine ⟨_, tup_ix ej, ?_⟩
        repeat walk_at "px"
        refine ih _ (k _ (List.getElem_mem hj)) d h1 _ l1.wf fun h2 l2 => ?_
        repeat walk_at "px"
        exact ⟨l2, fun _ => i1, fun e => (nomatch (e : false = true))⟩
      · subst i1
        repeat walk_at "px"
        refine ⟨_, eq_lsts (ns := []) (ms := []) (get_old g) get_new, ?_⟩
        rw [decide_eq_true (rfl : ([] : List Int) = [])]
        exact q _ l.p
theorem Ln.at_mem {L : Ln} (h0 : 1 ≤ L.many) (k : Int) : L.at k ∈ L.cells := by
  have h2 := Int.emod_lt_of_pos k (by omega : (0 : Int) < L.many)
  have h1 := Int.emod_nonneg k (by omega : (L.many : Int) ≠ 0)
  have hk : (k % (L.many : Int)).toNat < L.cells.length := by
    show _ < L.many
    omega
  unfold Ln.at
  rw [List.getD_eq_getElem?_getD, List.getElem?_eq_getElem hk]
  exact List.getElem_mem hk
theorem Ln.one_many {L : Ln} {k : Nat} : (L.one k).many = L.many := turn_len
theorem Ln.one_good {L : Ln} (G : Good1 L) (k : Nat) : Good1 (L.one k) := by
  refine ⟨by rw [Ln.one_many]; exact G.one, fun z => by rw [Ln.one_many]; exact G.three z, by rw [Ln.one_many]; exact G.most, fun c hc => ?_, G.srt, fun x hx => by rw [Ln.one_many]; exact G.hin x hx⟩
  obtain ⟨j, hj, rfl⟩ := List.mem_map.mp (show c ∈ (List.range L.many).map _ from hc)
  have q := fun k => G.col _ (L.at_mem G.one k)
  by_cases hjk : j ∈ [k]
  · rw [if_pos hjk]; exact q _
  · rw [if_neg hjk]; exact q _
theorem Ln.one_cells {L : Ln} {k : Nat} (hk : k < L.many) : L.turn [k] = L.cells.set k (L.at ((k : Int) - 1)) := by
  have z := turn_step (L := L) (ks := [k]) (j := 0) (k := k) rfl
  rw [List.take_zero, turn_nil] at z
  exact z.symm
theorem Ln.one_at {L : Ln} {k : Nat} (hk : k < L.many) (j : Int) : (L.one k).at j = if (j % (L.many : Int)).toNat = k then L.at ((k : Int) - 1) else L.at j := by
  have h2 := Int.emod_lt_of_pos j (by omega : (0 : Int) < L.many)
  have h1 := Int.emod_nonneg j (by omega : (L.many : Int) ≠ 0)
  have hj : (j % (L.many : Int)).toNat < (L.turn [k]).length := by
    rw [turn_len]
    omega
  show (L.turn [k]).getD (j % ((L.one k).many : Int)).toNat 0 = _
  rw [Ln.one_many, List.getD_eq_getElem?_getD, List.getElem?_eq_getElem hj]
  show (L.turn [k])[(j % (L.many : Int)).toNat] = _
  rw [turn_get]
  have e : L.at (((j % (L.many : Int)).toNat : Nat) : Int) = L.at j := by
    unfold Ln.at
    rw [Int.toNat_of_nonneg h1, Int.emod_emod_of_dvd _ (Int.dvd_refl _)]
  rw [e]
  by_cases e2 : (j % (L.many : Int)).toNat = k
  · rw [if_pos e2, if_pos (by rw [e2]; exact List.mem_singleton.mpr rfl), e2]
  · rw [if_neg e2, if_neg (fun z => e2 (List.mem_singleton.mp z))]
/-- a turned cell is not ready -/
theorem Ln.one_rdy {L : Ln} {k : Nat} (G : Good1 L) (hk : k ∈ L.readyN) : ¬ k ∈ (L.one k).readyN := by
  intro z
  unfold Ln.readyN at hk z
  rw [List.mem_filter, List.mem_range] at hk z
  obtain ⟨hk1, hk2⟩ := hk
  obtain ⟨_, z2⟩ := z
  have ek : ((k : Int) % (L.many : Int)).toNat = k := by rw [Int.emod_eq_of_lt (by omega) (by omega), Int.toNat_natCast]
  unfold Ln.rdy Ln.flk at hk2 z2
  rw [Bool.and_eq_true, Bool.and_eq_true, decide_eq_true_eq, Bool.not_eq_true', Bool.not_eq_true'] at hk2 z2
  obtain ⟨_, a1, a2⟩ := hk2
  obtain ⟨_, b1, b2⟩ := z2
  rw [Ln.one_at hk1, Ln.one_at hk1] at b2
  rw [if_pos ek] at b2
  by_cases e : (((k : Int) + 1) % (L.many : Int)).toNat = k
  · refine of_decide_eq_false a2 ?_
    unfold Ln.at
    rw [e, ek]
  · rw [if_neg e] at b2
    exact of_decide_eq_false b2 a1.symm
end
end Pyx

set_option Elab.async false
set_option linter.all false
set_option maxRecDepth 100000
set_option maxHeartbeats 400000
/-! Pyx: what steps do to a line (no program in sight). -/
namespace Pyx
theorem Ln.at_congr {L : Ln} {a b : Int} (e : a % (L.many : Int) = b % (L.many : Int)) : L.at a = L.at b := by
  unfold Ln.at
  rw [e]
theorem Ln.at_mod {L : Ln} (k : Int) : L.at (k % (L.many : Int)) = L.at k := Ln.at_congr (Int.emod_emod_of_dvd _ (Int.dvd_refl _))
/-- ready, at any integer -/
def Ln.rd (L : Ln) (k : Int) : Prop := ¬ (k % (L.many : Int)) ∈ L.heldI ∧ L.at (k - 1) = L.at (k + 1) ∧ ¬ L.at (k + 1) = L.at k
instance {L : Ln} {k : Int} : Decidable (L.rd k) := by unfold Ln.rd; infer_instance
theorem emod_sub_one {n a b : Int} (e : a % n = b % n) (c : Int) : (a - c) % n = (b - c) % n := by
  rw [Int.sub_emod a, Int.sub_emod b, e]
theorem emod_add_one {n a b : Int} (e : a % n = b % n) (c : Int) : (a + c) % n = (b + c) % n := by
  rw [Int.add_emod a, Int.add_emod b, e]
theorem Ln.rd_congr {L : Ln} {a b : Int} (e : a % (L.many : Int) = b % (L.many : Int)) : L.rd a ↔ L.rd b := by
  unfold Ln.rd
  rw [e, Ln.at_congr (emod_sub_one e 1), Ln.at_congr (emod_add_one e 1), Ln.at_congr e]
theorem Ln.rdy_rd {L : Ln} {k : Nat} (hk : k < L.many) : L.rdy k = true ↔ L.rd k := by
  unfold Ln.rdy Ln.flk Ln.rd
  rw [Bool.and_eq_true, Bool.and_eq_true, decide_eq_true_eq, Bool.not_eq_true', Bool.not_eq_true', Int.emod_eq_of_lt (by omega) (by omega)]
  exact ⟨fun ⟨a, b, c⟩ => ⟨of_decide_eq_false a, b, of_decide_eq_false c⟩, fun ⟨a, b, c⟩ => ⟨decide_eq_false a, b, decide_eq_false c⟩⟩
theorem Ln.readyN_mem {L : Ln} {k : Nat} : k ∈ L.readyN ↔ k < L.many ∧ L.rd k := by
  unfold Ln.readyN
  rw [List.mem_filter, List.mem_range]
  exact ⟨fun ⟨a, b⟩ => ⟨a, (Ln.rdy_rd a).mp b⟩, fun ⟨a, b⟩ => ⟨a, (Ln.rdy_rd a).mpr b⟩⟩
/-- one step -/
def Ln.stp (L : Ln) : Ln := ⟨L.turn L.readyN, L.held, L.ring⟩
theorem Ln.stp_many {L : Ln} : L.stp.many = L.many := turn_len
theorem Ln.stp_heldI {L : Ln} : L.stp.heldI = L.heldI := by
  unfold Ln.heldI Ln.ends
  rw [Ln.stp_many]
  rfl
theorem Ln.stp_at {L : Ln} (h0 : 1 ≤ L.many) (k : Int) : L.stp.at k = if L.rd k then L.at (k - 1) else L.at k := by
  have h2 := Int.emod_lt_of_pos k (by omega : (0 : Int) < L.many)
  have h1 := Int.emod_nonneg k (by omega : (L.many : Int) ≠ 0)
  have hj : (k % (L.many : Int)).toNat < (L.turn L.readyN).length := by
    rw [turn_len]
    omega
  show (L.turn L.readyN).getD (k % (L.stp.many : Int)).toNat 0 = _
  rw [Ln.stp_many, List.getD_eq_getElem?_getD, List.getElem?_eq_getElem hj]
  show (L.turn L.readyN)[(k % (L.many : Int)).toNat] = _
  rw [turn_get]
  have ec : (((k % (L.many : Int)).toNat : Nat) : Int) = k % (L.many : Int) := Int.toNat_of_nonneg h1
  have em : (k % (L.many : Int)) % (L.many : Int) = k % (L.many : Int) := Int.emod_emod_of_dvd _ (Int.dvd_refl _)
  have em1 : L.at (k % (L.many : Int) - 1) = L.at (k - 1) := Ln.at_congr (emod_sub_one em 1)
  have hm : (k % (L.many : Int)).toNat ∈ L.readyN ↔ L.rd k := by
    rw [Ln.readyN_mem, ec, Ln.rd_congr em]
    exact ⟨fun z => z.2, fun z => ⟨by omega, z⟩⟩
  rw [ec, em1, Ln.at_mod]
  by_cases h : L.rd k
  · rw [if_pos h, if_pos (hm.mpr h)]
  · rw [if_neg h, if_neg (fun z => h (hm.mp z))]
/-- ready behind one step: it and both neighbours were ready -/
theorem Ln.rd_stp {L : Ln} (h0 : 1 ≤ L.many) (k : Int) : L.stp.rd k ↔ L.rd (k - 1) ∧ L.rd k ∧ L.rd (k + 1) := by
  have i1 : k - 1 - 1 = k - 2 := by omega
  have i2 : k - 1 + 1 = k := by omega
  have i3 : k + 1 - 1 = k := by omega
  have i4 : k + 1 + 1 = k + 2 := by omega
  have e : L.stp.rd k ↔ ¬ (k % (L.many : Int)) ∈ L.heldI ∧ (if L.rd (k - 1) then L.at (k - 2) else L.at (k - 1)) = (if L.rd (k + 1) then L.at k else L.at (k + 1)) ∧ ¬ (if L.rd (k + 1) then L.at k else L.at (k + 1)) = (if L.rd k then L.at (k - 1) else L.at k) := by
    conv => lhs; unfold Ln.rd
    rw [Ln.stp_many, Ln.stp_heldI, Ln.stp_at h0, Ln.stp_at h0, Ln.stp_at h0, i1, i3]
  rw [e]
  have r1 : L.rd (k - 1) → L.at (k - 2) = L.at k ∧ ¬ L.at k = L.at (k - 1) := fun z => by
    obtain ⟨_, a, b⟩ := z
    rw [i1, i2] at a
    rw [i2] at b
    exact ⟨a, b⟩
  have r2 : L.rd (k + 1) → L.at k = L.at (k + 2) ∧ ¬ L.at (k + 2) = L.at (k + 1) := fun z => by
    obtain ⟨_, a, b⟩ := z
    rw [i3, i4] at a
    rw [i4] at b
    exact ⟨a, b⟩
  by_cases c0 : L.rd k
  · obtain ⟨a0, a1, a2⟩ := c0
    have c0 : L.rd k := ⟨a0, a1, a2⟩
    by_cases c1 : L.rd (k - 1) <;> by_cases c2 : L.rd (k + 1)
    · obtain ⟨b1, b2⟩ := r1 c1
      rw [if_pos c0, if_pos c1, if_pos c2]
      exact ⟨fun _ => ⟨c1, c0, c2⟩, fun _ => ⟨a0, b1, b2⟩⟩
    · rw [if_pos c0, if_pos c1, if_neg c2]
      exact ⟨fun ⟨_, _, z⟩ => absurd a1.symm z, fun ⟨_, _, z⟩ => absurd z c2⟩
    · rw [if_pos c0, if_neg c1, if_pos c2]
      exact ⟨fun ⟨_, y, z⟩ => absurd y.symm z, fun ⟨z, _, _⟩ => absurd z c1⟩
    · rw [if_pos c0, if_neg c1, if_neg c2]
      exact ⟨fun ⟨_, _, z⟩ => absurd a1.symm z, fun ⟨z, _, _⟩ => absurd z c1⟩
  · rw [if_neg c0]
    refine ⟨fun ⟨x, y, z⟩ => ?_, fun ⟨_, z, _⟩ => absurd z c0⟩
    exfalso
    by_cases c2 : L.rd (k + 1)
    · rw [if_pos c2] at z
      exact z rfl
    · rw [if_neg c2] at y z
      by_cases c1 : L.rd (k - 1)
      · rw [if_pos c1] at y
        exact z (y.symm.trans (r1 c1).1)
      · rw [if_neg c1] at y
        exact c0 ⟨x, y, z⟩
/-- t steps -/
def Ln.aft (L : Ln) : Nat → Ln
  | 0 => L
  | t + 1 => (L.aft t).stp
theorem Ln.aft_many {L : Ln} : ∀ t : Nat, (L.aft t).many = L.many
  | 0 => rfl
  | t + 1 => Ln.stp_many.trans (Ln.aft_many t)
/-- ready behind t steps: all within t were ready -/
theorem Ln.rd_aft {L : Ln} (h0 : 1 ≤ L.many) : ∀ (t : Nat) (k : Int), (L.aft t).rd k ↔ ∀ d : Int, -(t : Int) ≤ d → d ≤ t → L.rd (k + d)
  | 0, k => ⟨fun z d h1 h2 => by
      rw [show k + d = k by omega]
      exact z, fun z => by
      have := z 0 (by omega) (by omega)
      rw [Int.add_zero] at this
      exact this⟩
  | t + 1, k => by
    show (L.aft t).stp.rd k ↔ _
    rw [Ln.rd_stp (by rw [Ln.aft_many]; exact h0), Ln.rd_aft h0 t, Ln.rd_aft h0 t, Ln.rd_aft h0 t]
    refine ⟨fun ⟨a, b, c⟩ d h1 h2 => ?_, fun z => ⟨fun d h1 h2 => ?_, fun d h1 h2 => ?_, fun d h1 h2 => ?_⟩⟩
    · by_cases q1 : d ≤ -1
      · have := a (d + 1) (by omega) (by omega)
        rw [show k - 1 + (d + 1) = k + d by omega] at this
        exact this
      · by_cases q2 : 1 ≤ d
        · have := c (d - 1) (by omega) (by omega)
          rw [show k + 1 + (d - 1) = k + d by omega] at this
          exact this
        · exact b d (by omega) (by omega)
    · have := z (d - 1) (by omega) (by omega)
      rw [show k + (d - 1) = k - 1 + d by omega] at this
      exact this
    · exact z d (by omega) (by omega)
    · have := z (d + 1) (by omega) (by omega)
      rw [show k + (d + 1) = k + 1 + d by omega] at this
      exact this
/-- how often a cell turns in t steps -/
def Ln.dp (L : Ln) : Nat → Int → Nat
  | 0, _ => 0
  | t + 1, k => L.dp t k + (if (L.aft t).rd k then 1 else 0)
theorem Ln.rd_less {L : Ln} (h0 : 1 ≤ L.many) {s t : Nat} {k j : Int} (h : (L.aft t).rd k) (h1 : -((t : Int) - s) ≤ j - k) (h2 : j - k ≤ (t : Int) - s) : (L.aft s).rd j := by
  rw [Ln.rd_aft h0] at h ⊢
  intro d a b
  have := h (j - k + d) (by omega) (by omega)
  rw [show k + (j - k + d) = j + d by omega] at this
  exact this
theorem Ln.dp_full {L : Ln} (h0 : 1 ≤ L.many) : ∀ (t : Nat) (k : Int), (∀ s, s < t → (L.aft s).rd k) → L.dp t k = t
  | 0, _, _ => rfl
  | t + 1, k, h => by
    show L.dp t k + _ = t + 1
    rw [Ln.dp_full h0 t k fun s hs => h s (by omega), if_pos (h t (Nat.lt_succ_self _))]
/-- the colour behind t steps -/
theorem Ln.at_aft {L : Ln} (h0 : 1 ≤ L.many) : ∀ (t : Nat) (k : Int), (L.aft t).at k = if L.dp t k % 2 = 1 then L.at (k - 1) else L.at k
  | 0, k => rfl
  | t + 1, k => by
    show (L.aft t).stp.at k = _
    rw [Ln.stp_at (by rw [Ln.aft_many]; exact h0)]
    show _ = if (L.dp t k + (if (L.aft t).rd k then 1 else 0)) % 2 = 1 then L.at (k - 1) else L.at k
    by_cases h : (L.aft t).rd k
    · rw [if_pos h, if_pos h, Ln.at_aft h0 t (k - 1)]
      have d0 : L.dp t k = t := Ln.dp_full h0 t k fun s hs => Ln.rd_less h0 h (by omega) (by omega)
      have d1 : L.dp t (k - 1) = t := Ln.dp_full h0 t (k - 1) fun s hs => Ln.rd_less h0 h (by omega) (by omega)
      rw [d0, d1]
      by_cases p : t % 2 = 1
      · rw [if_pos p, if_neg (by omega)]
        have q : L.rd (k - 1) := Ln.rd_less h0 (s := 0) h (by omega) (by omega)
        have := q.2.1
        rw [show k - 1 + 1 = k by omega] at this
        exact this
      · rw [if_neg p, if_pos (by omega)]
    · rw [if_neg h, if_neg h, Nat.add_zero]
      exact Ln.at_aft h0 t k
end Pyx

set_option Elab.async false
set_option linter.all false
set_option maxRecDepth 100000
set_option maxHeartbeats 400000
/-! Pyx: runs of ready cells (no program in sight). -/
namespace Pyx
theorem Ln.dp_min {L : Ln} {k : Int} {m : Nat} (h : ∀ t, (L.aft t).rd k ↔ t < m) : ∀ T, L.dp T k = min T m
  | 0 => by
    rw [Nat.zero_min]
    rfl
  | T + 1 => by
    show L.dp T k + _ = _
    rw [Ln.dp_min h T]
    by_cases z : T < m
    · rw [if_pos ((h T).mpr z)]
      omega
    · rw [if_neg (fun y => z ((h T).mp y))]
      omega
theorem Ln.dp_none {L : Ln} (h0 : 1 ≤ L.many) {k : Int} (h : ¬ L.rd k) (T : Nat) : L.dp T k = 0 := by
  have z := Ln.dp_min (L := L) (k := k) (m := 0) (fun t => ⟨fun y => absurd (Ln.rd_less h0 (s := 0) y (by omega) (by omega)) h, fun y => absurd y (Nat.not_lt_zero _)⟩) T
  rw [z, Nat.min_zero]
/-- a run: k - 1 is not ready, the r cells from k on are, the next is not -/
structure Ln.Run (L : Ln) (k : Int) (r : Nat) : Prop where
  pre : ¬ L.rd (k - 1)
  mid : ∀ i : Nat, i < r → L.rd (k + i)
  post : ¬ L.rd (k + r)
theorem Ln.run_dp {L : Ln} (h0 : 1 ≤ L.many) {k : Int} {r : Nat} (R : L.Run k r) {i : Nat} (h1 : 1 ≤ i) (h2 : i ≤ r) (T : Nat) : L.dp T (k - 1 + i) = min T (min i (r + 1 - i)) := by
  refine Ln.dp_min (fun t => ?_) T
  rw [Ln.rd_aft h0]
  refine ⟨fun z => ?_, fun z d a b => ?_⟩
  · by_cases q1 : t < i
    · by_cases q2 : t < r + 1 - i
      · omega
      · have := z ((r + 1 - i : Nat) : Int) (by omega) (by omega)
        rw [show k - 1 + (i : Int) + ((r + 1 - i : Nat) : Int) = k + r by omega] at this
        exact absurd this R.post
    · have := z (-(i : Int)) (by omega) (by omega)
      rw [show k - 1 + (i : Int) + -(i : Int) = k - 1 by omega] at this
      exact absurd this R.pre
  · have := R.mid ((k - 1 + i + d - k).toNat) (by omega)
    rw [show k + (((k - 1 + (i : Int) + d - k).toNat : Nat) : Int) = k - 1 + i + d by omega] at this
    exact this
/-- how many from k on are ready (up to a bound) -/
def Ln.rl (L : Ln) : Nat → Int → Nat
  | 0, _ => 0
  | n + 1, k => if L.rd k then 1 + L.rl n (k + 1) else 0
theorem Ln.rl_mid {L : Ln} : ∀ (n : Nat) (k : Int) (i : Nat), i < L.rl n k → L.rd (k + i)
  | 0, _, i, h => absurd h (Nat.not_lt_zero _)
  | n + 1, k, i, h => by
    unfold Ln.rl at h
    by_cases z : L.rd k
    · rw [if_pos z] at h
      cases i with
      | zero =>
        rw [show k + ((0 : Nat) : Int) = k by omega]
        exact z
      | succ i =>
        have := Ln.rl_mid (L := L) n (k + 1) i (by omega)
        rw [show k + 1 + (i : Int) = k + ((i + 1 : Nat) : Int) by omega] at this
        exact this
    · rw [if_neg z] at h
      exact absurd h (Nat.not_lt_zero _)
theorem Ln.rl_le {L : Ln} : ∀ (n : Nat) (k : Int), L.rl n k ≤ n
  | 0, _ => Nat.le_refl _
  | n + 1, k => by
    unfold Ln.rl
    split
    · have := Ln.rl_le (L := L) n (k + 1)
      omega
    · omega
theorem Ln.rl_post {L : Ln} : ∀ (n : Nat) (k : Int), L.rl n k < n → ¬ L.rd (k + L.rl n k)
  | 0, _, h => absurd h (Nat.not_lt_zero _)
  | n + 1, k, h => by
    unfold Ln.rl at h ⊢
    by_cases z : L.rd k
    · rw [if_pos z] at h ⊢
      have := Ln.rl_post (L := L) n (k + 1) (by omega)
      rw [show k + 1 + ((L.rl n (k + 1) : Nat) : Int) = k + ((1 + L.rl n (k + 1) : Nat) : Int) by omega] at this
      exact this
    · rw [if_neg z]
      rw [show k + ((0 : Nat) : Int) = k by omega]
      exact z
/-- the run that begins at k -/
theorem Ln.run_at {L : Ln} (h0 : 1 ≤ L.many) {k : Int} (h : ¬ L.rd (k - 1)) : L.Run k (L.rl L.many k) := by
  have lt : L.rl L.many k < L.many := by
    have le := Ln.rl_le (L := L) L.many k
    by_cases e : L.rl L.many k = L.many
    · have := Ln.rl_mid (L := L) L.many k (L.many - 1) (by omega)
      refine absurd ((Ln.rd_congr ?_).mp this) h
      rw [show k + ((L.many - 1 : Nat) : Int) = k - 1 + (L.many : Int) by omega, Int.add_emod_right]
    · omega
  exact ⟨h, fun i hi => Ln.rl_mid _ _ i hi, Ln.rl_post _ _ lt⟩
/-- all cells are ready -/
def Ln.Swing (L : Ln) : Prop := ∀ k : Int, L.rd k
/-- a ready cell of a line that does not swing lies in a run -/
theorem Ln.in_run {L : Ln} {j b : Int} (hj : L.rd j) (hb : ¬ L.rd b) (h0 : 1 ≤ L.many) : ∃ (i : Nat), 1 ≤ i ∧ ¬ L.rd (j - i) ∧ ∀ d : Nat, d < i → L.rd (j - d) := by
  -- going down from j
  have key : ∀ n : Nat, (∀ d : Nat, d ≤ n → L.rd (j - d)) ∨ ∃ (i : Nat), 1 ≤ i ∧ ¬ L.rd (j - i) ∧ ∀ d : Nat, d < i → L.rd (j - d) := by
    intro n
    induction n with
    | zero =>
      refine .inl fun d hd => ?_
      have : d = 0 := by omega
      subst this
      rw [show j - ((0 : Nat) : Int) = j by omega]
      exact hj
    | succ n ih =>
      rcases ih with z | z
      · by_cases y : L.rd (j - ((n + 1 : Nat) : Int))
        · refine .inl fun d hd => ?_
          by_cases q : d ≤ n
          · exact z d q
          · have : d = n + 1 := by omega
            subst this
            exact y
        · exact .inr ⟨n + 1, by omega, y, fun d hd => z d (by omega)⟩
      · exact .inr z
  rcases key (((j - b) % (L.many : Int)).toNat) with z | z
  · exfalso
    have hp : (0 : Int) < L.many := by omega
    have h1 := Int.emod_nonneg (j - b) (by omega : (L.many : Int) ≠ 0)
    have := z _ (Nat.le_refl _)
    rw [Int.toNat_of_nonneg h1] at this
    refine hb ((Ln.rd_congr ?_).mp this)
    have e := Int.emod_add_mul_ediv (j - b) (L.many : Int)
    have : j - (j - b) % (L.many : Int) = b + (L.many : Int) * ((j - b) / (L.many : Int)) := by omega
    rw [this, Int.add_mul_emod_self_left]
  · exact z
/-- a line rests or swings for ever -/
theorem Ln.swing_aft {L : Ln} (h0 : 1 ≤ L.many) (S : L.Swing) (t : Nat) (k : Int) : (L.aft t).rd k := by
  rw [Ln.rd_aft h0]
  exact fun d _ _ => S _
end Pyx

set_option Elab.async false
set_option linter.all false
set_option maxRecDepth 100000
set_option maxHeartbeats 400000
namespace Pyx
open PySem L2
local macro_rules | `(tactic| walk_at "px") => `(tactic| first
  | (with_reducible refine ok_var (v := ?_) (by with_unfolding_all exact rfl) ?_)
  | with_reducible refine os_nil ?_
  | with_reducible refine os_cons ?_
  | with_reducible refine os_pass ?_
  | with_reducible refine os_retN ?_
  | with_reducible refine os_brk ?_
  | with_reducible refine os_cont ?_
  | with_reducible refine os_ret ?_
  | with_reducible refine os_expr ?_
  | with_reducible refine os_set ?_
  | with_reducible refine os_asg ?_
  | with_reducible refine os_par ?_
  | with_reducible refine os_par3 ?_
  | with_reducible refine os_setix ?_
  | with_reducible refine os_ite ?_
  | with_reducible refine os_for ?_
  | with_reducible refine os_while ?_
  | with_reducible refine ok_val ?_
  | with_reducible refine ok_bin ?_
  | with_reducible refine ok_neg ?_
  | with_reducible refine ok_cmp ?_
  | with_reducible refine ok_chain ?_
  | with_reducible refine ok_isin ?_
  | with_reducible refine ok_and ?_
  | with_reducible refine ok_or ?_
  | with_reducible refine ok_not ?_
  | with_reducible refine ok_ite ?_
  | with_reducible refine ok_tup ?_
  | with_reducible refine ok_lst ?_
  | with_reducible refine ok_call ?_
  | with_reducible refine ok_bi ?_
  | with_reducible refine ok_isi ?_
  | with_reducible refine ok_isis ?_
  | with_reducible refine ok_ix ?_
  | with_reducible refine ok_sl ?_
  | with_reducible refine ok_oN ?_
  | with_reducible refine ok_oS ?_
  | with_reducible refine ok_nil ?_
  | with_reducible refine ok_cons ?_
  | with_reducible refine ok_bval ?_
  | with_reducible refine ok_bbl ?_
  | with_reducible refine ok_bnot ?_
  | with_reducible refine ok_band ?_
  | with_reducible refine ok_bor ?_
  | with_reducible refine ok_ifN ?_
  | with_reducible refine ok_ifS ?_
  | with_reducible refine ok_rng1 ?_
  | with_reducible refine ok_rng2 ?_
  | with_reducible refine ok_over ?_
  | with_reducible refine ok_enum ?_
  | with_reducible refine ok_add ?_
  | with_reducible refine ok_sub ?_
  | (with_reducible refine ok_lc (by with_unfolding_all exact rfl) ?_)
  | with_reducible refine ⟨_, eq_int, ?_⟩
  | with_reducible refine ⟨_, ne_int, ?_⟩
  | with_reducible refine ⟨_, lt_int', ?_⟩
  | with_reducible refine ⟨_, le_int', ?_⟩
  | with_reducible refine ⟨_, gt_int', ?_⟩
  | with_reducible refine ⟨_, ge_int', ?_⟩
  | with_reducible refine ⟨_, eq_bl, ?_⟩
  | with_reducible refine ⟨_, ne_bl, ?_⟩
  | with_reducible refine ⟨_, ty_ii, ?_⟩
  | with_reducible refine ⟨_, ty_ib, ?_⟩
  | with_reducible refine ⟨_, ty_tt, ?_⟩
  | with_reducible refine ⟨_, ty_tl, ?_⟩
  | with_reducible refine ⟨_, ty_bb, ?_⟩
  | with_reducible refine ⟨_, ty_bi, ?_⟩
  | with_reducible refine ⟨_, truth_bl, ?_⟩
  | with_reducible refine ⟨_, (rfl : PV.bl _ = PV.bl _), ?_⟩
  | with_reducible refine ⟨_, (rfl : PV.int _ = PV.int _), ?_⟩
  | (with_reducible refine And.intro (Nat.le_of_ble_eq_true (by with_unfolding_all exact rfl)) ?_)
  | refine ⟨fun _ => ?_, fun e => nomatch (e : true = false)⟩
  | refine ⟨fun e => (nomatch (e : false = true)), fun _ => ?_⟩
  | refine ⟨fun e => (nomatch (e : true = false)), fun _ => ?_⟩
  | refine ⟨fun _ => ?_, fun e => nomatch (e : false = true)⟩)
theorem Ln.ready_mod {L : Ln} (h0 : 1 ≤ L.many) (x : Int) : (x % (L.many : Int)) ∈ L.ready ↔ L.rd x := by
  have h2 := Int.emod_lt_of_pos x (by omega : (0 : Int) < L.many)
  have h1 := Int.emod_nonneg x (by omega : (L.many : Int) ≠ 0)
  have ec : (((x % (L.many : Int)).toNat : Nat) : Int) = x % (L.many : Int) := Int.toNat_of_nonneg h1
  have em : (x % (L.many : Int)) % (L.many : Int) = x % (L.many : Int) := Int.emod_emod_of_dvd _ (Int.dvd_refl _)
  rw [← Ln.rd_congr em]
  unfold Ln.ready
  rw [List.mem_map]
  refine ⟨fun ⟨j, hj, e⟩ => ?_, fun z => ⟨(x % (L.many : Int)).toNat, ?_, ec⟩⟩
  · have := (Ln.readyN_mem (L := L) (k := j)).mp hj
    rw [← e]
    exact this.2
  · refine (Ln.readyN_mem (L := L)).mpr ⟨by omega, ?_⟩
    rw [ec]
    exact z
def Ln.swB (L : Ln) : Bool := L.ring && decide (L.readyN.length = L.many)
theorem Ln.swB_is {L : Ln} (G : Good1 L) : L.swB = true ↔ L.Swing := by
  have h0 := G.one
  have all : L.readyN.length = L.many ↔ L.Swing := by
    unfold Ln.readyN
    have z : ((List.range L.many).filter L.rdy).length = L.many ↔ ∀ k ∈ List.range L.many, L.rdy k = true := by
      have y := List.length_filter_eq_length_iff (p := L.rdy) (l := List.range L.many)
      rw [List.length_range] at y
      exact y
    rw [z]
    refine ⟨fun y x => ?_, fun y k hk => (Ln.rdy_rd (List.mem_range.mp hk)).mpr (y _)⟩
    have h2 := Int.emod_lt_of_pos x (by omega : (0 : Int) < L.many)
    have h1 := Int.emod_nonneg x (by omega : (L.many : Int) ≠ 0)
    have ec : (((x % (L.many : Int)).toNat : Nat) : Int) = x % (L.many : Int) := Int.toNat_of_nonneg h1
    have em : (x % (L.many : Int)) % (L.many : Int) = x % (L.many : Int) := Int.emod_emod_of_dvd _ (Int.dvd_refl _)
    have hj : (x % (L.many : Int)).toNat < L.many := by omega
    have q := (Ln.rdy_rd hj).mp (y _ (List.mem_range.mpr hj))
    rw [ec] at q
    exact (Ln.rd_congr em).mp q
  unfold Ln.swB
  rw [Bool.and_eq_true, decide_eq_true_eq, all]
  refine ⟨fun z => z.2, fun z => ⟨?_, z⟩⟩
  cases hr : L.ring with
  | true => rfl
  | false =>
    refine absurd (heldI_mem.mpr (.inr ⟨hr, .inl ?_⟩)) (z 0).1
    exact Int.zero_emod _
section
variable {P : Prg} {ix : Nat → Nat} {d : Nat} {h : PH} {Q : PV → PH → Prop}
theorem ready_len {L : Ln} : L.readyN.length ≤ L.many := fr_len _ _
theorem f_swings_in (H4 : Has P ix 4 cf_held_in) (H5 : Has P ix 5 cf_flanks) (H6 : Has P ix 6 cf_is_flanked) (H7 : Has P ix 7 cf_ready_in) (H : Has P ix 11 cf_swings_in) {L : Ln} (G : Good1 L) (w : Wf h) (q : ∀ h', Le none h h' → Q (.bl L.swB) h') : Ok (callP P 1000 (d + 4) (ix 11) [L.v] h) Q := by
  refine ok_def H rfl ?_
  repeat walk_at "px"
  refine ⟨_, rfl, ?_⟩
  refine ⟨_, rfl, fun e => ?_, fun e => ?_⟩
  · repeat walk_at "px"
    refine f_ready_in H4 H5 H6 H7 G w fun i h1 l1 _ g1 => ?_
    repeat walk_at "px"
    refine ok_len (seqOf_lst g1) ?_
    repeat walk_at "px"
    refine ⟨_, rfl, ?_⟩
    repeat walk_at "px"
    refine ok_len (xs := iL L.cells) (by rfl) ?_
    repeat walk_at "px"
    have e1 : decide ((((iL L.ready).length : Nat) : Int) = (((iL L.cells).length : Nat) : Int)) = L.swB := by
      unfold Ln.swB
      rw [e, Bool.true_and, ready_nL, nL_len, List.length_map]
      exact decide_eq_decide.mpr ⟨fun z => by show _ = L.cells.length; omega, fun z => by
        have z : _ = L.cells.length := z
        omega⟩
    rw [e1]
    exact q _ l1
  · have e1 : L.swB = false := by
      unfold Ln.swB
      rw [e, Bool.false_and]
    have := q h (Le.refl w)
    rw [e1] at this
    exact this
theorem f_swings (H0 : Has P ix 0 cf_is_in) (H2 : Has P ix 2 cf_is_cells) (H1 : Has P ix 1 cf_need_line) (H4 : Has P ix 4 cf_held_in) (H5 : Has P ix 5 cf_flanks) (H6 : Has P ix 6 cf_is_flanked) (H7 : Has P ix 7 cf_ready_in) (H11 : Has P ix 11 cf_swings_in) (H : Has P ix 12 cf_swings) {L : Ln} (G : Good1 L) (w : Wf h)
    (q : ∀ h', Le none h h' → Q (.bl L.swB) h') : Ok (callP P 1000 (d + 5) (ix 12) [L.v] h) Q := by
  refine ok_def H rfl ?_
  repeat walk_at "px"
  refine f_need_line H0 H2 H1 G w fun h1 l1 => ?_
  repeat walk_at "px"
  refine f_swings_in H4 H5 H6 H7 H11 G l1.wf fun h2 l2 => ?_
  repeat walk_at "px"
  exact q _ (l1.trans l2)
theorem f_need_resting (H0 : Has P ix 0 cf_is_in) (H2 : Has P ix 2 cf_is_cells) (H1 : Has P ix 1 cf_need_line) (H4 : Has P ix 4 cf_held_in) (H5 : Has P ix 5 cf_flanks) (H6 : Has P ix 6 cf_is_flanked) (H7 : Has P ix 7 cf_ready_in) (H11 : Has P ix 11 cf_swings_in) (H : Has P ix 15 cf_need_resting) {L : Ln} (G : Good1 L) (s : L.swB = false) (w : Wf h)
    (q : ∀ h', Le none h h' → Q .non h') : Ok (callP P 1000 (d + 5) (ix 15) [L.v] h) Q := by
  refine ok_def H rfl ?_
  repeat walk_at "px"
  refine f_need_line H0 H2 H1 G w fun h1 l1 => ?_
  repeat walk_at "px"
  refine f_swings_in H4 H5 H6 H7 H11 G l1.wf fun h2 l2 => ?_
  rw [s]
  repeat walk_at "px"
  exact q _ (l1.trans l2)
end
end Pyx

set_option Elab.async false
set_option linter.all false
set_option maxRecDepth 100000
set_option maxHeartbeats 400000
namespace Pyx
open PySem L2
local macro_rules | `(tactic| walk_at "px") => `(tactic| first
  | (with_reducible refine ok_var (v := ?_) (by with_unfolding_all exact rfl) ?_)
  | with_reducible refine os_nil ?_
  | with_reducible refine os_cons ?_
  | with_reducible refine os_pass ?_
  | with_reducible refine os_retN ?_
  | with_reducible refine os_brk ?_
  | with_reducible refine os_cont ?_
  | with_reducible refine os_ret ?_
  | with_reducible refine os_expr ?_
  | with_reducible refine os_set ?_
  | with_reducible refine os_asg ?_
  | with_reducible refine os_par ?_
  | with_reducible refine os_par3 ?_
  | with_reducible refine os_setix ?_
  | with_reducible refine os_ite ?_
  | with_reducible refine os_for ?_
  | with_reducible refine os_while ?_
  | with_reducible refine ok_val ?_
  | with_reducible refine ok_bin ?_
  | with_reducible refine ok_neg ?_
  | with_reducible refine ok_cmp ?_
  | with_reducible refine ok_chain ?_
  | with_reducible refine ok_isin ?_
  | with_reducible refine ok_and ?_
  | with_reducible refine ok_or ?_
  | with_reducible refine ok_not ?_
  | with_reducible refine ok_ite ?_
  | with_reducible refine ok_tup ?_
  | with_reducible refine ok_lst ?_
  | with_reducible refine ok_call ?_
  | with_reducible refine ok_bi ?_
  | with_reducible refine ok_isi ?_
  | with_reducible refine ok_isis ?_
  | with_reducible refine ok_ix ?_
  | with_reducible refine ok_sl ?_
  | with_reducible refine ok_oN ?_
  | with_reducible refine ok_oS ?_
  | with_reducible refine ok_nil ?_
  | with_reducible refine ok_cons ?_
  | with_reducible refine ok_bval ?_
  | with_reducible refine ok_bbl ?_
  | with_reducible refine ok_bnot ?_
  | with_reducible refine ok_band ?_
  | with_reducible refine ok_bor ?_
  | with_reducible refine ok_ifN ?_
  | with_reducible refine ok_ifS ?_
  | with_reducible refine ok_rng1 ?_
  | with_reducible refine ok_rng2 ?_
  | with_reducible refine ok_over ?_
  | with_reducible refine ok_enum ?_
  | with_reducible refine ok_add ?_
  | with_reducible refine ok_sub ?_
  | (with_reducible refine ok_lc (by with_unfolding_all exact rfl) ?_)
  | with_reducible refine ⟨_, eq_int, ?_⟩
  | with_reducible refine ⟨_, ne_int, ?_⟩
  | with_reducible refine ⟨_, lt_int', ?_⟩
  | with_reducible refine ⟨_, le_int', ?_⟩
  | with_reducible refine ⟨_, gt_int', ?_⟩
  | with_reducible refine ⟨_, ge_int', ?_⟩
  | with_reducible refine ⟨_, eq_bl, ?_⟩
  | with_reducible refine ⟨_, ne_bl, ?_⟩
  | with_reducible refine ⟨_, ty_ii, ?_⟩
  | with_reducible refine ⟨_, ty_ib, ?_⟩
  | with_reducible refine ⟨_, ty_tt, ?_⟩
  | with_reducible refine ⟨_, ty_tl, ?_⟩
  | with_reducible refine ⟨_, ty_bb, ?_⟩
  | with_reducible refine ⟨_, ty_bi, ?_⟩
  | with_reducible refine ⟨_, truth_bl, ?_⟩
  | with_reducible refine ⟨_, (rfl : PV.bl _ = PV.bl _), ?_⟩
  | with_reducible refine ⟨_, (rfl : PV.int _ = PV.int _), ?_⟩
  | (with_reducible refine And.intro (Nat.le_of_ble_eq_true (by with_unfolding_all exact rfl)) ?_)
  | refine ⟨fun _ => ?_, fun e => nomatch (e : true = false)⟩
  | refine ⟨fun e => (nomatch (e : false = true)), fun _ => ?_⟩
  | refine ⟨fun e => (nomatch (e : true = false)), fun _ => ?_⟩
  | refine ⟨fun _ => ?_, fun e => nomatch (e : false = true)⟩)
local macro_rules | `(tactic| walk_at "py") => `(tactic| first
  | (with_reducible refine ok_var (v := ?_) (by with_unfolding_all exact rfl) ?_)
  | with_reducible refine os_nil ?_
  | with_reducible refine os_cons ?_
  | with_reducible refine os_pass ?_
  | with_reducible refine os_retN ?_
  | with_reducible refine os_brk ?_
  | with_reducible refine os_cont ?_
  | with_reducible refine os_ret ?_
  | with_reducible refine os_expr ?_
  | with_reducible refine os_set ?_
  | with_reducible refine os_asg ?_
  | with_reducible refine os_par ?_
  | with_reducible refine os_par3 ?_
  | with_reducible refine os_setix ?_
  | with_reducible refine os_ite ?_
  | with_reducible refine os_for ?_
  | with_reducible refine os_while ?_
  | with_reducible refine ok_val ?_
  | with_reducible refine ok_bin ?_
  | with_reducible refine ok_neg ?_
  | with_reducible refine ok_cmp ?_
  | with_reducible refine ok_chain ?_
  | with_reducible refine ok_isin ?_
  | with_reducible refine ok_and ?_
  | with_reducible refine ok_or ?_
  | with_reducible refine ok_not ?_
  | with_reducible refine ok_ite ?_
  | with_reducible refine ok_tup ?_
  | with_reducible refine ok_call ?_
  | with_reducible refine ok_bi ?_
  | with_reducible refine ok_isi ?_
  | with_reducible refine ok_isis ?_
  | with_reducible refine ok_ix ?_
  | with_reducible refine ok_sl ?_
  | with_reducible refine ok_oN ?_
  | with_reducible refine ok_oS ?_
  | with_reducible refine ok_nil ?_
  | with_reducible refine ok_cons ?_
  | with_reducible refine ok_bval ?_
  | with_reducible refine ok_bbl ?_
  | with_reducible refine ok_bnot ?_
  | with_reducible refine ok_band ?_
  | with_reducible refine ok_bor ?_
  | with_reducible refine ok_ifN ?_
  | with_reducible refine ok_ifS ?_
  | with_reducible refine ok_rng1 ?_
  | with_reducible refine ok_rng2 ?_
  | with_reducible refine ok_over ?_
  | with_reducible refine ok_enum ?_
  | with_reducible refine ok_add ?_
  | with_reducible refine ok_sub ?_
  | (with_reducible refine ok_lc (by with_unfolding_all exact rfl) ?_)
  | with_reducible refine ⟨_, eq_int, ?_⟩
  | with_reducible refine ⟨_, ne_int, ?_⟩
  | with_reducible refine ⟨_, lt_int', ?_⟩
  | with_reducible refine ⟨_, le_int', ?_⟩
  | with_reducible refine ⟨_, gt_int', ?_⟩
  | with_reducible refine ⟨_, ge_int', ?_⟩
  | with_reducible refine ⟨_, eq_bl, ?_⟩
  | with_reducible refine ⟨_, ne_bl, ?_⟩
  | with_reducible refine ⟨_, ty_ii, ?_⟩
  | with_reducible refine ⟨_, ty_ib, ?_⟩
  | with_reducible refine ⟨_, ty_tt, ?_⟩
  | with_reducible refine ⟨_, ty_tl, ?_⟩
  | with_reducible refine ⟨_, ty_bb, ?_⟩
  | with_reducible refine ⟨_, ty_bi, ?_⟩
  | with_reducible refine ⟨_, truth_bl, ?_⟩
  | with_reducible refine ⟨_, (rfl : PV.bl _ = PV.bl _), ?_⟩
  | with_reducible refine ⟨_, (rfl : PV.int _ = PV.int _), ?_⟩
  | (with_reducible refine And.intro (Nat.le_of_ble_eq_true (by with_unfolding_all exact rfl)) ?_)
  | refine ⟨fun _ => ?_, fun e => nomatch (e : true = false)⟩
  | refine ⟨fun e => (nomatch (e : false = true)), fun _ => ?_⟩
  | refine ⟨fun e => (nomatch (e : true = false)), fun _ => ?_⟩
  | refine ⟨fun _ => ?_, fun e => nomatch (e : false = true)⟩)
local macro_rules | `(tactic| walk_at "wf") => `(tactic| first
  | assumption
  | exact Le.wf (by assumption)
  | (with_reducible refine wf_push ?_; walk_at "wf")
  | (with_reducible refine wf_set ?_; walk_at "wf"))
local macro_rules | `(tactic| walk_at "gt") => `(tactic| first
  | assumption
  | with_reducible exact get_new
  | (with_reducible refine get_old ?_; walk_at "gt")
  | (with_reducible refine Le.g (by assumption) ?_; walk_at "gt"))
local macro_rules | `(tactic| walk_at "le") => `(tactic| first
  | assumption
  | with_reducible exact Le.refl (by walk_at "wf")
  | (with_reducible refine Le.p ?_; walk_at "le")
  | (with_reducible refine Le.trans ?_ (by assumption); walk_at "le"))
/-- the stretch that begins ahead of k -/
def Ln.strI (L : Ln) (k : Int) : List Int := (List.range (L.rl L.many k + 2)).map fun i => (k - 1 + (i : Nat)) % (L.many : Int)
def Ln.preN (L : Ln) (j : Nat) : List Nat := (L.readyN.take j).filter fun (k : Nat) => !decide (L.rd ((k : Int) - 1))
def Ln.strs (L : Ln) : List (List Int) := (L.readyN.filter fun (k : Nat) => !decide (L.rd ((k : Int) - 1))).map fun k => L.strI ((k : Nat) : Int)
theorem tupsP_of : ∀ {fs : List (List Int)}, (∀ f ∈ fs, f ≠ []) → tupsP (fs.map tupI) = some fs
  | [], _ => rfl
  | [] :: _, h => absurd rfl (h [] List.mem_cons_self)
  | (i :: is) :: r, h => by
    show (match intsP (iL (i :: is)) with | some (i :: is) => (match tupsP (r.map tupI) with | some ts => some ((i :: is) :: ts) | none => none) | _ => none) = _
    rw [intsP_ints]
    dsimp only
    rw [tupsP_of fun f hf => h f (List.mem_cons_of_mem _ hf)]
theorem ok_sortedT {h : PH} {Q : PV → PH → Prop} {a : Nat} {fs : List (List Int)} (e : h.get a = some (.lst (fs.map tupI))) (hn : ∀ f ∈ fs, f ≠ []) (z : fs.length ≤ 100000) (q : Q (.ref h.n) (h.push (.lst ((sortT fs).map tupI)))) : Ok (biP .sorted [.ref a] h) Q := by
  have e1 : setOf (.ref a) h = none := by
    unfold setOf
    dsimp only
    rw [e]
  have e2 : seqL (.ref a) h = some (fs.map tupI) := seqL_lst e
  unfold biP
  dsimp only
  rw [e1]
  dsimp only
  cases fs with
  | nil =>
    have e3 : intsOf (.ref a) h = some [] := by
      unfold intsOf
      rw [seqOf_lst e]
      rfl
    rw [e3]
    exact q
  | cons f r =>
    have e3 : intsOf (.ref a) h = none := by
      unfold intsOf
      rw [seqOf_lst e]
      rfl
    have e4 : tupsOfL (.ref a) h = some (f :: r) := by
      unfold tupsOfL
      rw [e2]
      exact tupsP_of hn
    rw [e3]
    dsimp only
    rw [e4]
    dsimp only
    unfold okL small
    have hl : ((sortT (f :: r)).map tupI).length ≤ 100000 := by
      rw [List.length_map, (sortT_perm _).length_eq]
      exact z
    rw [Nat.ble_eq_true_of_le hl]
    exact q
theorem ix_last {h : PH} {a : Nat} {xs : List PV} {v : PV} (e : h.get a = some (.lst (xs ++ [v]))) : ixP (.ref a) (.int (-1)) h = some v := by
  unfold ixP
  dsimp only
  rw [seqOf_lst e]
  exact atI_last xs v
theorem strI_step {n : Int} (k : Int) (m : Nat) : ((List.range (m + 1 + 2)).map fun i => (k - 1 + ((i : Nat) : Int)) % n) = ((List.range (m + 2)).map fun i => (k - 1 + ((i : Nat) : Int)) % n) ++ [(k + m + 1) % n] := by
  rw [show m + 1 + 2 = (m + 2) + 1 by omega, List.range_succ, List.map_append]
  refine congrArg _ (congrArg (fun x => [x % n]) ?_)
  omega
theorem strI_last {n : Int} (k : Int) (m : Nat) : ((List.range (m + 2)).map fun i => (k - 1 + ((i : Nat) : Int)) % n) = ((List.range (m + 1)).map fun i => (k - 1 + ((i : Nat) : Int)) % n) ++ [(k + m) % n] := by
  rw [show m + 2 = (m + 1) + 1 by omega, List.range_succ, List.map_append]
  refine congrArg _ (congrArg (fun x => [x % n]) ?_)
  omega
section
variable {P : Prg} {ix : Nat → Nat} {d : Nat} {h : PH} {Q : PV → PH → Prop}
theorem f_stretches_in (H4 : Has P ix 4 cf_held_in) (H5 : Has P ix 5 cf_flanks) (H6 : Has P ix 6 cf_is_flanked) (H7 : Has P ix 7 cf_ready_in) (H : Has P ix 13 cf_stretches_in) {L : Ln} (G : Good1 L) (w : Wf h) (q : ∀ i h', Le none h h' → h.n ≤ i → h'.get i = some (.lst ((sortT L.strs).map tupI)) → Q (.ref i) h') :
    Ok (callP P 1000 (d + 4) (ix 13) [L.v] h) Q := by
  have h40 := G.most
  have h0 := G.one
  have hm : (0 : Int) < (L.cells.length : Nat) := by
    have : 1 ≤ L.cells.length := h0
    omega
  refine ok_def H rfl ?_
  repeat walk_at "px"
  refine f_ready_in H4 H5 H6 H7 G w fun i h1 l1 hi g1 => ?_
  repeat walk_at "px"
  refine ⟨_, rfl, ?_⟩
  repeat walk_at "px"
  refine ok_len (xs := iL L.cells) (by rfl) ?_
  rw [List.length_map]
  repeat walk_at "px"
  have hi1 := get_lt g1
  have gn : h1.get i = some (.lst (nL L.readyN)) := by rw [← ready_nL]; exact g1
  refine .inl ⟨i, nL L.readyN, rfl, seqL_lst (get_old gn), ?_⟩
  have rl := ready_len (L := L)
  refine os_forL (fun j st h' => j ≤ L.readyN.length ∧ Le none h1 h' ∧ h'.get h1.n = some (.lst (((L.preN j).map fun k => L.strI ((k : Nat) : Int)).map tupI)) ∧ ∃ s4 s5, st = [some L.v, some (.ref i), some (.int ((L.cells.length : Nat) : Int)), some (.ref h1.n), s4, s5]) L.readyN.length (fun j st h' ⟨i1, i2, i3, s4, s5, i4⟩ => ⟨i1, ?_⟩) _ 0 _ _ (by omega)
    ⟨Nat.zero_le _, Le.push l1.wf, get_new, none, none, rfl⟩
  subst i4
  rw [iv_lst (p := none) gn (by intro z; cases z) j h' i2]
  have gi := i2.get _ _ (by intro z; cases z) g1
  have plen : (L.preN j).length ≤ 40 := by
    unfold Ln.preN
    refine Nat.le_trans (List.length_filter_le _ _) ?_
    rw [List.length_take]
    omega
  cases e : L.readyN[j]? with
  | none =>
    have e2 : (nL L.readyN)[j]? = none := by
      unfold nL
      rw [List.getElem?_map, e]
      rfl
    rw [e2]
    refine .inl ⟨rfl, ?_⟩
    have ej : L.readyN.take j = L.readyN := List.take_of_length_le (List.getElem?_eq_none_iff.mp e)
    have es : (L.preN j).map (fun k => L.strI ((k : Nat) : Int)) = L.strs := by
      unfold Ln.preN Ln.strs
      rw [ej]
    rw [es] at i3
    repeat walk_at "px"
    refine ok_sortedT i3 (fun f hf => ?_) (by rw [← es, List.length_map]; omega) ?_
    · obtain ⟨k, _, rfl⟩ := List.mem_map.mp hf
      unfold Ln.strI
      intro z
      have := congrArg List.length z
      rw [List.length_map, List.length_range] at this
      cases this
    · exact q _ _ ((l1.trans i2).p) (by have := (l1.trans i2).n; exact this) get_new
  | some k =>
    have e2 : (nL L.readyN)[j]? = some (.int ((k : Nat) : Int)) := by
      unfold nL
      rw [List.getElem?_map, e]
      rfl
    rw [e2]
    refine .inr ⟨_, _, rfl, rfl, ?_⟩
    have hk := Ln.readyN_mem.mp (List.mem_of_getElem? e)
    have hj : j < L.readyN.length := (List.getElem?_eq_some_iff.mp e).1
    have tk : L.readyN.take (j + 1) = L.readyN.take j ++ [k] := by
      rw [List.take_add_one, e]
      rfl
    repeat walk_at "px"
    refine ok_mod hm ?_
    repeat walk_at "px"
    refine ⟨_, in_ints (seqOf_lst gi), ?_⟩
    have em : decide ((((k : Nat) : Int) - 1) % ((L.cells.length : Nat) : Int) ∈ L.ready) = decide (L.rd ((k : Int) - 1)) := decide_eq_decide.mpr (Ln.ready_mod h0 _)
    rw [em]
    repeat walk_at "px"
    refine ⟨fun e1 => ?_, fun e1 => ?_⟩
    · have e1 : (!decide (L.rd ((k : Int) - 1))) = true := e1
      have nr : ¬ L.rd ((k : Int) - 1) := by
        rw [Bool.not_eq_true'] at e1
        exact of_decide_eq_false e1
      have R := Ln.run_at h0 nr
      have rle := Ln.rl_le (L := L) L.many (k : Int)
      repeat walk_at "px"
      refine ok_mod hm ?_
      repeat walk_at "px"
      refine os_whL (fun m st h2 => ∃ c : Nat, c + m = L.rl L.many (k : Int) ∧ Le none h' h2 ∧ h2.get h'.n = some (.lst (iL ((List.range (c + 2)).map fun i => ((k : Int) - 1 + ((i : Nat) : Int)) % ((L.cells.length : Nat) : Int)))) ∧ st = [some L.v, some (.ref i), some (.int ((L.cells.length : Nat) : Int)), some (.ref h1.n), some (.int (k : Int)), some (.ref h'.n)])
        (fun m st h2 ⟨c, j1, j2, j3, j4⟩ => ?_) _ (L.rl L.many (k : Int)) _ _ (by omega) ⟨0, by omega, Le.push i2.wf, ?_, rfl⟩
      · subst j4
        have j3' := j3
        rw [strI_last, ← iL_app] at j3'
        have gi2 := j2.get _ _ (by intro z; cases z) gi
        repeat walk_at "px"
        refine ⟨_, ix_last j3', ?_⟩
        repeat walk_at "px"
        refine ⟨_, in_ints (seqOf_lst gi2), ?_⟩
        have em2 : decide (((k : Int) + (c : Int)) % ((L.cells.length : Nat) : Int) ∈ L.ready) = decide (L.rd ((k : Int) + c)) := decide_eq_decide.mpr (Ln.ready_mod h0 _)
        rw [em2]
        repeat walk_at "px"
        refine ⟨fun e3 => ?_, fun e3 => ?_⟩
        · have e3 : decide (L.rd ((k : Int) + c)) = false := e3
          have cm : m = 0 := by
            refine Nat.eq_zero_of_not_pos fun z => of_decide_eq_false e3 (R.mid c (by omega))
          subst cm
          have cr : c = L.rl L.many (k : Int) := by omega
          refine os_cons (os_expr (ok_mt (ok_var rfl ⟨⟨_, seqL_lst (j2.get _ _ (by intro z; cases z) i3)⟩, ?_⟩)))
          repeat walk_at "px"
          refine ok_tupleOf (seqOf_lst j3) (by rw [List.length_map, List.length_map, List.length_range]; omega) ?_
          repeat walk_at "px"
          have i3' := j2.get _ _ (by intro z; cases z) i3
          have i3' : h2.get h1.n = some (.lst (((L.preN j).map fun k => L.strI ((k : Nat) : Int)).map tupI)) := i3'
          refine ok_append i3' (by rw [List.length_map, List.length_map]; omega) ?_
          repeat walk_at "px"
          have l2 := i2.trans j2
          refine ⟨hj, Le.set l2 (Nat.le_refl _) i3', ?_, _, _, rfl⟩
          rw [get_at_set l2.wf i3']
          have ep : L.preN (j + 1) = L.preN j ++ [k] := by
            unfold Ln.preN
            rw [tk, List.filter_append]
            refine congrArg _ ?_
            rw [List.filter_cons, e1]
            rfl
          rw [ep, List.map_append, List.map_append]
          refine congrArg (fun x => some (PO.lst (_ ++ [x]))) ?_
          show _ = tupI (L.strI (k : Int))
          unfold Ln.strI tupI
          rw [← cr]
          rfl
        · have e3 : decide (L.rd ((k : Int) + c)) = true := e3
          have cm : 0 < m := by
            refine Nat.pos_of_ne_zero fun z => ?_
            have cr : c = L.rl L.many (k : Int) := by omega
            have := R.post
            rw [← cr] at this
            exact this (of_decide_eq_true e3)
          refine ⟨cm, ?_⟩
          refine os_cons (os_expr (ok_mt (ok_var rfl ⟨⟨_, seqL_lst j3⟩, ?_⟩)))
          repeat walk_at "px"
          refine ⟨_, ix_last j3', ?_⟩
          repeat walk_at "px"
          refine ok_mod hm ?_
          repeat walk_at "px"
          refine ok_append j3 (by rw [List.length_map, List.length_map, List.length_range]; omega) ?_
          repeat walk_at "px"
          refine ⟨c + 1, by omega, Le.set j2 (Nat.le_refl _) j3, ?_, rfl⟩
          rw [get_at_set j2.wf j3, strI_step, ← iL_app]
          refine congrArg (fun x => some (PO.lst (_ ++ [PV.int x]))) ?_
          have q1 : ((k : Int) + c) % ((L.cells.length : Nat) : Int) % ((L.cells.length : Nat) : Int) = ((k : Int) + c) % ((L.cells.length : Nat) : Int) := Int.emod_emod_of_dvd _ (Int.dvd_refl _)
          exact emod_add_one q1 1
      · rw [get_new]
        refine congrArg (fun x => some (PO.lst x)) ?_
        have k1 : ((k : Int) - 1 + ((1 : Nat) : Int)) % ((L.cells.length : Nat) : Int) = k := by
          rw [show (k : Int) - 1 + ((1 : Nat) : Int) = k by omega]
          have : k < L.cells.length := hk.1
          exact Int.emod_eq_of_lt (by omega) (by omega)
        have k0 : ((k : Int) - 1 + ((0 : Nat) : Int)) % ((L.cells.length : Nat) : Int) = ((k : Int) - 1) % ((L.cells.length : Nat) : Int) := by
          rw [show (k : Int) - 1 + ((0 : Nat) : Int) = (k : Int) - 1 by omega]
        show [PV.int (((k : Int) - 1) % ((L.cells.length : Nat) : Int)), PV.int (k : Int)] = [PV.int (((k : Int) - 1 + ((0 : Nat) : Int)) % ((L.cells.length : Nat) : Int)), PV.int (((k : Int) - 1 + ((1 : Nat) : Int)) % ((L.cells.length : Nat) : Int))]
        rw [k1, k0]
    · have e1 : (!decide (L.rd ((k : Int) - 1))) = false := e1
      repeat walk_at "px"
      refine ⟨hj, i2, ?_, _, _, rfl⟩
      have ep : L.preN (j + 1) = L.preN j := by
        unfold Ln.preN
        rw [tk, List.filter_append]
        have : [k].filter (fun (k : Nat) => !decide (L.rd ((k : Int) - 1))) = [] := by
          rw [List.filter_cons, e1]
          rfl
        rw [this, List.append_nil]
      rw [ep]
      exact i3
end
end Pyx

set_option Elab.async false
set_option linter.all false
set_option maxRecDepth 100000
set_option maxHeartbeats 400000
namespace Pyx
open PySem L2
local macro_rules | `(tactic| walk_at "px") => `(tactic| first
  | (with_reducible refine ok_var (v := ?_) (by with_unfolding_all exact rfl) ?_)
  | with_reducible refine os_nil ?_
  | with_reducible refine os_cons ?_
  | with_reducible refine os_pass ?_
  | with_reducible refine os_retN ?_
  | with_reducible refine os_brk ?_
  | with_reducible refine os_cont ?_
  | with_reducible refine os_ret ?_
  | with_reducible refine os_expr ?_
  | with_reducible refine os_set ?_
  | with_reducible refine os_asg ?_
  | with_reducible refine os_par ?_
  | with_reducible refine os_par3 ?_
  | with_reducible refine os_setix ?_
  | with_reducible refine os_ite ?_
  | with_reducible refine os_for ?_
  | with_reducible refine os_while ?_
  | with_reducible refine ok_val ?_
  | with_reducible refine ok_bin ?_
  | with_reducible refine ok_neg ?_
  | with_reducible refine ok_cmp ?_
  | with_reducible refine ok_chain ?_
  | with_reducible refine ok_isin ?_
  | with_reducible refine ok_and ?_
  | with_reducible refine ok_or ?_
  | with_reducible refine ok_not ?_
  | with_reducible refine ok_ite ?_
  | with_reducible refine ok_tup ?_
  | with_reducible refine ok_lst ?_
  | with_reducible refine ok_call ?_
  | with_reducible refine ok_bi ?_
  | with_reducible refine ok_isi ?_
  | with_reducible refine ok_isis ?_
  | with_reducible refine ok_ix ?_
  | with_reducible refine ok_sl ?_
  | with_reducible refine ok_oN ?_
  | with_reducible refine ok_oS ?_
  | with_reducible refine ok_nil ?_
  | with_reducible refine ok_cons ?_
  | with_reducible refine ok_bval ?_
  | with_reducible refine ok_bbl ?_
  | with_reducible refine ok_bnot ?_
  | with_reducible refine ok_band ?_
  | with_reducible refine ok_bor ?_
  | with_reducible refine ok_ifN ?_
  | with_reducible refine ok_ifS ?_
  | with_reducible refine ok_rng1 ?_
  | with_reducible refine ok_rng2 ?_
  | with_reducible refine ok_over ?_
  | with_reducible refine ok_enum ?_
  | with_reducible refine ok_add ?_
  | with_reducible refine ok_sub ?_
  | (with_reducible refine ok_lc (by with_unfolding_all exact rfl) ?_)
  | with_reducible refine ⟨_, eq_int, ?_⟩
  | with_reducible refine ⟨_, ne_int, ?_⟩
  | with_reducible refine ⟨_, lt_int', ?_⟩
  | with_reducible refine ⟨_, le_int', ?_⟩
  | with_reducible refine ⟨_, gt_int', ?_⟩
  | with_reducible refine ⟨_, ge_int', ?_⟩
  | with_reducible refine ⟨_, eq_bl, ?_⟩
  | with_reducible refine ⟨_, ne_bl, ?_⟩
  | with_reducible refine ⟨_, ty_ii, ?_⟩
  | with_reducible refine ⟨_, ty_ib, ?_⟩
  | with_reducible refine ⟨_, ty_tt, ?_⟩
  | with_reducible refine ⟨_, ty_tl, ?_⟩
  | with_reducible refine ⟨_, ty_bb, ?_⟩
  | with_reducible refine ⟨_, ty_bi, ?_⟩
  | with_reducible refine ⟨_, truth_bl, ?_⟩
  | with_reducible refine ⟨_, (rfl : PV.bl _ = PV.bl _), ?_⟩
  | with_reducible refine ⟨_, (rfl : PV.int _ = PV.int _), ?_⟩
  | (with_reducible refine And.intro (Nat.le_of_ble_eq_true (by with_unfolding_all exact rfl)) ?_)
  | refine ⟨fun _ => ?_, fun e => nomatch (e : true = false)⟩
  | refine ⟨fun e => (nomatch (e : false = true)), fun _ => ?_⟩
  | refine ⟨fun e => (nomatch (e : true = false)), fun _ => ?_⟩
  | refine ⟨fun _ => ?_, fun e => nomatch (e : false = true)⟩)
theorem rep_one {α : Type} : ∀ (n : Nat) (x : α), (List.replicate n [x]).flatten = List.replicate n x
  | 0, _ => rfl
  | n + 1, x => by
    rw [List.replicate_succ, List.flatten_cons, rep_one n x, List.replicate_succ]
    rfl
theorem ok_mulZ {h : PH} {Q : PV → PH → Prop} {a n : Nat} {x : PV} (e : h.get a = some (.lst [x])) (z : n ≤ 1000) (q : Q (.ref h.n) (h.push (.lst (List.replicate n x)))) : Ok (binP .mul (.ref a) (.int (n : Int)) h) Q := by
  unfold binP lstAt
  dsimp only
  rw [e]
  dsimp only
  rw [decide_eq_true (by omega : (0 : Int) ≤ (n : Int)), decide_eq_true (by omega : (n : Int) ≤ 1000), Int.toNat_natCast]
  have e1 : (List.replicate n [x]).flatten = List.replicate n x := rep_one n x
  show Ok (okL (List.replicate n [x]).flatten h) Q
  rw [e1]
  unfold okL small
  rw [Nat.ble_eq_true_of_le (by rw [List.length_replicate]; omega : (List.replicate n x).length ≤ 100000)]
  exact q
theorem ok_min2 {h : PH} {Q : PV → PH → Prop} {i j : Int} (q : Q (.int (if j < i then j else i)) h) : Ok (biP .min [.int i, .int j] h) Q := q
theorem Ln.dp_congr {L : Ln} {a b : Int} (e : a % (L.many : Int) = b % (L.many : Int)) : ∀ T, L.dp T a = L.dp T b
  | 0 => rfl
  | T + 1 => by
    show L.dp T a + _ = L.dp T b + _
    have e1 : (L.aft T).rd a ↔ (L.aft T).rd b := Ln.rd_congr (by rw [Ln.aft_many]; exact e)
    rw [Ln.dp_congr e T]
    by_cases z : (L.aft T).rd a
    · rw [if_pos z, if_pos (e1.mp z)]
    · rw [if_neg z, if_neg (fun y => z (e1.mpr y))]
/-- the depths written so far -/
def Ln.dV (L : Ln) (V : List Nat) : List Int := (List.range L.many).map fun j => if j ∈ V then ((L.dp L.many (j : Int) : Nat) : Int) else 0
def Ln.deps (L : Ln) : List Int := (List.range L.many).map fun (j : Nat) => ((L.dp L.many (j : Int) : Nat) : Int)
theorem dV_len {L : Ln} {V : List Nat} : (L.dV V).length = L.many := by
  unfold Ln.dV
  rw [List.length_map, List.length_range]
theorem dV_nil {L : Ln} : L.dV [] = List.replicate L.many 0 := by
  refine List.ext_getElem (by rw [dV_len, List.length_replicate]) fun i h1 h2 => ?_
  simp [Ln.dV]
theorem dV_step {L : Ln} {V : List Nat} {j : Nat} : (L.dV V).set j ((L.dp L.many (j : Int) : Nat) : Int) = L.dV (V ++ [j]) := by
  refine List.ext_getElem (by rw [List.length_set, dV_len, dV_len]) fun i h1 h2 => ?_
  rw [List.getElem_set]
  simp only [Ln.dV, List.getElem_map, List.getElem_range, List.mem_append, List.mem_singleton]
  by_cases e : j = i
  · subst e
    rw [if_pos rfl, if_pos (.inr rfl)]
  · rw [if_neg e]
    have e' : ¬ i = j := fun z => e z.symm
    by_cases m : i ∈ V
    · rw [if_pos m, if_pos (.inl m)]
    · rw [if_neg m, if_neg (fun z => by rcases z with z | z; exact m z; exact e' z)]
theorem strI_get {L : Ln} {k : Int} {a : Nat} (h : a < (L.strI k).length) : (L.strI k)[a] = (k - 1 + (a : Nat)) % (L.many : Int) := by
  simp only [Ln.strI, List.getElem_map, List.getElem_range]
theorem strI_len {L : Ln} {k : Int} : (L.strI k).length = L.rl L.many k + 2 := by
  unfold Ln.strI
  rw [List.length_map, List.length_range]
/-- what is a stretch of the line -/
theorem strs_mem {L : Ln} {f : List Int} (h : f ∈ L.strs) : ∃ k : Nat, k < L.many ∧ ¬ L.rd ((k : Int) - 1) ∧ f = L.strI (k : Int) := by
  unfold Ln.strs at h
  obtain ⟨k, hk, rfl⟩ := List.mem_map.mp h
  rw [List.mem_filter, Bool.not_eq_true'] at hk
  exact ⟨k, (Ln.readyN_mem.mp hk.1).1, of_decide_eq_false hk.2, rfl⟩
/-- a ready cell of a line that does not swing stands inside one of them -/
theorem strs_all {L : Ln} (h0 : 1 ≤ L.many) (hS : ¬ L.Swing) {j : Nat} (hj : j < L.many) (r : L.rd j) : ∃ f ∈ L.strs, ∃ a, 1 ≤ a ∧ a + 1 < f.length ∧ f[a]? = some ((j : Nat) : Int) := by
  obtain ⟨b, hb⟩ : ∃ b, ¬ L.rd b := Classical.byContradiction fun z => hS fun k => Classical.byContradiction fun y => z ⟨k, y⟩
  obtain ⟨i, i1, i2, i3⟩ := Ln.in_run r hb h0
  have hp : (0 : Int) < L.many := by omega
  have n1 := Int.emod_nonneg ((j : Int) - i + 1) (by omega : (L.many : Int) ≠ 0)
  have n2 := Int.emod_lt_of_pos ((j : Int) - i + 1) hp
  have ec : (((((j : Int) - i + 1) % (L.many : Int)).toNat : Nat) : Int) = ((j : Int) - i + 1) % (L.many : Int) := Int.toNat_of_nonneg n1
  have em : (((((j : Int) - i + 1) % (L.many : Int)).toNat : Nat) : Int) % (L.many : Int) = ((j : Int) - i + 1) % (L.many : Int) := by
    rw [ec]
    exact Int.emod_emod_of_dvd _ (Int.dvd_refl _)
  generalize ((((j : Int) - i + 1) % (L.many : Int)).toNat) = k at ec em
  have hk : k < L.many := by omega
  have rdk : ∀ x : Int, L.rd ((k : Int) + x) ↔ L.rd ((j : Int) - i + 1 + x) := fun x => Ln.rd_congr (emod_add_one em x)
  have pre : ¬ L.rd ((k : Int) - 1) := fun z => i2 (by
    have := (rdk (-1)).mp (by rw [show (k : Int) + -1 = k - 1 by omega]; exact z)
    rw [show (j : Int) - i + 1 + -1 = j - i by omega] at this
    exact this)
  have kr : L.rd k := by
    have := (rdk 0).mpr (by
      have := i3 (i - 1) (by omega)
      rw [show (j : Int) - ((i - 1 : Nat) : Int) = j - i + 1 + 0 by omega] at this
      exact this)
    rw [Int.add_zero] at this
    exact this
  have R := Ln.run_at h0 pre
  have il : i ≤ L.rl L.many (k : Int) := by
    refine Nat.le_of_not_lt fun z => R.post ((rdk _).mpr ?_)
    have := i3 (i - 1 - L.rl L.many (k : Int)) (by omega)
    rw [show (j : Int) - ((i - 1 - L.rl L.many (k : Int) : Nat) : Int) = j - i + 1 + (L.rl L.many (k : Int) : Nat) by omega] at this
    exact this
  refine ⟨L.strI k, ?_, i, i1, by rw [strI_len]; omega, ?_⟩
  · unfold Ln.strs
    refine List.mem_map.mpr ⟨k, ?_, rfl⟩
    rw [List.mem_filter, Bool.not_eq_true']
    exact ⟨Ln.readyN_mem.mpr ⟨hk, kr⟩, decide_eq_false pre⟩
  · have hl : i < (L.strI (k : Int)).length := by rw [strI_len]; omega
    rw [List.getElem?_eq_getElem hl, strI_get]
    refine congrArg some ?_
    have e1 := emod_add_one (emod_sub_one em 1) (i : Int)
    rw [e1, show (j : Int) - i + 1 - 1 + i = j by omega]
    exact Int.emod_eq_of_lt (by omega) (by omega)
/-- the value that is written -/
theorem strI_val {L : Ln} (h0 : 1 ≤ L.many) {k : Int} (pre : ¬ L.rd (k - 1)) {a : Nat} (h1 : 1 ≤ a) (h2 : a + 1 < (L.strI k).length) : ((L.dp L.many ((k - 1 + (a : Nat)) % (L.many : Int)) : Nat) : Int) = (if ((L.strI k).length : Int) - 1 - (a : Int) < (a : Int) then ((L.strI k).length : Int) - 1 - (a : Int) else (a : Int)) := by
  have R := Ln.run_at h0 pre
  have rle := Ln.rl_le (L := L) L.many k
  rw [strI_len] at h2 ⊢
  rw [Ln.dp_congr (Int.emod_emod_of_dvd _ (Int.dvd_refl _)), Ln.run_dp h0 R h1 (by omega)]
  split <;> omega
section
variable {P : Prg} {ix : Nat → Nat} {d : Nat} {h : PH} {Q : PV → PH → Prop}
theorem f_depths_in (H4 : Has P ix 4 cf_held_in) (H5 : Has P ix 5 cf_flanks) (H6 : Has P ix 6 cf_is_flanked) (H7 : Has P ix 7 cf_ready_in) (H13 : Has P ix 13 cf_stretches_in) (H : Has P ix 16 cf_depths_in) {L : Ln} (G : Good1 L) (s : L.swB = false) (w : Wf h)
    (q : ∀ i h', Le none h h' → h.n ≤ i → h'.get i = some (.lst (iL L.deps)) → Q (.ref i) h') : Ok (callP P 1000 (d + 5) (ix 16) [L.v] h) Q := by
  have h40 := G.most
  have h0 := G.one
  have hS : ¬ L.Swing := fun z => by rw [(Ln.swB_is G).mpr z] at s; cases s
  refine ok_def H rfl ?_
  repeat walk_at "px"
  refine ⟨_, rfl, ?_⟩
  repeat walk_at "px"
  refine ok_len (xs := iL L.cells) (by rfl) ?_
  rw [List.length_map]
  refine ok_mulZ get_new (Nat.le_trans h40 (by decide)) ?_
  have w1 := wf_push (o := PO.lst [.int 0]) w
  have w2 := wf_push (o := PO.lst (List.replicate L.cells.length (.int 0))) w1
  have l2 : Le none h ((h.push (.lst [.int 0])).push (.lst (List.replicate L.cells.length (.int 0)))) := (Le.push w).p
  have g2 : ((h.push (.lst [.int 0])).push (.lst (List.replicate L.cells.length (.int 0)))).get (h.push (.lst [.int 0])).n = some (.lst (iL (L.dV []))) := by
    rw [get_new, dV_nil, iL, List.map_replicate]
    rfl
  have fr : h.n ≤ (h.push (.lst [.int 0])).n := Nat.le_succ _
  generalize (h.push (.lst [.int 0])).push (.lst (List.replicate L.cells.length (.int 0))) = h2 at w2 l2 g2 ⊢
  generalize (h.push (.lst [.int 0])).n = D at g2 fr ⊢
  repeat walk_at "px"
  refine f_stretches_in H4 H5 H6 H7 H13 G w2 fun i h3 l3 hi g3 => ?_
  have dn := get_lt g2
  have g2' := l3.get _ _ (by intro z; cases z) g2
  have iD : i ≠ D := fun z => by omega
  refine .inl ⟨i, (sortT L.strs).map tupI, rfl, seqL_lst g3, ?_⟩
  have sl : (sortT L.strs).length ≤ 40 := by
    rw [(sortT_perm _).length_eq]
    unfold Ln.strs
    rw [List.length_map]
    exact Nat.le_trans (List.length_filter_le _ _) (Nat.le_trans ready_len h40)
  -- heaps: all but D stand; D's list is rewritten
  have keep : ∀ {h4 h5 : PH} {xs ys : List PV}, (Wf h4 ∧ h3.n ≤ h4.n ∧ (∀ j o, j ≠ D → h3.get j = some o → h4.get j = some o) ∧ h4.get D = some (.lst xs)) → h5 = h4.set D (.lst ys) → (Wf h5 ∧ h3.n ≤ h5.n ∧ (∀ j o, j ≠ D → h3.get j = some o → h5.get j = some o) ∧ h5.get D = some (.lst ys)) := fun ⟨a1, a2, a3, a4⟩ e => by
    subst e
    exact ⟨wf_set a1, a2, fun j o nj ej => get_of_set a1 a4 (a3 j o nj ej) nj, get_at_set a1 a4⟩
  refine os_forL (fun c st h4 => c ≤ (sortT L.strs).length ∧ ∃ V : List Nat, (Wf h4 ∧ h3.n ≤ h4.n ∧ (∀ j o, j ≠ D → h3.get j = some o → h4.get j = some o) ∧ h4.get D = some (.lst (iL (L.dV V)))) ∧ (∀ f ∈ (sortT L.strs).take c, ∀ a x, 1 ≤ a → a + 1 < f.length → f[a]? = some x → x.toNat ∈ V) ∧ ∃ s2 s3, st = [some L.v, some (.ref D), s2, s3]) (sortT L.strs).length (fun c st h4 ⟨i1, V, i2, i3, s2, s3, i4⟩ => ⟨i1, ?_⟩) _ 0 _ _ (by omega)
    ⟨Nat.zero_le _, [], ⟨l3.wf, Nat.le_refl _, fun _ _ _ e => e, g2'⟩, fun f hf => (nomatch hf), none, none, rfl⟩
  subst i4
  have gi := i2.2.2.1 i _ iD g3
  have ei : ivN (.lst i) c h4 = pick ((sortT L.strs).map tupI)[c]? := by
    unfold ivN
    dsimp only
    rw [seqL_lst gi]
  rw [ei, List.getElem?_map]
  cases e : (sortT L.strs)[c]? with
  | none =>
    refine .inl ⟨rfl, ?_⟩
    have ec : (sortT L.strs).take c = sortT L.strs := List.take_of_length_le (List.getElem?_eq_none_iff.mp e)
    rw [ec] at i3
    repeat walk_at "px"
    have ed : L.dV V = L.deps := by
      unfold Ln.dV Ln.deps
      refine List.map_congr_left fun j hj => ?_
      by_cases m : j ∈ V
      · rw [if_pos m]
      · rw [if_neg m]
        by_cases r : L.rd j
        · obtain ⟨f, hf, a, a1, a2, a3⟩ := strs_all h0 hS (List.mem_range.mp hj) r
          have := i3 f ((sortT_perm _).mem_iff.mpr hf) a _ a1 a2 a3
          rw [Int.toNat_natCast] at this
          exact absurd this m
        · rw [Ln.dp_none h0 r]
          rfl
    refine q D h4 ⟨i2.1, Nat.le_trans l2.n (Nat.le_trans l3.n i2.2.1), fun j o _ ej => ?_, fun j k => by cases k⟩ fr (by rw [← ed]; exact i2.2.2.2)
    exact i2.2.2.1 j o (fun z => by have := get_lt ej; omega) (l3.get _ _ (by intro z; cases z) (l2.get _ _ (by intro z; cases z) ej))
  | some f =>
    refine .inr ⟨_, _, rfl, rfl, ?_⟩
    have fm : f ∈ L.strs := (sortT_perm _).mem_iff.mp (List.mem_of_getElem? e)
    obtain ⟨k, hk, pre, rfl⟩ := strs_mem fm
    have hc : c < (sortT L.strs).length := (List.getElem?_eq_some_iff.mp e).1
    have tk : (sortT L.strs).take (c + 1) = (sortT L.strs).take c ++ [L.strI (k : Int)] := by
      rw [List.take_add_one, e]
      rfl
    have rle := Ln.rl_le (L := L) L.many (k : Int)
    have fl := strI_len (L := L) (k := (k : Int))
    unfold tupI
    repeat walk_at "px"
    refine ok_len (xs := iL (L.strI (k : Int))) (by rfl) ?_
    rw [List.length_map]
    repeat walk_at "px"
    refine ⟨⟨by decide, by decide, by omega, by omega⟩, ?_⟩
    have et : (((L.strI (k : Int)).length : Int) - 1 - 1).toNat = L.rl L.many (k : Int) := by omega
    rw [et]
    refine os_forL (fun b st h5 => b ≤ L.rl L.many (k : Int) ∧ ∃ V' : List Nat, (∀ x ∈ V, x ∈ V') ∧ (Wf h5 ∧ h3.n ≤ h5.n ∧ (∀ j o, j ≠ D → h3.get j = some o → h5.get j = some o) ∧ h5.get D = some (.lst (iL (L.dV V')))) ∧ (∀ a x, 1 ≤ a → a < b + 1 → (L.strI (k : Int))[a]? = some x → x.toNat ∈ V') ∧ ∃ s3, st = [some L.v, some (.ref D), some (.tup (iL (L.strI (k : Int)))), s3]) (L.rl L.many (k : Int)) (fun b st h5 ⟨j1, V', j2, j3, j4, s3, j5⟩ => ⟨j1, ?_⟩) _ 0 _ _ (by omega)
      ⟨Nat.zero_le _, V, fun _ z => z, i2, fun a x a1 a2 => by omega, s3, rfl⟩
    subst j5
    rw [iv_rng]
    by_cases hb : b < L.rl L.many (k : Int)
    · have e5 : (rng 1 (L.rl L.many (k : Int)))[b]? = some (.int (1 + (b : Nat))) := by
        unfold rng
        rw [List.getElem?_map, List.getElem?_range hb]
        rfl
      rw [e5]
      refine .inr ⟨_, _, rfl, rfl, ?_⟩
      have hb2 : b + 1 < (L.strI (k : Int)).length := by omega
      have eb : (1 : Int) + (b : Nat) = ((b + 1 : Nat) : Int) := by omega
      rw [eb]
      repeat walk_at "px"
      refine ok_len (xs := iL (L.strI (k : Int))) (by rfl) ?_
      rw [List.length_map]
      repeat walk_at "px"
      refine ok_min2 ?_
      have hp : (0 : Int) < L.many := by omega
      have n1 := Int.emod_nonneg ((k : Int) - 1 + ((b + 1 : Nat) : Int)) (by omega : (L.many : Int) ≠ 0)
      have n2 := Int.emod_lt_of_pos ((k : Int) - 1 + ((b + 1 : Nat) : Int)) hp
      have eg : (L.strI (k : Int))[b + 1]? = some (((k : Int) - 1 + ((b + 1 : Nat) : Int)) % (L.many : Int)) := by
        rw [List.getElem?_eq_getElem hb2, strI_get]
      have ev := strI_val h0 pre (a := b + 1) (by omega) (by omega)
      rw [← ev]
      repeat walk_at "px"
      refine ⟨_, tup_ix (by rw [List.getElem?_map, eg]; rfl), ?_⟩
      have ec : (((((k : Int) - 1 + ((b + 1 : Nat) : Int)) % (L.many : Int)).toNat : Nat) : Int) = ((k : Int) - 1 + ((b + 1 : Nat) : Int)) % (L.many : Int) := Int.toNat_of_nonneg n1
      generalize ((k : Int) - 1 + ((b + 1 : Nat) : Int)) % (L.many : Int) = x at n1 n2 eg ec ⊢
      rw [← ec]
      refine ⟨_, set_lst j3.2.2.2 (by rw [List.length_map, dV_len]; omega), ?_⟩
      repeat walk_at "px"
      refine ⟨by omega, V' ++ [x.toNat], fun y hy => List.mem_append_left _ (j2 y hy), ?_, fun a y a1 a2 a3 => ?_, _, rfl⟩
      · have es : (iL (L.dV V')).set x.toNat (.int ((L.dp L.many ((x.toNat : Nat) : Int) : Nat) : Int)) = iL (L.dV (V' ++ [x.toNat])) := by
          rw [← dV_step]
          exact (List.map_set ..).symm
        rw [es]
        exact keep j3 rfl
      · by_cases q1 : a < b + 1
        · exact List.mem_append_left _ (j4 a y a1 q1 a3)
        · have : a = b + 1 := by omega
          subst this
          rw [eg] at a3
          cases a3
          exact List.mem_append_right _ (List.mem_singleton.mpr rfl)
    · have eb : b = L.rl L.many (k : Int) := by omega
      have e5 : (rng 1 (L.rl L.many (k : Int)))[b]? = none := List.getElem?_eq_none (by rw [rng_len]; omega)
      rw [e5]
      refine .inl ⟨rfl, ?_⟩
      repeat walk_at "px"
      refine ⟨hc, V', j3, fun g hg a x a1 a2 a3 => ?_, _, _, rfl⟩
      rw [tk] at hg
      rcases List.mem_append.mp hg with hg | hg
      · exact j2 _ (i3 g hg a x a1 a2 a3)
      · rw [List.mem_singleton.mp hg] at a2 a3
        exact j4 a x a1 (by omega) a3
end
end Pyx

set_option Elab.async false
set_option linter.all false
set_option maxRecDepth 100000
set_option maxHeartbeats 400000
namespace Pyx
open PySem L2
local macro_rules | `(tactic| walk_at "px") => `(tactic| first
  | (with_reducible refine ok_var (v := ?_) (by with_unfolding_all exact rfl) ?_)
  | with_reducible refine os_nil ?_
  | with_reducible refine os_cons ?_
  | with_reducible refine os_pass ?_
  | with_reducible refine os_retN ?_
  | with_reducible refine os_brk ?_
  | with_reducible refine os_cont ?_
  | with_reducible refine os_ret ?_
  | with_reducible refine os_expr ?_
  | with_reducible refine os_set ?_
  | with_reducible refine os_asg ?_
  | with_reducible refine os_par ?_
  | with_reducible refine os_par3 ?_
  | with_reducible refine os_setix ?_
  | with_reducible refine os_ite ?_
  | with_reducible refine os_for ?_
  | with_reducible refine os_while ?_
  | with_reducible refine ok_val ?_
  | with_reducible refine ok_bin ?_
  | with_reducible refine ok_neg ?_
  | with_reducible refine ok_cmp ?_
  | with_reducible refine ok_chain ?_
  | with_reducible refine ok_isin ?_
  | with_reducible refine ok_and ?_
  | with_reducible refine ok_or ?_
  | with_reducible refine ok_not ?_
  | with_reducible refine ok_ite ?_
  | with_reducible refine ok_tup ?_
  | with_reducible refine ok_lst ?_
  | with_reducible refine ok_call ?_
  | with_reducible refine ok_bi ?_
  | with_reducible refine ok_isi ?_
  | with_reducible refine ok_isis ?_
  | with_reducible refine ok_ix ?_
  | with_reducible refine ok_sl ?_
  | with_reducible refine ok_oN ?_
  | with_reducible refine ok_oS ?_
  | with_reducible refine ok_nil ?_
  | with_reducible refine ok_cons ?_
  | with_reducible refine ok_bval ?_
  | with_reducible refine ok_bbl ?_
  | with_reducible refine ok_bnot ?_
  | with_reducible refine ok_band ?_
  | with_reducible refine ok_bor ?_
  | with_reducible refine ok_ifN ?_
  | with_reducible refine ok_ifS ?_
  | with_reducible refine ok_rng1 ?_
  | with_reducible refine ok_rng2 ?_
  | with_reducible refine ok_over ?_
  | with_reducible refine ok_enum ?_
  | with_reducible refine ok_add ?_
  | with_reducible refine ok_sub ?_
  | (with_reducible refine ok_lc (by with_unfolding_all exact rfl) ?_)
  | with_reducible refine ⟨_, eq_int, ?_⟩
  | with_reducible refine ⟨_, ne_int, ?_⟩
  | with_reducible refine ⟨_, lt_int', ?_⟩
  | with_reducible refine ⟨_, le_int', ?_⟩
  | with_reducible refine ⟨_, gt_int', ?_⟩
  | with_reducible refine ⟨_, ge_int', ?_⟩
  | with_reducible refine ⟨_, eq_bl, ?_⟩
  | with_reducible refine ⟨_, ne_bl, ?_⟩
  | with_reducible refine ⟨_, ty_ii, ?_⟩
  | with_reducible refine ⟨_, ty_ib, ?_⟩
  | with_reducible refine ⟨_, ty_tt, ?_⟩
  | with_reducible refine ⟨_, ty_tl, ?_⟩
  | with_reducible refine ⟨_, ty_bb, ?_⟩
  | with_reducible refine ⟨_, ty_bi, ?_⟩
  | with_reducible refine ⟨_, truth_bl, ?_⟩
  | with_reducible refine ⟨_, (rfl : PV.bl _ = PV.bl _), ?_⟩
  | with_reducible refine ⟨_, (rfl : PV.int _ = PV.int _), ?_⟩
  | (with_reducible refine And.intro (Nat.le_of_ble_eq_true (by with_unfolding_all exact rfl)) ?_)
  | refine ⟨fun _ => ?_, fun e => nomatch (e : true = false)⟩
  | refine ⟨fun e => (nomatch (e : false = true)), fun _ => ?_⟩
  | refine ⟨fun e => (nomatch (e : true = false)), fun _ => ?_⟩
  | refine ⟨fun _ => ?_, fun e => nomatch (e : false = true)⟩)
theorem Ln.dp_le {L : Ln} (k : Int) : ∀ T, L.dp T k ≤ T
  | 0 => Nat.le_refl _
  | T + 1 => by
    have := Ln.dp_le (L := L) k T
    show L.dp T k + _ ≤ T + 1
    split <;> omega
theorem Ln.dp_stop {L : Ln} (h0 : 1 ≤ L.many) {k : Int} {s : Nat} (h : ¬ (L.aft s).rd k) : ∀ T, L.dp (s + T) k = L.dp s k
  | 0 => rfl
  | T + 1 => by
    have y : ¬ (L.aft (s + T)).rd k := fun z => h (Ln.rd_less h0 (s := s) (t := s + T) z (by omega) (by omega))
    show L.dp (s + T) k + (if (L.aft (s + T)).rd k then 1 else 0) = _
    rw [Ln.dp_stop h0 h T, if_neg y]
    rfl
/-- a line that does not swing is at rest behind as many steps as it has cells -/
theorem Ln.rest_many {L : Ln} (h0 : 1 ≤ L.many) (hS : ¬ L.Swing) (t : Nat) (ht : L.many ≤ t) (k : Int) : ¬ (L.aft t).rd k := by
  intro z
  obtain ⟨b, hb⟩ : ∃ b, ¬ L.rd b := Classical.byContradiction fun z => hS fun k => Classical.byContradiction fun y => z ⟨k, y⟩
  have hp : (0 : Int) < L.many := by omega
  have n1 := Int.emod_nonneg (b - k) (by omega : (L.many : Int) ≠ 0)
  have n2 := Int.emod_lt_of_pos (b - k) hp
  have := (Ln.rd_aft h0 t k).mp z ((b - k) % (L.many : Int)) (by omega) (by omega)
  refine hb ((Ln.rd_congr ?_).mp this)
  have e := Int.emod_add_mul_ediv (b - k) (L.many : Int)
  have : k + (b - k) % (L.many : Int) = b + (L.many : Int) * (-((b - k) / (L.many : Int))) := by
    rw [Int.mul_neg]
    omega
  rw [this, Int.add_mul_emod_self_left]
theorem Ln.rd_dp {L : Ln} (h0 : 1 ≤ L.many) (hS : ¬ L.Swing) (k : Int) (t : Nat) : (L.aft t).rd k ↔ t < L.dp L.many k := by
  by_cases ht : L.many ≤ t
  · have := Ln.dp_le (L := L) k L.many
    exact ⟨fun z => absurd z (Ln.rest_many h0 hS t ht k), fun z => by omega⟩
  · refine ⟨fun z => ?_, fun z => Classical.byContradiction fun y => ?_⟩
    · have e1 : L.dp (t + 1) k = t + 1 := Ln.dp_full h0 (t + 1) k fun s hs => Ln.rd_less h0 z (by omega) (by omega)
      have mono : ∀ n, L.dp (t + 1) k ≤ L.dp (t + 1 + n) k := fun n => by
        induction n with
        | zero => exact Nat.le_refl _
        | succ n ih => exact Nat.le_trans ih (Nat.le_add_right _ _)
      have := mono (L.many - (t + 1))
      rw [show t + 1 + (L.many - (t + 1)) = L.many by omega] at this
      omega
    · have e1 := Ln.dp_stop h0 y (L.many - t)
      rw [show t + (L.many - t) = L.many by omega] at e1
      have := Ln.dp_le (L := L) k t
      omega
theorem Ln.dp_of {L : Ln} (h0 : 1 ≤ L.many) (hS : ¬ L.Swing) (k : Int) (T : Nat) : L.dp T k = min T (L.dp L.many k) := Ln.dp_min (Ln.rd_dp h0 hS k) T
theorem Ln.dp_swing {L : Ln} (h0 : 1 ≤ L.many) (S : L.Swing) (k : Int) (T : Nat) : L.dp T k = T := Ln.dp_full h0 T k fun s _ => Ln.swing_aft h0 S s k
/-- how often each cell turns -/
def Ln.dps (L : Ln) (t : Nat) : List Int := (List.range L.many).map fun (j : Nat) => ((L.dp t (j : Int) : Nat) : Int)
theorem aft_cells {L : Ln} (t : Nat) : (L.aft t).cells = (List.range L.many).map fun (j : Nat) => (L.aft t).at (j : Int) := by
  have hm : (L.aft t).cells.length = L.many := Ln.aft_many t
  refine List.ext_getElem (by rw [List.length_map, List.length_range]; exact hm) fun i h1 h2 => ?_
  rw [List.getElem_map, List.getElem_range]
  exact (at_cells h1).symm
section
variable {P : Prg} {ix : Nat → Nat} {d : Nat} {h : PH} {Q : PV → PH → Prop}
theorem f_turns_in (H4 : Has P ix 4 cf_held_in) (H5 : Has P ix 5 cf_flanks) (H6 : Has P ix 6 cf_is_flanked) (H7 : Has P ix 7 cf_ready_in) (H11 : Has P ix 11 cf_swings_in) (H13 : Has P ix 13 cf_stretches_in) (H16 : Has P ix 16 cf_depths_in) (H : Has P ix 21 cf_turns_in) {L : Ln} (G : Good1 L) {t : Nat} (w : Wf h)
    (q : ∀ i h', Le none h h' → h.n ≤ i → h'.get i = some (.lst (iL (L.dps t))) → Q (.ref i) h') : Ok (callP P 1000 (d + 6) (ix 21) [L.v, .int t] h) Q := by
  have h40 := G.most
  have h0 := G.one
  refine ok_def H rfl ?_
  repeat walk_at "px"
  refine f_swings_in H4 H5 H6 H7 H11 G w fun h1 l1 => ?_
  refine ⟨_, truth_bl, fun e => ?_, fun e => ?_⟩
  · repeat walk_at "px"
    refine ⟨_, rfl, ?_⟩
    repeat walk_at "px"
    refine ok_len (xs := iL L.cells) (by rfl) ?_
    rw [List.length_map]
    refine ok_mulZ get_new (Nat.le_trans h40 (by decide)) ?_
    refine q _ _ l1.p.p (Nat.le_succ_of_le l1.n) ?_
    rw [get_new]
    refine congrArg (fun x => some (PO.lst x)) ?_
    refine List.ext_getElem (by rw [List.length_replicate, List.length_map, Ln.dps, List.length_map, List.length_range]; rfl) fun i h1 h2 => ?_
    simp [Ln.dps, Ln.dp_swing h0 ((Ln.swB_is G).mp e)]
  · have hS : ¬ L.Swing := fun z => by rw [(Ln.swB_is G).mpr z] at e; cases e
    repeat walk_at "px"
    refine f_depths_in H4 H5 H6 H7 H13 H16 G e l1.wf fun i h2 l2 hi g2 => ?_
    refine .inl ⟨i, iL L.deps, rfl, seqL_lst g2, ?_⟩
    have dl : (iL L.deps).length = L.many := by
      rw [List.length_map, Ln.deps, List.length_map, List.length_range]
    have dg : ∀ k, k < L.many → (iL L.deps)[k]? = some (.int ((L.dp L.many (k : Int) : Nat) : Int)) := fun k hk => by
      rw [List.getElem?_map, Ln.deps, List.getElem?_map, List.getElem?_range hk]
      rfl
    refine ok_lcI none (iL L.deps) h2 l2.wf (fun i e => by cases e) (fun k h' l => iv_lst (p := none) g2 (by intro z; cases z) k h' l) (by rw [dl]; omega) (fun k acc => acc = iL ((List.range k).map fun (j : Nat) => ((L.dp t (j : Int) : Nat) : Int))) rfl (fun k v acc h3 e3 i3 l3 => ?_) (fun acc h' i3 _ l g => ?_) (by rw [dl]; omega)
    · have hk : k < L.many := by
        rw [← dl]
        exact (List.getElem?_eq_some_iff.mp e3).1
      rw [dg k hk] at e3
      cases e3
      refine ⟨_, rfl, ?_⟩
      repeat walk_at "px"
      refine ⟨Le.refl l3.wf, fun e => (nomatch (e : true = false)), fun _ => ?_⟩
      repeat walk_at "px"
      refine ok_min2 ⟨Le.refl l3.wf, ?_⟩
      have e9 : (if ((L.dp L.many (k : Int) : Nat) : Int) < (t : Int) then ((L.dp L.many (k : Int) : Nat) : Int) else (t : Int)) = ((L.dp t (k : Int) : Nat) : Int) := by
        rw [Ln.dp_of h0 hS (k : Int) t]
        split <;> omega
      rw [i3, List.range_succ, List.map_append, ← iL_app, e9]
      rfl
    · rw [dl] at i3
      refine q _ h' ((l1.trans l2).trans l) (l1.trans l2).n ?_
      rw [g, i3]
      rfl
theorem f_cells_after (H4 : Has P ix 4 cf_held_in) (H5 : Has P ix 5 cf_flanks) (H6 : Has P ix 6 cf_is_flanked) (H7 : Has P ix 7 cf_ready_in) (H11 : Has P ix 11 cf_swings_in) (H13 : Has P ix 13 cf_stretches_in) (H16 : Has P ix 16 cf_depths_in) (H21 : Has P ix 21 cf_turns_in) (H : Has P ix 22 cf_cells_after) {L : Ln} (G : Good1 L) {t : Nat} (w : Wf h)
    (q : ∀ i h', Le none h h' → h.n ≤ i → h'.get i = some (.lst (iL (L.aft t).cells)) → Q (.ref i) h') : Ok (callP P 1000 (d + 7) (ix 22) [L.v, .int t] h) Q := by
  have h40 := G.most
  have h0 := G.one
  refine ok_def H rfl ?_
  repeat walk_at "px"
  refine ⟨_, rfl, ?_⟩
  repeat walk_at "px"
  refine f_turns_in H4 H5 H6 H7 H11 H13 H16 H21 G w fun i h2 l2 hi g2 => ?_
  refine .inl ⟨i, iL (L.dps t), rfl, seqL_lst g2, ?_⟩
  have dl : (iL (L.dps t)).length = L.many := by
    rw [List.length_map, Ln.dps, List.length_map, List.length_range]
  have dg : ∀ k, k < L.many → (iL (L.dps t))[k]? = some (.int ((L.dp t (k : Int) : Nat) : Int)) := fun k hk => by
    rw [List.getElem?_map, Ln.dps, List.getElem?_map, List.getElem?_range hk]
    rfl
  refine ok_lcI none ((List.range L.many).map fun (k : Nat) => .tup [.int (k : Int), .int ((L.dp t (k : Int) : Nat) : Int)]) h2 l2.wf (fun i e => by cases e) (fun k h' l => ?_) (by rw [List.length_map, List.length_range]; omega) (fun k acc => acc = iL ((List.range k).map fun (j : Nat) => (L.aft t).at (j : Int))) rfl (fun k v acc h3 e3 i3 l3 => ?_) (fun acc h' i3 _ l g => ?_) (by rw [List.length_map, List.length_range]; omega)
  · unfold ivN
    dsimp only
    rw [seqL_lst (l.get _ _ (by intro z; cases z) g2)]
    dsimp only
    by_cases hk : k < L.many
    · rw [dg k hk, List.getElem?_map, List.getElem?_range hk]
      rfl
    · rw [List.getElem?_eq_none (by rw [dl]; omega), List.getElem?_eq_none (by rw [List.length_map, List.length_range]; omega)]
      rfl
  · have hk : k < L.many := by
      have := (List.getElem?_eq_some_iff.mp e3).1
      rw [List.length_map, List.length_range] at this
      exact this
    rw [List.getElem?_map, List.getElem?_range hk] at e3
    cases e3
    refine ⟨_, rfl, ?_⟩
    repeat walk_at "px"
    refine ⟨Le.refl l3.wf, fun e => (nomatch (e : true = false)), fun _ => ?_⟩
    repeat walk_at "px"
    refine ok_mod (by decide) ?_
    repeat walk_at "px"
    have ea := Ln.at_aft h0 t (k : Int)
    refine ⟨fun e => ?_, fun e => ?_⟩
    · have e := of_decide_eq_true e
      rw [if_pos (by omega)] at ea
      repeat walk_at "px"
      refine ⟨_, at_pred hk, Le.refl l3.wf, ?_⟩
      rw [i3, List.range_succ, List.map_append, ← iL_app, ← ea]
      rfl
    · have e := of_decide_eq_false e
      rw [if_neg (by omega)] at ea
      repeat walk_at "px"
      refine ⟨_, at_small hk, Le.refl l3.wf, ?_⟩
      rw [i3, List.range_succ, List.map_append, ← iL_app, ← ea]
      rfl
  · rw [List.length_map, List.length_range] at i3
    refine q _ h' (l2.trans l) l2.n ?_
    rw [g, i3, aft_cells]
end
end Pyx

set_option Elab.async false
set_option linter.all false
set_option maxRecDepth 100000
set_option maxHeartbeats 400000
namespace Pyx
open PySem L2
local macro_rules | `(tactic| walk_at "px") => `(tactic| first
  | (with_reducible refine ok_var (v := ?_) (by with_unfolding_all exact rfl) ?_)
  | with_reducible refine os_nil ?_
  | with_reducible refine os_cons ?_
  | with_reducible refine os_pass ?_
  | with_reducible refine os_retN ?_
  | with_reducible refine os_brk ?_
  | with_reducible refine os_cont ?_
  | with_reducible refine os_ret ?_
  | with_reducible refine os_expr ?_
  | with_reducible refine os_set ?_
  | with_reducible refine os_asg ?_
  | with_reducible refine os_par ?_
  | with_reducible refine os_par3 ?_
  | with_reducible refine os_setix ?_
  | with_reducible refine os_ite ?_
  | with_reducible refine os_for ?_
  | with_reducible refine os_while ?_
  | with_reducible refine ok_val ?_
  | with_reducible refine ok_bin ?_
  | with_reducible refine ok_neg ?_
  | with_reducible refine ok_cmp ?_
  | with_reducible refine ok_chain ?_
  | with_reducible refine ok_isin ?_
  | with_reducible refine ok_and ?_
  | with_reducible refine ok_or ?_
  | with_reducible refine ok_not ?_
  | with_reducible refine ok_ite ?_
  | with_reducible refine ok_tup ?_
  | with_reducible refine ok_lst ?_
  | with_reducible refine ok_call ?_
  | with_reducible refine ok_bi ?_
  | with_reducible refine ok_isi ?_
  | with_reducible refine ok_isis ?_
  | with_reducible refine ok_ix ?_
  | with_reducible refine ok_sl ?_
  | with_reducible refine ok_oN ?_
  | with_reducible refine ok_oS ?_
  | with_reducible refine ok_nil ?_
  | with_reducible refine ok_cons ?_
  | with_reducible refine ok_bval ?_
  | with_reducible refine ok_bbl ?_
  | with_reducible refine ok_bnot ?_
  | with_reducible refine ok_band ?_
  | with_reducible refine ok_bor ?_
  | with_reducible refine ok_ifN ?_
  | with_reducible refine ok_ifS ?_
  | with_reducible refine ok_rng1 ?_
  | with_reducible refine ok_rng2 ?_
  | with_reducible refine ok_over ?_
  | with_reducible refine ok_enum ?_
  | with_reducible refine ok_add ?_
  | with_reducible refine ok_sub ?_
  | (with_reducible refine ok_lc (by with_unfolding_all exact rfl) ?_)
  | with_reducible refine ⟨_, eq_int, ?_⟩
  | with_reducible refine ⟨_, ne_int, ?_⟩
  | with_reducible refine ⟨_, lt_int', ?_⟩
  | with_reducible refine ⟨_, le_int', ?_⟩
  | with_reducible refine ⟨_, gt_int', ?_⟩
  | with_reducible refine ⟨_, ge_int', ?_⟩
  | with_reducible refine ⟨_, eq_bl, ?_⟩
  | with_reducible refine ⟨_, ne_bl, ?_⟩
  | with_reducible refine ⟨_, ty_ii, ?_⟩
  | with_reducible refine ⟨_, ty_ib, ?_⟩
  | with_reducible refine ⟨_, ty_tt, ?_⟩
  | with_reducible refine ⟨_, ty_tl, ?_⟩
  | with_reducible refine ⟨_, ty_bb, ?_⟩
  | with_reducible refine ⟨_, ty_bi, ?_⟩
  | with_reducible refine ⟨_, truth_bl, ?_⟩
  | with_reducible refine ⟨_, (rfl : PV.bl _ = PV.bl _), ?_⟩
  | with_reducible refine ⟨_, (rfl : PV.int _ = PV.int _), ?_⟩
  | (with_reducible refine And.intro (Nat.le_of_ble_eq_true (by with_unfolding_all exact rfl)) ?_)
  | refine ⟨fun _ => ?_, fun e => nomatch (e : true = false)⟩
  | refine ⟨fun e => (nomatch (e : false = true)), fun _ => ?_⟩
  | refine ⟨fun e => (nomatch (e : true = false)), fun _ => ?_⟩
  | refine ⟨fun _ => ?_, fun e => nomatch (e : false = true)⟩)
theorem Ln.stp_good {L : Ln} (G : Good1 L) : Good1 L.stp := by
  refine ⟨by rw [Ln.stp_many]; exact G.one, fun z => by rw [Ln.stp_many]; exact G.three z, by rw [Ln.stp_many]; exact G.most, fun c hc => ?_, G.srt, fun x hx => by rw [Ln.stp_many]; exact G.hin x hx⟩
  obtain ⟨j, hj, rfl⟩ := List.mem_map.mp (show c ∈ (List.range L.many).map _ from hc)
  have q := fun k => G.col _ (L.at_mem G.one k)
  by_cases hjk : j ∈ L.readyN
  · rw [if_pos hjk]; exact q _
  · rw [if_neg hjk]; exact q _
theorem Ln.aft_good {L : Ln} (G : Good1 L) : ∀ t, Good1 (L.aft t)
  | 0 => G
  | t + 1 => Ln.stp_good (Ln.aft_good G t)
theorem Ln.aft_held {L : Ln} : ∀ t, (L.aft t).held = L.held
  | 0 => rfl
  | t + 1 => Ln.aft_held t
theorem Ln.aft_ring {L : Ln} : ∀ t, (L.aft t).ring = L.ring
  | 0 => rfl
  | t + 1 => Ln.aft_ring t
theorem Ln.aft_v {L : Ln} (t : Nat) : (L.aft t).v = .tup [.tup (iL (L.aft t).cells), .tup (iL L.held), .bl L.ring] := by
  unfold Ln.v
  rw [Ln.aft_held, Ln.aft_ring]
section
variable {P : Prg} {ix : Nat → Nat} {d : Nat} {h : PH} {Q : PV → PH → Prop}
theorem f_need_time (H0 : Has P ix 0 cf_is_in) (H : Has P ix 18 cf_need_time) {t : Nat} (ht : t ≤ 1000000) (q : Q .non h) : Ok (callP P 1000 (d + 2) (ix 18) [.int t] h) Q := by
  refine ok_def H rfl ?_
  repeat walk_at "px"
  refine f_is_in H0 (by omega) (by omega) ?_
  repeat walk_at "px"
  exact q
theorem f_with_cells (H : Has P ix 19 cf_with_cells) {L : Ln} {v : PV} {cs : List Int} (e : seqOf v h = some (iL cs)) (z : cs.length ≤ 900) (q : Q (Ln.v ⟨cs, L.held, L.ring⟩) h) : Ok (callP P 1000 (d + 1) (ix 19) [L.v, v] h) Q := by
  refine ok_def H rfl ?_
  repeat walk_at "px"
  refine ok_tupleOf e (by rw [List.length_map]; omega) ?_
  repeat walk_at "px"
  refine ⟨_, rfl, ?_⟩
  repeat walk_at "px"
  refine ⟨_, rfl, ?_⟩
  repeat walk_at "px"
  exact q
theorem f_after (H0 : Has P ix 0 cf_is_in) (H2 : Has P ix 2 cf_is_cells) (H1 : Has P ix 1 cf_need_line) (H4 : Has P ix 4 cf_held_in) (H5 : Has P ix 5 cf_flanks) (H6 : Has P ix 6 cf_is_flanked) (H7 : Has P ix 7 cf_ready_in) (H11 : Has P ix 11 cf_swings_in) (H13 : Has P ix 13 cf_stretches_in) (H16 : Has P ix 16 cf_depths_in) (H18 : Has P ix 18 cf_need_time) (H19 : Has P ix 19 cf_with_cells) (H21 : Has P ix 21 cf_turns_in) (H22 : Has P ix 22 cf_cells_after) (H : Has P ix 23 cf_after)
    {L : Ln} (G : Good1 L) {t : Nat} (ht : t ≤ 1000000) (w : Wf h) (q : ∀ h', Le none h h' → Q (L.aft t).v h') : Ok (callP P 1000 (d + 8) (ix 23) [L.v, .int t] h) Q := by
  refine ok_def H rfl ?_
  repeat walk_at "px"
  refine f_need_line H0 H2 H1 G w fun h1 l1 => ?_
  repeat walk_at "px"
  refine f_need_time H0 H18 ht ?_
  repeat walk_at "px"
  refine f_cells_after H4 H5 H6 H7 H11 H13 H16 H21 H22 G l1.wf fun i h2 l2 _ g2 => ?_
  repeat walk_at "px"
  have hz : (L.aft t).cells.length ≤ 900 := by
    have : (L.aft t).cells.length = L.many := Ln.aft_many t
    have := G.most
    omega
  refine f_with_cells (L := L) H19 (seqOf_lst g2) hz ?_
  have := q _ (l1.trans l2)
  rw [Ln.aft_v] at this
  exact this
theorem f_step (H0 : Has P ix 0 cf_is_in) (H2 : Has P ix 2 cf_is_cells) (H1 : Has P ix 1 cf_need_line) (H4 : Has P ix 4 cf_held_in) (H5 : Has P ix 5 cf_flanks) (H6 : Has P ix 6 cf_is_flanked) (H7 : Has P ix 7 cf_ready_in) (H9 : Has P ix 9 cf_with_turned) (H19 : Has P ix 19 cf_with_cells) (H : Has P ix 20 cf_step) {L : Ln} (G : Good1 L) (w : Wf h) (q : ∀ h', Le none h h' → Q L.stp.v h') :
    Ok (callP P 1000 (d + 4) (ix 20) [L.v] h) Q := by
  have h40 := G.most
  refine ok_def H rfl ?_
  repeat walk_at "px"
  refine f_need_line H0 H2 H1 G w fun h1 l1 => ?_
  repeat walk_at "px"
  refine ⟨_, rfl, ?_⟩
  repeat walk_at "px"
  refine f_ready_in H4 H5 H6 H7 G l1.wf fun i h2 l2 _ g2 => ?_
  rw [ready_nL] at g2
  repeat walk_at "px"
  refine f_with_turned (ks := L.readyN) H9 G g2 (fun k hk => (Ln.readyN_mem.mp hk).1) (Nat.le_trans ready_len (by omega)) l2.wf fun h3 l3 => ?_
  repeat walk_at "px"
  exact f_with_cells (L := L) (cs := L.turn L.readyN) H19 rfl (by rw [turn_len]; omega) (q _ ((l1.trans l2).trans l3))
theorem f_turn_counts (H0 : Has P ix 0 cf_is_in) (H2 : Has P ix 2 cf_is_cells) (H1 : Has P ix 1 cf_need_line) (H4 : Has P ix 4 cf_held_in) (H5 : Has P ix 5 cf_flanks) (H6 : Has P ix 6 cf_is_flanked) (H7 : Has P ix 7 cf_ready_in) (H11 : Has P ix 11 cf_swings_in) (H13 : Has P ix 13 cf_stretches_in) (H15 : Has P ix 15 cf_need_resting) (H16 : Has P ix 16 cf_depths_in) (H : Has P ix 27 cf_turn_counts)
    {L : Ln} (G : Good1 L) (s : L.swB = false) (w : Wf h) (q : ∀ h', Le none h h' → Q (.tup (iL L.deps)) h') : Ok (callP P 1000 (d + 6) (ix 27) [L.v] h) Q := by
  have h40 := G.most
  refine ok_def H rfl ?_
  repeat walk_at "px"
  refine f_need_resting H0 H2 H1 H4 H5 H6 H7 H11 H15 G s w fun h1 l1 => ?_
  repeat walk_at "px"
  refine f_depths_in H4 H5 H6 H7 H13 H16 G s l1.wf fun i h2 l2 _ g2 => ?_
  repeat walk_at "px"
  exact ok_tupleOf (seqOf_lst g2) (by rw [List.length_map, Ln.deps, List.length_map, List.length_range]; omega) (q _ (l1.trans l2))
theorem f_turns_by (H0 : Has P ix 0 cf_is_in) (H2 : Has P ix 2 cf_is_cells) (H1 : Has P ix 1 cf_need_line) (H4 : Has P ix 4 cf_held_in) (H5 : Has P ix 5 cf_flanks) (H6 : Has P ix 6 cf_is_flanked) (H7 : Has P ix 7 cf_ready_in) (H11 : Has P ix 11 cf_swings_in) (H13 : Has P ix 13 cf_stretches_in) (H16 : Has P ix 16 cf_depths_in) (H18 : Has P ix 18 cf_need_time) (H21 : Has P ix 21 cf_turns_in) (H : Has P ix 28 cf_turns_by)
    {L : Ln} (G : Good1 L) {t : Nat} (ht : t ≤ 1000000) (w : Wf h) (q : ∀ h', Le none h h' → Q (.tup (iL (L.dps t))) h') : Ok (callP P 1000 (d + 7) (ix 28) [L.v, .int t] h) Q := by
  have h40 := G.most
  refine ok_def H rfl ?_
  repeat walk_at "px"
  refine f_need_line H0 H2 H1 G w fun h1 l1 => ?_
  repeat walk_at "px"
  refine f_need_time H0 H18 ht ?_
  repeat walk_at "px"
  refine f_turns_in H4 H5 H6 H7 H11 H13 H16 H21 G l1.wf fun i h2 l2 _ g2 => ?_
  repeat walk_at "px"
  exact ok_tupleOf (seqOf_lst g2) (by rw [List.length_map, Ln.dps, List.length_map, List.length_range]; omega) (q _ (l1.trans l2))
/-! ### the law's own step and run -/
theorem g_step (H41 : Has P ix 41 cf__law_held) (H42 : Has P ix 42 cf__law_ready) (H : Has P ix 43 cf__law_step) {L : Ln} (G : Good1 L) (w : Wf h) (q : ∀ h', Le none h h' → Q L.stp.v h') : Ok (callP P 1000 (d + 3) (ix 43) [L.v] h) Q := by
  have h40 := G.most
  refine ok_def H rfl ?_
  repeat walk_at "px"
  refine g_ready H41 H42 G w fun i h1 l1 _ g1 => ?_
  repeat walk_at "px"
  refine ⟨_, rfl, ?_⟩
  repeat walk_at "px"
  refine ok_len (xs := iL L.cells) (by rfl) ?_
  rw [List.length_map]
  repeat walk_at "px"
  refine ⟨⟨by omega, by show (L.many : Int) ≤ _; omega⟩, ?_⟩
  rw [show ((L.cells.length : Nat) : Int).toNat = L.many from Int.toNat_natCast _]
  refine ok_lcI none (rng 0 L.many) h1 l1.wf (fun i e => by cases e) (fun k h' _ => iv_rng k h') (by rw [rng_len]; omega) (fun k acc => acc = iL ((List.range k).map fun (j : Nat) => if j ∈ L.readyN then L.at ((j : Int) - 1) else L.at j)) rfl (fun k v acc h2 e i2 l2 => ?_) (fun acc h' i2 _ l g => ?_) (by rw [rng_len]; omega)
  · obtain ⟨hk, rfl⟩ := rng_at e
    rw [Int.zero_add] at e ⊢
    refine ⟨_, rfl, ?_⟩
    have g2 := l2.get _ _ (by intro z; cases z) g1
    repeat walk_at "px"
    refine ⟨Le.refl l2.wf, fun e => (nomatch (e : true = false)), fun _ => ?_⟩
    repeat walk_at "px"
    refine ⟨_, in_nL (seqOf_lst g2), ?_⟩
    repeat walk_at "px"
    refine ⟨fun e1 => ?_, fun e1 => ?_⟩
    · have e1 := of_decide_eq_true e1
      repeat walk_at "px"
      refine ⟨_, rfl, ?_⟩
      repeat walk_at "px"
      refine ⟨_, at_pred hk, Le.refl l2.wf, ?_⟩
      have e9 : (if k ∈ L.readyN then L.at ((k : Int) - 1) else L.at k) = L.at ((k : Int) - 1) := if_pos e1
      rw [i2, List.range_succ, List.map_append, ← iL_app, ← e9]
      rfl
    · have e1 := of_decide_eq_false e1
      repeat walk_at "px"
      refine ⟨_, rfl, ?_⟩
      repeat walk_at "px"
      refine ⟨_, at_small hk, Le.refl l2.wf, ?_⟩
      have e9 : (if k ∈ L.readyN then L.at ((k : Int) - 1) else L.at k) = L.at (k : Int) := if_neg e1
      rw [i2, List.range_succ, List.map_append, ← iL_app, ← e9]
      rfl
  · rw [rng_len] at i2
    subst i2
    repeat walk_at "px"
    refine ok_tupleOf (seqOf_lst g) (by rw [List.length_map, List.length_map, List.length_range]; omega) ?_
    repeat walk_at "px"
    refine ⟨_, rfl, ?_⟩
    repeat walk_at "px"
    refine ⟨_, rfl, ?_⟩
    repeat walk_at "px"
    exact q _ (l1.trans l)
end
end Pyx

set_option Elab.async false
set_option linter.all false
set_option maxRecDepth 100000
set_option maxHeartbeats 400000
namespace Pyx
open PySem L2
local macro_rules | `(tactic| walk_at "px") => `(tactic| first
  | (with_reducible refine ok_var (v := ?_) (by with_unfolding_all exact rfl) ?_)
  | with_reducible refine os_nil ?_
  | with_reducible refine os_cons ?_
  | with_reducible refine os_pass ?_
  | with_reducible refine os_retN ?_
  | with_reducible refine os_brk ?_
  | with_reducible refine os_cont ?_
  | with_reducible refine os_ret ?_
  | with_reducible refine os_expr ?_
  | with_reducible refine os_set ?_
  | with_reducible refine os_asg ?_
  | with_reducible refine os_par ?_
  | with_reducible refine os_par3 ?_
  | with_reducible refine os_setix ?_
  | with_reducible refine os_ite ?_
  | with_reducible refine os_for ?_
  | with_reducible refine os_while ?_
  | with_reducible refine ok_val ?_
  | with_reducible refine ok_bin ?_
  | with_reducible refine ok_neg ?_
  | with_reducible refine ok_cmp ?_
  | with_reducible refine ok_chain ?_
  | with_reducible refine ok_isin ?_
  | with_reducible refine ok_and ?_
  | with_reducible refine ok_or ?_
  | with_reducible refine ok_not ?_
  | with_reducible refine ok_ite ?_
  | with_reducible refine ok_tup ?_
  | with_reducible refine ok_lst ?_
  | with_reducible refine ok_call ?_
  | with_reducible refine ok_bi ?_
  | with_reducible refine ok_isi ?_
  | with_reducible refine ok_isis ?_
  | with_reducible refine ok_ix ?_
  | with_reducible refine ok_sl ?_
  | with_reducible refine ok_oN ?_
  | with_reducible refine ok_oS ?_
  | with_reducible refine ok_nil ?_
  | with_reducible refine ok_cons ?_
  | with_reducible refine ok_bval ?_
  | with_reducible refine ok_bbl ?_
  | with_reducible refine ok_bnot ?_
  | with_reducible refine ok_band ?_
  | with_reducible refine ok_bor ?_
  | with_reducible refine ok_ifN ?_
  | with_reducible refine ok_ifS ?_
  | with_reducible refine ok_rng1 ?_
  | with_reducible refine ok_rng2 ?_
  | with_reducible refine ok_over ?_
  | with_reducible refine ok_enum ?_
  | with_reducible refine ok_add ?_
  | with_reducible refine ok_sub ?_
  | (with_reducible refine ok_lc (by with_unfolding_all exact rfl) ?_)
  | with_reducible refine ⟨_, eq_int, ?_⟩
  | with_reducible refine ⟨_, ne_int, ?_⟩
  | with_reducible refine ⟨_, lt_int', ?_⟩
  | with_reducible refine ⟨_, le_int', ?_⟩
  | with_reducible refine ⟨_, gt_int', ?_⟩
  | with_reducible refine ⟨_, ge_int', ?_⟩
  | with_reducible refine ⟨_, eq_bl, ?_⟩
  | with_reducible refine ⟨_, ne_bl, ?_⟩
  | with_reducible refine ⟨_, ty_ii, ?_⟩
  | with_reducible refine ⟨_, ty_ib, ?_⟩
  | with_reducible refine ⟨_, ty_tt, ?_⟩
  | with_reducible refine ⟨_, ty_tl, ?_⟩
  | with_reducible refine ⟨_, ty_bb, ?_⟩
  | with_reducible refine ⟨_, ty_bi, ?_⟩
  | with_reducible refine ⟨_, truth_bl, ?_⟩
  | with_reducible refine ⟨_, (rfl : PV.bl _ = PV.bl _), ?_⟩
  | with_reducible refine ⟨_, (rfl : PV.int _ = PV.int _), ?_⟩
  | (with_reducible refine And.intro (Nat.le_of_ble_eq_true (by with_unfolding_all exact rfl)) ?_)
  | refine ⟨fun _ => ?_, fun e => nomatch (e : true = false)⟩
  | refine ⟨fun e => (nomatch (e : false = true)), fun _ => ?_⟩
  | refine ⟨fun e => (nomatch (e : true = false)), fun _ => ?_⟩
  | refine ⟨fun _ => ?_, fun e => nomatch (e : false = true)⟩)
theorem Ln.rest_iff {L : Ln} (h0 : 1 ≤ L.many) : L.readyN = [] ↔ ∀ k : Int, ¬ L.rd k := by
  refine ⟨fun e k z => ?_, fun z => List.eq_nil_iff_forall_not_mem.mpr fun j hj => z j (Ln.readyN_mem.mp hj).2⟩
  have n1 := Int.emod_nonneg k (by omega : (L.many : Int) ≠ 0)
  have n2 := Int.emod_lt_of_pos k (by omega : (0 : Int) < L.many)
  have ec : (((k % (L.many : Int)).toNat : Nat) : Int) = k % (L.many : Int) := Int.toNat_of_nonneg n1
  have hm : (k % (L.many : Int)).toNat ∈ L.readyN := Ln.readyN_mem.mpr ⟨by omega, by
    rw [ec]
    exact (Ln.rd_congr (Int.emod_emod_of_dvd _ (Int.dvd_refl _))).mpr z⟩
  rw [e] at hm
  cases hm
section
variable {P : Prg} {ix : Nat → Nat} {d : Nat} {h : PH} {Q : PV → PH → Prop}
theorem g_run (H41 : Has P ix 41 cf__law_held) (H42 : Has P ix 42 cf__law_ready) (H43 : Has P ix 43 cf__law_step) (H : Has P ix 44 cf__law_run) {L : Ln} (G : Good1 L) (w : Wf h)
    (q1 : ∀ (i : Nat) (h' : PH) (T : Nat), ¬ L.Swing → T ≤ L.many → (∀ k, ¬ (L.aft T).rd k) → (∀ t, t < T → ∃ k, (L.aft t).rd k) → Le none h h' → h.n ≤ i → h'.get i = some (.lst ((List.range (T + 1)).map fun (t : Nat) => (L.aft t).v)) → Q (.ref i) h')
    (q2 : ∀ h', L.Swing → Le none h h' → Q .non h') : Ok (callP P 1000 (d + 4) (ix 44) [L.v] h) Q := by
  have h40 := G.most
  have h0 := G.one
  refine ok_def H rfl ?_
  repeat walk_at "px"
  refine ⟨_, rfl, ?_⟩
  repeat walk_at "px"
  refine ok_len (xs := iL L.cells) (by rfl) ?_
  rw [List.length_map]
  repeat walk_at "px"
  refine ⟨⟨by omega, by show (L.many : Int) + 2 ≤ _; omega⟩, ?_⟩
  rw [show (((L.cells.length : Nat) : Int) + 2).toNat = L.many + 2 from by show ((L.many : Int) + 2).toNat = _; omega]
  refine os_forL (fun t st h' => t ≤ L.many + 2 ∧ (∀ s, s < t → ∃ k, (L.aft s).rd k) ∧ Le none h h' ∧ h'.get h.n = some (.lst ((List.range (t + 1)).map fun (s : Nat) => (L.aft s).v)) ∧ ∃ s2, st = [some L.v, some (.ref h.n), s2]) (L.many + 2) (fun t st h' ⟨i1, i2, i3, i4, s2, i5⟩ => ⟨i1, ?_⟩) _ 0 _ _ (by omega)
    ⟨Nat.zero_le _, fun s hs => absurd hs (Nat.not_lt_zero _), Le.push w, get_new, none, rfl⟩
  subst i5
  rw [iv_rng]
  have i4' := i4
  rw [List.range_succ, List.map_append] at i4'
  have Gt := Ln.aft_good G t
  by_cases ht : t < L.many + 2
  · have e : (rng 0 (L.many + 2))[t]? = some (.int (0 + (t : Nat))) := by
      unfold rng
      rw [List.getElem?_map, List.getElem?_range ht]
      rfl
    rw [e]
    refine .inr ⟨_, _, rfl, rfl, ?_⟩
    repeat walk_at "px"
    refine ⟨_, ix_last i4', ?_⟩
    repeat walk_at "px"
    refine g_ready H41 H42 Gt i3.wf fun i h2 l2 hi g2 => ?_
    have gf := l2.get _ _ (by intro z; cases z) i4
    have l3 := i3.trans l2
    repeat walk_at "px"
    have g2' := g2
    rw [nL_ints] at g2'
    refine ⟨_, eq_lsts (ms := []) (get_old g2') get_new, ?_⟩
    repeat walk_at "px"
    have gf2 := get_old (o := PO.lst []) gf
    have l4 := l3.p (o := PO.lst [])
    have et : (L.aft t).readyN.map (fun k => ((k : Nat) : Int)) = [] ↔ ∀ k : Int, ¬ (L.aft t).rd k := by
      rw [← Ln.rest_iff Gt.one]
      exact List.map_eq_nil_iff
    refine ⟨fun e1 => ?_, fun e1 => ?_⟩
    · have e1 := et.mp (of_decide_eq_true e1)
      repeat walk_at "px"
      have hS : ¬ L.Swing := fun z => e1 0 (Ln.swing_aft h0 z t 0)
      refine q1 h.n _ t hS ?_ e1 i2 l4 (Nat.le_refl _) gf2
      refine Nat.le_of_not_lt fun z => ?_
      obtain ⟨k, hk⟩ := i2 L.many z
      exact Ln.rest_many h0 hS L.many (Nat.le_refl _) k hk
    · have e1 : ¬ ∀ k : Int, ¬ (L.aft t).rd k := fun z => of_decide_eq_false e1 (et.mpr z)
      have ex : ∃ k, (L.aft t).rd k := Classical.byContradiction fun z => e1 fun k y => z ⟨k, y⟩
      have gf3 := gf2
      rw [List.range_succ, List.map_append] at gf3
      refine os_nil (os_cons (os_expr (ok_mt (ok_var rfl ⟨⟨_, seqL_lst gf2⟩, ?_⟩))))
      repeat walk_at "px"
      refine ⟨_, ix_last gf3, ?_⟩
      repeat walk_at "px"
      refine g_step H41 H42 H43 Gt l4.wf fun h5 l5 => ?_
      have gf5 := l5.get _ _ (by intro z; cases z) gf2
      repeat walk_at "px"
      refine ok_append gf5 (by rw [List.length_map, List.length_range]; omega) ?_
      repeat walk_at "px"
      have l6 := l4.trans l5
      refine ⟨ht, fun s hs => ?_, Le.set l6 (Nat.le_refl _) gf5, ?_, _, rfl⟩
      · by_cases q : s < t
        · exact i2 s q
        · have : s = t := by omega
          subst this
          exact ex
      · rw [get_at_set l6.wf gf5, List.range_succ (n := t + 1), List.map_append]
        rfl
  · have et : t = L.many + 2 := by omega
    have e : (rng 0 (L.many + 2))[t]? = none := List.getElem?_eq_none (by rw [rng_len]; omega)
    rw [e]
    refine .inl ⟨rfl, ?_⟩
    repeat walk_at "px"
    refine q2 _ (Classical.byContradiction fun hS => ?_) i3
    obtain ⟨k, hk⟩ := i2 L.many (by omega)
    exact Ln.rest_many h0 hS L.many (Nat.le_refl _) k hk
end
end Pyx

set_option Elab.async false
set_option linter.all false
set_option maxRecDepth 100000
set_option maxHeartbeats 400000
namespace Pyx
open PySem L2
local macro_rules | `(tactic| walk_at "px") => `(tactic| first
  | (with_reducible refine ok_var (v := ?_) (by with_unfolding_all exact rfl) ?_)
  | with_reducible refine os_nil ?_
  | with_reducible refine os_cons ?_
  | with_reducible refine os_pass ?_
  | with_reducible refine os_retN ?_
  | with_reducible refine os_brk ?_
  | with_reducible refine os_cont ?_
  | with_reducible refine os_ret ?_
  | with_reducible refine os_expr ?_
  | with_reducible refine os_set ?_
  | with_reducible refine os_asg ?_
  | with_reducible refine os_par ?_
  | with_reducible refine os_par3 ?_
  | with_reducible refine os_setix ?_
  | with_reducible refine os_ite ?_
  | with_reducible refine os_for ?_
  | with_reducible refine os_while ?_
  | with_reducible refine ok_val ?_
  | with_reducible refine ok_bin ?_
  | with_reducible refine ok_neg ?_
  | with_reducible refine ok_cmp ?_
  | with_reducible refine ok_chain ?_
  | with_reducible refine ok_isin ?_
  | with_reducible refine ok_and ?_
  | with_reducible refine ok_or ?_
  | with_reducible refine ok_not ?_
  | with_reducible refine ok_ite ?_
  | with_reducible refine ok_tup ?_
  | with_reducible refine ok_lst ?_
  | with_reducible refine ok_call ?_
  | with_reducible refine ok_bi ?_
  | with_reducible refine ok_isi ?_
  | with_reducible refine ok_isis ?_
  | with_reducible refine ok_ix ?_
  | with_reducible refine ok_sl ?_
  | with_reducible refine ok_oN ?_
  | with_reducible refine ok_oS ?_
  | with_reducible refine ok_nil ?_
  | with_reducible refine ok_cons ?_
  | with_reducible refine ok_bval ?_
  | with_reducible refine ok_bbl ?_
  | with_reducible refine ok_bnot ?_
  | with_reducible refine ok_band ?_
  | with_reducible refine ok_bor ?_
  | with_reducible refine ok_ifN ?_
  | with_reducible refine ok_ifS ?_
  | with_reducible refine ok_rng1 ?_
  | with_reducible refine ok_rng2 ?_
  | with_reducible refine ok_over ?_
  | with_reducible refine ok_enum ?_
  | with_reducible refine ok_add ?_
  | with_reducible refine ok_sub ?_
  | (with_reducible refine ok_lc (by with_unfolding_all exact rfl) ?_)
  | with_reducible refine ⟨_, eq_int, ?_⟩
  | with_reducible refine ⟨_, ne_int, ?_⟩
  | with_reducible refine ⟨_, lt_int', ?_⟩
  | with_reducible refine ⟨_, le_int', ?_⟩
  | with_reducible refine ⟨_, gt_int', ?_⟩
  | with_reducible refine ⟨_, ge_int', ?_⟩
  | with_reducible refine ⟨_, eq_bl, ?_⟩
  | with_reducible refine ⟨_, ne_bl, ?_⟩
  | with_reducible refine ⟨_, ty_ii, ?_⟩
  | with_reducible refine ⟨_, ty_ib, ?_⟩
  | with_reducible refine ⟨_, ty_tt, ?_⟩
  | with_reducible refine ⟨_, ty_tl, ?_⟩
  | with_reducible refine ⟨_, ty_bb, ?_⟩
  | with_reducible refine ⟨_, ty_bi, ?_⟩
  | with_reducible refine ⟨_, truth_bl, ?_⟩
  | with_reducible refine ⟨_, (rfl : PV.bl _ = PV.bl _), ?_⟩
  | with_reducible refine ⟨_, (rfl : PV.int _ = PV.int _), ?_⟩
  | (with_reducible refine And.intro (Nat.le_of_ble_eq_true (by with_unfolding_all exact rfl)) ?_)
  | refine ⟨fun _ => ?_, fun e => nomatch (e : true = false)⟩
  | refine ⟨fun e => (nomatch (e : false = true)), fun _ => ?_⟩
  | refine ⟨fun e => (nomatch (e : true = false)), fun _ => ?_⟩
  | refine ⟨fun _ => ?_, fun e => nomatch (e : false = true)⟩)
theorem maxI_mem (m : Int) (is : List Int) : maxI m is ∈ m :: is := (maxI_is is m).1
section
variable {P : Prg} {ix : Nat → Nat} {d : Nat} {h : PH} {Q : PV → PH → Prop}
theorem ok_maxL {a : Nat} {i : Int} {is : List Int} (e : h.get a = some (.lst (iL (i :: is)))) (q : Q (.int (maxI i is)) h) : Ok (biP .max [.ref a] h) Q := by
  have e1 : intsOfL (.ref a) h = some (i :: is) := by
    unfold intsOfL
    rw [seqL_lst e]
    exact intsP_ints _
  unfold biP
  dsimp only
  rw [e1]
  exact q
/-- the greatest depth -/
def Ln.top (L : Ln) : Int := match L.deps with
  | [] => 0
  | i :: is => maxI i is
theorem deps_len {L : Ln} : L.deps.length = L.many := by rw [Ln.deps, List.length_map, List.length_range]
theorem dps_len {L : Ln} {t : Nat} : (L.dps t).length = L.many := by rw [Ln.dps, List.length_map, List.length_range]
theorem deps_cons {L : Ln} (h0 : 1 ≤ L.many) : ∃ i is, L.deps = i :: is ∧ L.top = maxI i is := by
  unfold Ln.top
  cases e : L.deps with
  | nil =>
    have := deps_len (L := L)
    rw [e, List.length_nil] at this
    omega
  | cons i is => exact ⟨i, is, rfl, rfl⟩
theorem top_le {L : Ln} (h0 : 1 ≤ L.many) {j : Nat} (hj : j < L.many) : ((L.dp L.many (j : Int) : Nat) : Int) ≤ L.top := by
  obtain ⟨i, is, e1, e2⟩ := deps_cons h0
  rw [e2]
  refine (maxI_is is i).2 _ ?_
  rw [← e1]
  unfold Ln.deps
  exact List.mem_map.mpr ⟨j, List.mem_range.mpr hj, rfl⟩
theorem top_at {L : Ln} (h0 : 1 ≤ L.many) : ∃ j : Nat, j < L.many ∧ L.top = ((L.dp L.many (j : Int) : Nat) : Int) := by
  obtain ⟨i, is, e1, e2⟩ := deps_cons h0
  have := maxI_mem i is
  rw [← e1, ← e2] at this
  unfold Ln.deps at this
  obtain ⟨j, hj, e⟩ := List.mem_map.mp this
  exact ⟨j, List.mem_range.mp hj, e.symm⟩
/-- the first time at rest is the greatest depth -/
theorem top_is {L : Ln} (h0 : 1 ≤ L.many) (hS : ¬ L.Swing) {T : Nat} (h1 : ∀ k, ¬ (L.aft T).rd k) (h2 : ∀ t, t < T → ∃ k, (L.aft t).rd k) : L.top = (T : Int) := by
  obtain ⟨j, hj, e⟩ := top_at (L := L) h0
  have a : L.dp L.many (j : Int) ≤ T := Nat.le_of_not_lt fun z => h1 j ((Ln.rd_dp h0 hS j T).mpr z)
  have b : T ≤ L.dp L.many (j : Int) := by
    refine Nat.le_of_not_lt fun z => ?_
    obtain ⟨k, hk⟩ := h2 _ z
    have n1 := Int.emod_nonneg k (by omega : (L.many : Int) ≠ 0)
    have n2 := Int.emod_lt_of_pos k (by omega : (0 : Int) < L.many)
    have ec : (((k % (L.many : Int)).toNat : Nat) : Int) = k % (L.many : Int) := Int.toNat_of_nonneg n1
    have q := (Ln.rd_dp h0 hS k _).mp hk
    have q2 := top_le (L := L) h0 (j := (k % (L.many : Int)).toNat) (by omega)
    rw [ec, Ln.dp_congr (Int.emod_emod_of_dvd _ (Int.dvd_refl _)), e] at q2
    omega
  omega
theorem f_rest_cells (H4 : Has P ix 4 cf_held_in) (H5 : Has P ix 5 cf_flanks) (H6 : Has P ix 6 cf_is_flanked) (H7 : Has P ix 7 cf_ready_in) (H11 : Has P ix 11 cf_swings_in) (H13 : Has P ix 13 cf_stretches_in) (H16 : Has P ix 16 cf_depths_in) (H21 : Has P ix 21 cf_turns_in) (H22 : Has P ix 22 cf_cells_after) (H : Has P ix 24 cf_rest_cells) {L : Ln} (G : Good1 L) (w : Wf h)
    (q : ∀ i h', Le none h h' → h.n ≤ i → h'.get i = some (.lst (iL (L.aft L.many).cells)) → Q (.ref i) h') : Ok (callP P 1000 (d + 8) (ix 24) [L.v] h) Q := by
  refine ok_def H rfl ?_
  repeat walk_at "px"
  refine ⟨_, rfl, ?_⟩
  repeat walk_at "px"
  refine ok_len (xs := iL L.cells) (by rfl) ?_
  rw [List.length_map]
  repeat walk_at "px"
  exact f_cells_after (t := L.many) H4 H5 H6 H7 H11 H13 H16 H21 H22 G w fun i h2 l2 hi g2 => q i h2 l2 hi g2
theorem f_rest (H0 : Has P ix 0 cf_is_in) (H2 : Has P ix 2 cf_is_cells) (H1 : Has P ix 1 cf_need_line) (H4 : Has P ix 4 cf_held_in) (H5 : Has P ix 5 cf_flanks) (H6 : Has P ix 6 cf_is_flanked) (H7 : Has P ix 7 cf_ready_in) (H11 : Has P ix 11 cf_swings_in) (H13 : Has P ix 13 cf_stretches_in) (H15 : Has P ix 15 cf_need_resting) (H16 : Has P ix 16 cf_depths_in) (H19 : Has P ix 19 cf_with_cells) (H21 : Has P ix 21 cf_turns_in) (H22 : Has P ix 22 cf_cells_after) (H24 : Has P ix 24 cf_rest_cells) (H : Has P ix 25 cf_rest)
    {L : Ln} (G : Good1 L) (s : L.swB = false) (w : Wf h) (q : ∀ h', Le none h h' → Q (L.aft L.many).v h') : Ok (callP P 1000 (d + 9) (ix 25) [L.v] h) Q := by
  refine ok_def H rfl ?_
  repeat walk_at "px"
  refine f_need_resting H0 H2 H1 H4 H5 H6 H7 H11 H15 G s w fun h1 l1 => ?_
  repeat walk_at "px"
  refine f_rest_cells H4 H5 H6 H7 H11 H13 H16 H21 H22 H24 G l1.wf fun i h2 l2 _ g2 => ?_
  repeat walk_at "px"
  have hz : (L.aft L.many).cells.length ≤ 900 := by
    have : (L.aft L.many).cells.length = L.many := Ln.aft_many L.many
    have := G.most
    omega
  refine f_with_cells (L := L) H19 (seqOf_lst g2) hz ?_
  have := q _ (l1.trans l2)
  rw [Ln.aft_v] at this
  exact this
theorem f_rest_time (H0 : Has P ix 0 cf_is_in) (H2 : Has P ix 2 cf_is_cells) (H1 : Has P ix 1 cf_need_line) (H4 : Has P ix 4 cf_held_in) (H5 : Has P ix 5 cf_flanks) (H6 : Has P ix 6 cf_is_flanked) (H7 : Has P ix 7 cf_ready_in) (H11 : Has P ix 11 cf_swings_in) (H13 : Has P ix 13 cf_stretches_in) (H15 : Has P ix 15 cf_need_resting) (H16 : Has P ix 16 cf_depths_in) (H : Has P ix 26 cf_rest_time)
    {L : Ln} (G : Good1 L) (s : L.swB = false) (w : Wf h) (q : ∀ h', Le none h h' → Q (.int L.top) h') : Ok (callP P 1000 (d + 6) (ix 26) [L.v] h) Q := by
  refine ok_def H rfl ?_
  repeat walk_at "px"
  refine f_need_resting H0 H2 H1 H4 H5 H6 H7 H11 H15 G s w fun h1 l1 => ?_
  repeat walk_at "px"
  refine f_depths_in H4 H5 H6 H7 H13 H16 G s l1.wf fun i h2 l2 _ g2 => ?_
  repeat walk_at "px"
  obtain ⟨x, xs, e1, e2⟩ := deps_cons (L := L) G.one
  rw [e1] at g2
  have := q _ (l1.trans l2)
  rw [e2] at this
  exact ok_maxL g2 this
theorem f_colour_at (H0 : Has P ix 0 cf_is_in) (H2 : Has P ix 2 cf_is_cells) (H1 : Has P ix 1 cf_need_line) (H3 : Has P ix 3 cf_need_cell) (H4 : Has P ix 4 cf_held_in) (H5 : Has P ix 5 cf_flanks) (H6 : Has P ix 6 cf_is_flanked) (H7 : Has P ix 7 cf_ready_in) (H11 : Has P ix 11 cf_swings_in) (H13 : Has P ix 13 cf_stretches_in) (H16 : Has P ix 16 cf_depths_in) (H18 : Has P ix 18 cf_need_time) (H21 : Has P ix 21 cf_turns_in) (H22 : Has P ix 22 cf_cells_after) (H : Has P ix 31 cf_colour_at)
    {L : Ln} (G : Good1 L) {k t : Nat} (hk : k < L.many) (ht : t ≤ 1000000) (w : Wf h) (q : ∀ h', Le none h h' → Q (.int ((L.aft t).at (k : Int))) h') : Ok (callP P 1000 (d + 8) (ix 31) [L.v, .int k, .int t] h) Q := by
  refine ok_def H rfl ?_
  repeat walk_at "px"
  refine f_need_line H0 H2 H1 G w fun h1 l1 => ?_
  repeat walk_at "px"
  refine f_need_cell H0 H3 hk ?_
  repeat walk_at "px"
  refine f_need_time H0 H18 ht ?_
  repeat walk_at "px"
  refine f_cells_after H4 H5 H6 H7 H11 H13 H16 H21 H22 G l1.wf fun i h2 l2 _ g2 => ?_
  repeat walk_at "px"
  have hk2 : k < (L.aft t).cells.length := by
    have : (L.aft t).cells.length = L.many := Ln.aft_many t
    omega
  refine ⟨_, ix_of_nat (seqOf_lst g2) (by rw [List.getElem?_map, List.getElem?_eq_getElem hk2]; rfl), ?_⟩
  have := q _ (l1.trans l2)
  rw [at_cells hk2] at this
  exact this
end
end Pyx

set_option Elab.async false
set_option linter.all false
set_option maxRecDepth 100000
set_option maxHeartbeats 400000
namespace Pyx
open PySem L2
local macro_rules | `(tactic| walk_at "px") => `(tactic| first
  | (with_reducible refine ok_var (v := ?_) (by with_unfolding_all exact rfl) ?_)
  | with_reducible refine os_nil ?_
  | with_reducible refine os_cons ?_
  | with_reducible refine os_pass ?_
  | with_reducible refine os_retN ?_
  | with_reducible refine os_brk ?_
  | with_reducible refine os_cont ?_
  | with_reducible refine os_ret ?_
  | with_reducible refine os_expr ?_
  | with_reducible refine os_set ?_
  | with_reducible refine os_asg ?_
  | with_reducible refine os_par ?_
  | with_reducible refine os_par3 ?_
  | with_reducible refine os_setix ?_
  | with_reducible refine os_ite ?_
  | with_reducible refine os_for ?_
  | with_reducible refine os_while ?_
  | with_reducible refine ok_val ?_
  | with_reducible refine ok_bin ?_
  | with_reducible refine ok_neg ?_
  | with_reducible refine ok_cmp ?_
  | with_reducible refine ok_chain ?_
  | with_reducible refine ok_isin ?_
  | with_reducible refine ok_and ?_
  | with_reducible refine ok_or ?_
  | with_reducible refine ok_not ?_
  | with_reducible refine ok_ite ?_
  | with_reducible refine ok_tup ?_
  | with_reducible refine ok_lst ?_
  | with_reducible refine ok_call ?_
  | with_reducible refine ok_bi ?_
  | with_reducible refine ok_isi ?_
  | with_reducible refine ok_isis ?_
  | with_reducible refine ok_ix ?_
  | with_reducible refine ok_sl ?_
  | with_reducible refine ok_oN ?_
  | with_reducible refine ok_oS ?_
  | with_reducible refine ok_nil ?_
  | with_reducible refine ok_cons ?_
  | with_reducible refine ok_bval ?_
  | with_reducible refine ok_bbl ?_
  | with_reducible refine ok_bnot ?_
  | with_reducible refine ok_band ?_
  | with_reducible refine ok_bor ?_
  | with_reducible refine ok_ifN ?_
  | with_reducible refine ok_ifS ?_
  | with_reducible refine ok_rng1 ?_
  | with_reducible refine ok_rng2 ?_
  | with_reducible refine ok_over ?_
  | with_reducible refine ok_enum ?_
  | with_reducible refine ok_add ?_
  | with_reducible refine ok_sub ?_
  | (with_reducible refine ok_lc (by with_unfolding_all exact rfl) ?_)
  | with_reducible refine ⟨_, eq_int, ?_⟩
  | with_reducible refine ⟨_, ne_int, ?_⟩
  | with_reducible refine ⟨_, lt_int', ?_⟩
  | with_reducible refine ⟨_, le_int', ?_⟩
  | with_reducible refine ⟨_, gt_int', ?_⟩
  | with_reducible refine ⟨_, ge_int', ?_⟩
  | with_reducible refine ⟨_, eq_bl, ?_⟩
  | with_reducible refine ⟨_, ne_bl, ?_⟩
  | with_reducible refine ⟨_, ty_ii, ?_⟩
  | with_reducible refine ⟨_, ty_ib, ?_⟩
  | with_reducible refine ⟨_, ty_tt, ?_⟩
  | with_reducible refine ⟨_, ty_tl, ?_⟩
  | with_reducible refine ⟨_, ty_bb, ?_⟩
  | with_reducible refine ⟨_, ty_bi, ?_⟩
  | with_reducible refine ⟨_, truth_bl, ?_⟩
  | with_reducible refine ⟨_, (rfl : PV.bl _ = PV.bl _), ?_⟩
  | with_reducible refine ⟨_, (rfl : PV.int _ = PV.int _), ?_⟩
  | (with_reducible refine And.intro (Nat.le_of_ble_eq_true (by with_unfolding_all exact rfl)) ?_)
  | refine ⟨fun _ => ?_, fun e => nomatch (e : true = false)⟩
  | refine ⟨fun e => (nomatch (e : false = true)), fun _ => ?_⟩
  | refine ⟨fun e => (nomatch (e : true = false)), fun _ => ?_⟩
  | refine ⟨fun _ => ?_, fun e => nomatch (e : false = true)⟩)
/-- how many cells turn in each step -/
def Ln.chg (L : Ln) : List Int := (List.range L.top.toNat).map fun (t : Nat) => (((L.deps.filter fun x => decide (1 + (t : Int) ≤ x)).length : Nat) : Int)
def Ln.lastN (L : Ln) : List Nat := (List.range L.many).filter fun (k : Nat) => decide (((L.dp L.many (k : Int) : Nat) : Int) = L.top) && decide (0 < L.top)
theorem deps_at {L : Ln} {k : Nat} (hk : k < L.many) : L.deps[k]? = some (((L.dp L.many (k : Int) : Nat)) : Int) := by
  unfold Ln.deps
  rw [List.getElem?_map, List.getElem?_range hk]
  rfl
theorem top_bound {L : Ln} (h0 : 1 ≤ L.many) : 0 ≤ L.top ∧ L.top ≤ L.many := by
  obtain ⟨j, hj, e⟩ := top_at (L := L) h0
  have := Ln.dp_le (L := L) (j : Int) L.many
  omega
section
variable {P : Prg} {ix : Nat → Nat} {d : Nat} {h : PH} {Q : PV → PH → Prop}
theorem f_changes (H0 : Has P ix 0 cf_is_in) (H2 : Has P ix 2 cf_is_cells) (H1 : Has P ix 1 cf_need_line) (H4 : Has P ix 4 cf_held_in) (H5 : Has P ix 5 cf_flanks) (H6 : Has P ix 6 cf_is_flanked) (H7 : Has P ix 7 cf_ready_in) (H11 : Has P ix 11 cf_swings_in) (H13 : Has P ix 13 cf_stretches_in) (H15 : Has P ix 15 cf_need_resting) (H16 : Has P ix 16 cf_depths_in) (H : Has P ix 29 cf_changes)
    {L : Ln} (G : Good1 L) (s : L.swB = false) (w : Wf h) (q : ∀ h', Le none h h' → Q (.tup (iL L.chg)) h') : Ok (callP P 1000 (d + 6) (ix 29) [L.v] h) Q := by
  have h40 := G.most
  have tb := top_bound (L := L) G.one
  refine ok_def H rfl ?_
  repeat walk_at "px"
  refine f_need_resting H0 H2 H1 H4 H5 H6 H7 H11 H15 G s w fun h1 l1 => ?_
  repeat walk_at "px"
  refine f_depths_in H4 H5 H6 H7 H13 H16 G s l1.wf fun i h2 l2 _ g2 => ?_
  repeat walk_at "px"
  obtain ⟨x, xs, e1, e2⟩ := deps_cons (L := L) G.one
  have g2' := g2
  rw [e1] at g2'
  refine ok_maxL g2' ?_
  rw [← e2]
  repeat walk_at "px"
  refine ⟨⟨by decide, by decide, by omega, by omega⟩, ?_⟩
  rw [show (L.top + 1 - 1).toNat = L.top.toNat by omega]
  refine ok_lcI none (rng 1 L.top.toNat) h2 l2.wf (fun i e => by cases e) (fun k h' _ => iv_rng k h') (by rw [rng_len]; omega) (fun k acc => acc = iL ((List.range k).map fun (t : Nat) => (((L.deps.filter fun x => decide (1 + (t : Int) ≤ x)).length : Nat) : Int))) rfl (fun k v acc h3 e i3 l3 => ?_) (fun acc h' i3 _ l g => ?_) (by rw [rng_len]; omega)
  · obtain ⟨hk, rfl⟩ := rng_at e
    refine ⟨_, rfl, ?_⟩
    have g3 := l3.get _ _ (by intro z; cases z) g2
    repeat walk_at "px"
    refine ⟨Le.refl l3.wf, fun e => (nomatch (e : true = false)), fun _ => ?_⟩
    repeat walk_at "px"
    refine .inl ⟨i, iL L.deps, rfl, seqL_lst g3, ?_⟩
    have dl : (iL L.deps).length = L.many := by rw [List.length_map, deps_len]
    refine ok_lcI none (iL L.deps) h3 l3.wf (fun i e => by cases e) (fun k h' l => iv_lst (p := none) g3 (by intro z; cases z) k h' l) (by rw [dl]; omega) (fun j acc => acc = iL ((L.deps.take j).filter fun x => decide (1 + (k : Int) ≤ x))) rfl (fun j v acc h4 e4 i4 l4 => ?_) (fun acc h5 i5 _ l5 g5 => ?_) (by rw [dl]; omega)
    · have hj : j < L.many := by
        rw [← dl]
        exact (List.getElem?_eq_some_iff.mp e4).1
      rw [List.getElem?_map, deps_at hj] at e4
      cases e4
      refine ⟨_, rfl, ?_⟩
      have tk : L.deps.take (j + 1) = L.deps.take j ++ [((L.dp L.many (j : Int) : Nat) : Int)] := by
        rw [List.take_add_one, deps_at hj]
        rfl
      repeat walk_at "px"
      refine ⟨Le.refl l4.wf, fun e5 => ?_, fun e5 => ?_⟩
      · rw [i4, tk, List.filter_append, List.filter_cons, e5]
        exact (congrArg iL (List.append_nil _)).symm
      · repeat walk_at "px"
        refine ⟨Le.refl l4.wf, ?_⟩
        rw [i4, tk, List.filter_append, List.filter_cons, e5, ← iL_app]
        rfl
    · rw [dl, List.take_of_length_le (by rw [deps_len]; exact Nat.le_refl _)] at i5
      repeat walk_at "px"
      refine ok_len (seqOf_lst g5) ⟨l5, ?_⟩
      rw [i5, i3, List.length_map, List.range_succ, List.map_append, ← iL_app]
      rfl
  · rw [rng_len] at i3
    repeat walk_at "px"
    have := q _ ((l1.trans l2).trans l)
    refine ok_tupleOf (seqOf_lst g) ?_ ?_
    · rw [i3, List.length_map, List.length_map, List.length_range]
      omega
    · rw [i3]
      exact this
theorem f_last_turned (H0 : Has P ix 0 cf_is_in) (H2 : Has P ix 2 cf_is_cells) (H1 : Has P ix 1 cf_need_line) (H4 : Has P ix 4 cf_held_in) (H5 : Has P ix 5 cf_flanks) (H6 : Has P ix 6 cf_is_flanked) (H7 : Has P ix 7 cf_ready_in) (H11 : Has P ix 11 cf_swings_in) (H13 : Has P ix 13 cf_stretches_in) (H15 : Has P ix 15 cf_need_resting) (H16 : Has P ix 16 cf_depths_in) (H : Has P ix 30 cf_last_turned)
    {L : Ln} (G : Good1 L) (s : L.swB = false) (w : Wf h) (q : ∀ h', Le none h h' → Q (.tup (nL L.lastN)) h') : Ok (callP P 1000 (d + 6) (ix 30) [L.v] h) Q := by
  have h40 := G.most
  refine ok_def H rfl ?_
  repeat walk_at "px"
  refine f_need_resting H0 H2 H1 H4 H5 H6 H7 H11 H15 G s w fun h1 l1 => ?_
  repeat walk_at "px"
  refine f_depths_in H4 H5 H6 H7 H13 H16 G s l1.wf fun i h2 l2 _ g2 => ?_
  repeat walk_at "px"
  obtain ⟨x, xs, e1, e2⟩ := deps_cons (L := L) G.one
  refine ok_len (seqOf_lst g2) ?_
  rw [List.length_map, deps_len]
  repeat walk_at "px"
  refine ⟨⟨by omega, by omega⟩, ?_⟩
  rw [Int.toNat_natCast]
  refine ok_lcI none (rng 0 L.many) h2 l2.wf (fun i e => by cases e) (fun k h' _ => iv_rng k h') (by rw [rng_len]; omega) (fun k acc => acc = nL ((List.range k).filter fun (k : Nat) => decide (((L.dp L.many (k : Int) : Nat) : Int) = L.top) && decide (0 < L.top))) rfl (fun k v acc h3 e i3 l3 => ?_) (fun acc h' i3 _ l g => ?_) (by rw [rng_len]; omega)
  · obtain ⟨hk, rfl⟩ := rng_at e
    rw [Int.zero_add] at e ⊢
    refine ⟨_, rfl, ?_⟩
    have g3 := l3.get _ _ (by intro z; cases z) g2
    have g3' := g3
    rw [e1] at g3'
    refine ok_ifS (Ok.mono (Q := fun b h4 => h4 = h3 ∧ b = (decide (((L.dp L.many (k : Int) : Nat) : Int) = L.top) && decide (0 < L.top))) ?A ?B)
    case A =>
      repeat walk_at "px"
      refine ⟨_, ix_of_nat (seqOf_lst g3) (by rw [List.getElem?_map, deps_at hk]; rfl), ?_⟩
      repeat walk_at "px"
      refine ok_maxL g3' ?_
      rw [← e2]
      refine ⟨_, eq_int, fun e5 => ?_, fun e5 => ?_⟩
      · repeat walk_at "px"
        exact ⟨rfl, by rw [e5, Bool.true_and]⟩
      · repeat walk_at "px"
        exact ⟨rfl, by rw [e5, Bool.false_and]⟩
    case B =>
      rintro b h4 ⟨rfl, rfl⟩
      refine ⟨Le.refl l3.wf, fun e5 => ?_, fun e5 => ?_⟩
      · rw [i3, nL_succ, e5]
        exact (List.append_nil _).symm
      · repeat walk_at "px"
        refine ⟨Le.refl l3.wf, ?_⟩
        rw [i3, nL_succ, e5]
        rfl
  · rw [rng_len] at i3
    repeat walk_at "px"
    have := q _ ((l1.trans l2).trans l)
    refine ok_tupleOf (seqOf_lst g) ?_ ?_
    · rw [i3, nL_len]
      exact Nat.le_trans (fr_len _ _) (by omega)
    · rw [i3]
      exact this
end
end Pyx

set_option Elab.async false
set_option linter.all false
set_option maxRecDepth 100000
set_option maxHeartbeats 400000
namespace Pyx
open PySem L2
local macro_rules | `(tactic| walk_at "px") => `(tactic| first
  | (with_reducible refine ok_var (v := ?_) (by with_unfolding_all exact rfl) ?_)
  | with_reducible refine os_nil ?_
  | with_reducible refine os_cons ?_
  | with_reducible refine os_pass ?_
  | with_reducible refine os_retN ?_
  | with_reducible refine os_brk ?_
  | with_reducible refine os_cont ?_
  | with_reducible refine os_ret ?_
  | with_reducible refine os_expr ?_
  | with_reducible refine os_set ?_
  | with_reducible refine os_asg ?_
  | with_reducible refine os_par ?_
  | with_reducible refine os_par3 ?_
  | with_reducible refine os_setix ?_
  | with_reducible refine os_ite ?_
  | with_reducible refine os_for ?_
  | with_reducible refine os_while ?_
  | with_reducible refine ok_val ?_
  | with_reducible refine ok_bin ?_
  | with_reducible refine ok_neg ?_
  | with_reducible refine ok_cmp ?_
  | with_reducible refine ok_chain ?_
  | with_reducible refine ok_isin ?_
  | with_reducible refine ok_and ?_
  | with_reducible refine ok_or ?_
  | with_reducible refine ok_not ?_
  | with_reducible refine ok_ite ?_
  | with_reducible refine ok_tup ?_
  | with_reducible refine ok_lst ?_
  | with_reducible refine ok_call ?_
  | with_reducible refine ok_bi ?_
  | with_reducible refine ok_isi ?_
  | with_reducible refine ok_isis ?_
  | with_reducible refine ok_ix ?_
  | with_reducible refine ok_sl ?_
  | with_reducible refine ok_oN ?_
  | with_reducible refine ok_oS ?_
  | with_reducible refine ok_nil ?_
  | with_reducible refine ok_cons ?_
  | with_reducible refine ok_bval ?_
  | with_reducible refine ok_bbl ?_
  | with_reducible refine ok_bnot ?_
  | with_reducible refine ok_band ?_
  | with_reducible refine ok_bor ?_
  | with_reducible refine ok_ifN ?_
  | with_reducible refine ok_ifS ?_
  | with_reducible refine ok_rng1 ?_
  | with_reducible refine ok_rng2 ?_
  | with_reducible refine ok_over ?_
  | with_reducible refine ok_enum ?_
  | with_reducible refine ok_add ?_
  | with_reducible refine ok_sub ?_
  | (with_reducible refine ok_lc (by with_unfolding_all exact rfl) ?_)
  | with_reducible refine ⟨_, eq_int, ?_⟩
  | with_reducible refine ⟨_, ne_int, ?_⟩
  | with_reducible refine ⟨_, lt_int', ?_⟩
  | with_reducible refine ⟨_, le_int', ?_⟩
  | with_reducible refine ⟨_, gt_int', ?_⟩
  | with_reducible refine ⟨_, ge_int', ?_⟩
  | with_reducible refine ⟨_, eq_bl, ?_⟩
  | with_reducible refine ⟨_, ne_bl, ?_⟩
  | with_reducible refine ⟨_, ty_ii, ?_⟩
  | with_reducible refine ⟨_, ty_ib, ?_⟩
  | with_reducible refine ⟨_, ty_tt, ?_⟩
  | with_reducible refine ⟨_, ty_tl, ?_⟩
  | with_reducible refine ⟨_, ty_bb, ?_⟩
  | with_reducible refine ⟨_, ty_bi, ?_⟩
  | with_reducible refine ⟨_, truth_bl, ?_⟩
  | with_reducible refine ⟨_, (rfl : PV.bl _ = PV.bl _), ?_⟩
  | with_reducible refine ⟨_, (rfl : PV.int _ = PV.int _), ?_⟩
  | (with_reducible refine And.intro (Nat.le_of_ble_eq_true (by with_unfolding_all exact rfl)) ?_)
  | refine ⟨fun _ => ?_, fun e => nomatch (e : true = false)⟩
  | refine ⟨fun e => (nomatch (e : false = true)), fun _ => ?_⟩
  | refine ⟨fun e => (nomatch (e : true = false)), fun _ => ?_⟩
  | refine ⟨fun _ => ?_, fun e => nomatch (e : false = true)⟩)
theorem dps_zero {L : Ln} : L.dps 0 = List.replicate L.many 0 := by
  refine List.ext_getElem (by rw [dps_len, List.length_replicate]) fun i h1 h2 => ?_
  simp [Ln.dps, Ln.dp]
theorem dps_at {L : Ln} {t k : Nat} (hk : k < L.many) : (L.dps t)[k]? = some (((L.dp t (k : Int) : Nat)) : Int) := by
  unfold Ln.dps
  rw [List.getElem?_map, List.getElem?_range hk]
  rfl
theorem dp_succ {L : Ln} {t k : Nat} (hk : k < L.many) : L.dp (t + 1) (k : Int) = L.dp t (k : Int) + (if k ∈ (L.aft t).readyN then 1 else 0) := by
  show L.dp t (k : Int) + (if (L.aft t).rd k then 1 else 0) = _
  have : k ∈ (L.aft t).readyN ↔ (L.aft t).rd k := by
    rw [Ln.readyN_mem, Ln.aft_many]
    exact ⟨fun z => z.2, fun z => ⟨hk, z⟩⟩
  by_cases z : (L.aft t).rd k
  · rw [if_pos z, if_pos (this.mpr z)]
  · rw [if_neg z, if_neg (fun y => z (this.mp y))]
theorem dp_top {L : Ln} (h0 : 1 ≤ L.many) {k : Nat} (hk : k < L.many) {T : Nat} (e : L.top = (T : Int)) : L.dp L.many (k : Int) ≤ T := by
  have := top_le h0 hk
  omega
/-- the counts at rest are the depths -/
theorem deps_top {L : Ln} (h0 : 1 ≤ L.many) (hS : ¬ L.Swing) {T : Nat} (e : L.top = (T : Int)) : L.deps = L.dps T := by
  unfold Ln.deps Ln.dps
  refine List.map_congr_left fun j hj => ?_
  have := dp_top h0 (List.mem_range.mp hj) e
  rw [Ln.dp_of h0 hS (j : Int) T, Nat.min_eq_right this]
/-- what turns in a step is what is ready ahead of it -/
theorem chg_is {L : Ln} (h0 : 1 ≤ L.many) (hS : ¬ L.Swing) {T : Nat} (e : L.top = (T : Int)) : L.chg = (List.range T).map fun (t : Nat) => ((((L.aft t).readyN.length : Nat)) : Int) := by
  unfold Ln.chg
  rw [e, Int.toNat_natCast]
  refine List.map_congr_left fun t _ => ?_
  refine congrArg _ ?_
  unfold Ln.deps Ln.readyN
  rw [List.filter_map, List.length_map, Ln.aft_many]
  refine congrArg List.length (List.filter_congr fun j hj => ?_)
  have hj := List.mem_range.mp hj
  show decide (1 + (t : Int) ≤ ((L.dp L.many (j : Int) : Nat) : Int)) = (L.aft t).rdy j
  have q : (L.aft t).rdy j = true ↔ t < L.dp L.many (j : Int) := (Ln.rdy_rd (by rw [Ln.aft_many]; exact hj)).trans (Ln.rd_dp h0 hS j t)
  cases z : (L.aft t).rdy j with
  | true =>
    have := q.mp z
    exact decide_eq_true (by omega)
  | false =>
    refine decide_eq_false fun y => ?_
    rw [q.mpr (by omega)] at z
    cases z
theorem lastN_is {L : Ln} (h0 : 1 ≤ L.many) (hS : ¬ L.Swing) {T : Nat} (e : L.top = ((T + 1 : Nat) : Int)) : L.lastN = (L.aft T).readyN := by
  unfold Ln.lastN
  have h2 : (L.aft T).readyN = (List.range L.many).filter (L.aft T).rdy := by
    unfold Ln.readyN
    rw [Ln.aft_many]
  rw [h2, e]
  refine List.filter_congr fun j hj => ?_
  have hj := List.mem_range.mp hj
  have q : (L.aft T).rdy j = true ↔ T < L.dp L.many (j : Int) := (Ln.rdy_rd (by rw [Ln.aft_many]; exact hj)).trans (Ln.rd_dp h0 hS j T)
  have b := dp_top h0 hj e
  rw [decide_eq_true (by omega : (0 : Int) < ((T + 1 : Nat) : Int)), Bool.and_true]
  cases z : (L.aft T).rdy j with
  | true =>
    have := q.mp z
    exact decide_eq_true (by omega)
  | false =>
    refine decide_eq_false fun y => ?_
    rw [q.mpr (by omega)] at z
    cases z
theorem lastN_nil {L : Ln} (e : L.top = 0) : L.lastN = [] := by
  unfold Ln.lastN
  rw [e]
  refine List.filter_eq_nil_iff.mpr fun j _ z => ?_
  rw [Bool.and_eq_true] at z
  exact absurd (of_decide_eq_true z.2) (Int.lt_irrefl 0)
/-- behind the first time at rest nothing changes -/
theorem at_rest {L : Ln} (h0 : 1 ≤ L.many) {T : Nat} (h1 : ∀ k, ¬ (L.aft T).rd k) (t : Nat) (k : Int) : (L.aft t).at k = (L.aft (min t T)).at k := by
  by_cases z : t ≤ T
  · rw [Nat.min_eq_left z]
  · rw [Nat.min_eq_right (by omega), Ln.at_aft h0 t, Ln.at_aft h0 T]
    have := Ln.dp_stop h0 (h1 k) (t - T)
    rw [show T + (t - T) = t by omega] at this
    rw [this]
section
variable {h : PH} {Q : PV → PH → Prop}
theorem dat_tup {ns : List Int} : toDat h (.tup (iL ns)) = some (.tuple (ns.map PyData.int)) := by
  have e : toD 20 h (.tup (iL ns)) = some (.tuple (ns.map PyData.int)) := by
    unfold toD
    dsimp only
    rw [toDs_ints]
  unfold toDat
  rw [e]
  dsimp only
  have s : SeqAt.shaped (.tuple (ns.map PyData.int)) = true := by
    unfold SeqAt.shaped
    rw [PyData.canLay0, lay_ints, PyData.depth, dep_ints]
    rfl
  rw [s]
theorem eq_tups {ns ms : List Int} : cmpP .eq (.tup (iL ns)) (.tup (iL ms)) h = some (decide (ns = ms)) := by
  show eqP h (.tup (iL ns)) (.tup (iL ms)) = _
  unfold eqP
  rw [dat_tup, dat_tup]
  dsimp only
  rw [PyData.eqv, eqv_ints]
theorem ok_mulT {x : PV} {n : Nat} (h2 : 2 ≤ n) (z : n ≤ 1000) (q : Q (.tup (List.replicate n x)) h) : Ok (binP .mul (.tup [x]) (.int (n : Int)) h) Q := by
  unfold binP
  dsimp only
  rw [decide_eq_false (by omega : ¬ (n : Int) = 1)]
  dsimp only
  rw [decide_eq_true (by omega : (2 : Int) ≤ (n : Int)), decide_eq_true (by omega : (n : Int) ≤ 1000), Int.toNat_natCast]
  show Ok (okT (List.replicate n [x]).flatten h) Q
  rw [rep_one]
  unfold okT small
  rw [Nat.ble_eq_true_of_le (by rw [List.length_replicate]; omega : (List.replicate n x).length ≤ 100000)]
  exact q
theorem ok_intB {b : Bool} (q : Q (.int (if b then 1 else 0)) h) : Ok (biP .int [.bl b] h) Q := q
end
end Pyx

set_option Elab.async false
set_option linter.all false
set_option maxRecDepth 100000
set_option maxHeartbeats 400000
namespace Pyx
open PySem L2
local macro_rules | `(tactic| walk_at "px") => `(tactic| first
  | (with_reducible refine ok_var (v := ?_) (by with_unfolding_all exact rfl) ?_)
  | with_reducible refine os_nil ?_
  | with_reducible refine os_cons ?_
  | with_reducible refine os_pass ?_
  | with_reducible refine os_retN ?_
  | with_reducible refine os_brk ?_
  | with_reducible refine os_cont ?_
  | with_reducible refine os_ret ?_
  | with_reducible refine os_expr ?_
  | with_reducible refine os_set ?_
  | with_reducible refine os_asg ?_
  | with_reducible refine os_par ?_
  | with_reducible refine os_par3 ?_
  | with_reducible refine os_setix ?_
  | with_reducible refine os_ite ?_
  | with_reducible refine os_for ?_
  | with_reducible refine os_while ?_
  | with_reducible refine ok_val ?_
  | with_reducible refine ok_bin ?_
  | with_reducible refine ok_neg ?_
  | with_reducible refine ok_cmp ?_
  | with_reducible refine ok_chain ?_
  | with_reducible refine ok_isin ?_
  | with_reducible refine ok_and ?_
  | with_reducible refine ok_or ?_
  | with_reducible refine ok_not ?_
  | with_reducible refine ok_ite ?_
  | with_reducible refine ok_tup ?_
  | with_reducible refine ok_lst ?_
  | with_reducible refine ok_call ?_
  | with_reducible refine ok_bi ?_
  | with_reducible refine ok_isi ?_
  | with_reducible refine ok_isis ?_
  | with_reducible refine ok_ix ?_
  | with_reducible refine ok_sl ?_
  | with_reducible refine ok_oN ?_
  | with_reducible refine ok_oS ?_
  | with_reducible refine ok_nil ?_
  | with_reducible refine ok_cons ?_
  | with_reducible refine ok_bval ?_
  | with_reducible refine ok_bbl ?_
  | with_reducible refine ok_bnot ?_
  | with_reducible refine ok_band ?_
  | with_reducible refine ok_bor ?_
  | with_reducible refine ok_ifN ?_
  | with_reducible refine ok_ifS ?_
  | with_reducible refine ok_rng1 ?_
  | with_reducible refine ok_rng2 ?_
  | with_reducible refine ok_over ?_
  | with_reducible refine ok_enum ?_
  | with_reducible refine ok_add ?_
  | with_reducible refine ok_sub ?_
  | (with_reducible refine ok_lc (by with_unfolding_all exact rfl) ?_)
  | with_reducible refine ⟨_, eq_int, ?_⟩
  | with_reducible refine ⟨_, ne_int, ?_⟩
  | with_reducible refine ⟨_, lt_int', ?_⟩
  | with_reducible refine ⟨_, le_int', ?_⟩
  | with_reducible refine ⟨_, gt_int', ?_⟩
  | with_reducible refine ⟨_, ge_int', ?_⟩
  | with_reducible refine ⟨_, eq_bl, ?_⟩
  | with_reducible refine ⟨_, ne_bl, ?_⟩
  | with_reducible refine ⟨_, ty_ii, ?_⟩
  | with_reducible refine ⟨_, ty_ib, ?_⟩
  | with_reducible refine ⟨_, ty_tt, ?_⟩
  | with_reducible refine ⟨_, ty_tl, ?_⟩
  | with_reducible refine ⟨_, ty_bb, ?_⟩
  | with_reducible refine ⟨_, ty_bi, ?_⟩
  | with_reducible refine ⟨_, truth_bl, ?_⟩
  | with_reducible refine ⟨_, (rfl : PV.bl _ = PV.bl _), ?_⟩
  | with_reducible refine ⟨_, (rfl : PV.int _ = PV.int _), ?_⟩
  | (with_reducible refine And.intro (Nat.le_of_ble_eq_true (by with_unfolding_all exact rfl)) ?_)
  | refine ⟨fun _ => ?_, fun e => nomatch (e : true = false)⟩
  | refine ⟨fun e => (nomatch (e : false = true)), fun _ => ?_⟩
  | refine ⟨fun e => (nomatch (e : true = false)), fun _ => ?_⟩
  | refine ⟨fun _ => ?_, fun e => nomatch (e : false = true)⟩)
theorem at_smallV {L : Ln} {k : Nat} {h : PH} {v : PV} (e : seqOf v h = some (iL L.cells)) (hk : k < L.many) : ixP v (.int (k : Int)) h = some (.int (L.at k)) := by
  have hk2 : k < L.cells.length := hk
  rw [at_cells hk2]
  exact ix_of_nat e (by rw [List.getElem?_map, List.getElem?_eq_getElem hk2]; rfl)
theorem at_predV {L : Ln} {k : Nat} {h : PH} {v : PV} (e : seqOf v h = some (iL L.cells)) (hk : k < L.many) : ixP v (.int ((k : Int) - 1)) h = some (.int (L.at ((k : Int) - 1))) := by
  have z := at_pred (L := L) (h := h) hk
  unfold ixP at z ⊢
  dsimp only at z ⊢
  rw [e]
  rw [show seqOf (.tup (iL L.cells)) h = some (iL L.cells) from rfl] at z
  exact z
/-- the colours with their numbers -/
def Ln.mss (L : Ln) : List PV := (sortI (dedI L.cells)).map fun c => .tup [.int c, .int ((L.cells.count c : Nat) : Int)]
/-- pairs of neighbours of unlike colours -/
def Ln.bor (L : Ln) : Nat := ((List.range L.many).filter fun (k : Nat) => (L.ring || decide (1 ≤ k)) && !decide (L.at (k : Int) = L.at ((k : Int) - 1))).length
section
variable {P : Prg} {ix : Nat → Nat} {d : Nat} {h : PH} {Q : PV → PH → Prop}
theorem ok_count {a : Nat} {ns : List Int} {c : Int} (e : h.get a = some (.lst (iL ns))) (q : Q (.int ((ns.count c : Nat) : Int)) h) : Ok (mtP .count (.ref a) [.int c] h) Q := by
  show Ok (cntP (.ref a) [.int c] h) Q
  unfold cntP intsOfL
  dsimp only
  rw [seqL_lst e]
  dsimp only
  rw [intsP_ints]
  exact q
theorem sd_len {ns : List Int} : (sortI (dedI ns)).length ≤ ns.length := by
  rw [(sortI_perm _).length_eq]
  exact dedI_len ns
theorem f_masses_in (H : Has P ix 32 cf_masses_in) {L : Ln} (G : Good1 L) (w : Wf h) (q : ∀ i h', Le none h h' → h.n ≤ i → h'.get i = some (.lst L.mss) → Q (.ref i) h') : Ok (callP P 1000 (d + 1) (ix 32) [.tup (iL L.cells)] h) Q := by
  have h40 : L.cells.length ≤ 40 := G.most
  have sl := sd_len (ns := L.cells)
  refine ok_def H rfl ?_
  repeat walk_at "px"
  refine ok_setOf (ns := L.cells) (by rfl) (by omega) ?_
  repeat walk_at "px"
  refine ok_sortedSet get_new (Nat.le_trans (dedI_len _) (by omega)) ?_
  refine .inl ⟨_, iL (sortI (dedI L.cells)), rfl, seqL_lst get_new, ?_⟩
  have l1 : Le none h ((h.push (.set (dedI L.cells))).push (.lst (iL (sortI (dedI L.cells))))) := (Le.push w).p
  have g1 : ((h.push (.set (dedI L.cells))).push (.lst (iL (sortI (dedI L.cells))))).get (h.push (.set (dedI L.cells))).n = some (.lst (iL (sortI (dedI L.cells)))) := get_new
  generalize (h.push (.set (dedI L.cells))).push (.lst (iL (sortI (dedI L.cells)))) = h1 at l1 g1 ⊢
  generalize (h.push (.set (dedI L.cells))).n = a at g1 ⊢
  have dl : (iL (sortI (dedI L.cells))).length = (sortI (dedI L.cells)).length := List.length_map _
  refine ok_lcI none (iL (sortI (dedI L.cells))) h1 l1.wf (fun i e => by cases e) (fun k h' l => iv_lst (p := none) g1 (by intro z; cases z) k h' l) (by rw [dl]; omega) (fun k acc => acc = ((sortI (dedI L.cells)).take k).map fun c => .tup [.int c, .int ((L.cells.count c : Nat) : Int)]) rfl (fun k v acc h3 e3 i3 l3 => ?_) (fun acc h' i3 _ l g => ?_) (by rw [dl]; omega)
  · rw [List.getElem?_map] at e3
    cases e4 : (sortI (dedI L.cells))[k]? with
    | none => rw [e4] at e3; cases e3
    | some c =>
      rw [e4] at e3
      cases e3
      refine ⟨_, rfl, ?_⟩
      repeat walk_at "px"
      refine ⟨Le.refl l3.wf, fun e => (nomatch (e : true = false)), fun _ => ?_⟩
      repeat walk_at "px"
      refine ok_mt (ok_bi ?_)
      repeat walk_at "px"
      refine ok_listOf (xs := iL L.cells) (by rfl) (by rw [List.length_map]; omega) ⟨⟨_, seqL_lst get_new⟩, ?_⟩
      repeat walk_at "px"
      refine ok_count get_new ?_
      repeat walk_at "px"
      refine ⟨Le.push l3.wf, ?_⟩
      rw [i3, List.take_add_one, e4, List.map_append]
      rfl
  · rw [dl, List.take_of_length_le (Nat.le_refl _)] at i3
    refine q _ h' (l1.trans l) l1.n ?_
    rw [g, i3]
    rfl
theorem f_masses (H0 : Has P ix 0 cf_is_in) (H2 : Has P ix 2 cf_is_cells) (H1 : Has P ix 1 cf_need_line) (H32 : Has P ix 32 cf_masses_in) (H : Has P ix 33 cf_masses) {L : Ln} (G : Good1 L) (w : Wf h) (q : ∀ h', Le none h h' → Q (.tup L.mss) h') : Ok (callP P 1000 (d + 4) (ix 33) [L.v] h) Q := by
  have h40 : L.cells.length ≤ 40 := G.most
  have sl := sd_len (ns := L.cells)
  refine ok_def H rfl ?_
  repeat walk_at "px"
  refine f_need_line H0 H2 H1 G w fun h1 l1 => ?_
  repeat walk_at "px"
  refine ⟨_, rfl, ?_⟩
  repeat walk_at "px"
  refine f_masses_in H32 G l1.wf fun i h2 l2 _ g2 => ?_
  repeat walk_at "px"
  exact ok_tupleOf (seqOf_lst g2) (by unfold Ln.mss; rw [List.length_map]; omega) (q _ (l1.trans l2))
theorem f_borders_in (H : Has P ix 35 cf_borders_in) {L : Ln} (G : Good1 L) {v : PV} (e : ∀ h', Le none h h' → seqOf v h' = some (iL L.cells)) (w : Wf h) (q : ∀ h', Le none h h' → Q (.int ((L.bor : Nat) : Int)) h') : Ok (callP P 1000 (d + 1) (ix 35) [v, .bl L.ring] h) Q := by
  have h40 : L.cells.length ≤ 40 := G.most
  have one : 1 ≤ L.cells.length := G.one
  refine ok_def H rfl ?_
  refine os_cons (os_set (Ok.mono (Q := fun u h' => h' = h ∧ u = .int (if L.ring then 0 else 1)) ?A ?B))
  case A =>
    cases L.ring with
    | true =>
      repeat walk_at "px"
      exact ⟨rfl, rfl⟩
    | false =>
      repeat walk_at "px"
      exact ⟨rfl, rfl⟩
  case B =>
    rintro u h' ⟨rfl, rfl⟩
    repeat walk_at "px"
    refine ok_len (e _ (Le.refl w)) ?_
    rw [List.length_map]
    refine ⟨_, rfl, ⟨by split <;> omega, by split <;> omega, by omega, by omega⟩, ?_⟩
    -- k runs from begin
    obtain ⟨b, hb, hb1⟩ : ∃ b : Nat, (if L.ring = true then (0 : Int) else 1) = (b : Int) ∧ ((L.ring = true ∧ b = 0) ∨ (L.ring = false ∧ b = 1)) := by
      cases hr : L.ring with
      | true => exact ⟨0, rfl, .inl ⟨rfl, rfl⟩⟩
      | false => exact ⟨1, rfl, .inr ⟨rfl, rfl⟩⟩
    have hb2 : b ≤ 1 := by omega
    rw [hb]
    rw [show (((L.cells.length : Nat) : Int) - (b : Int)).toNat = L.cells.length - b by omega]
    have pass : ∀ k : Nat, (L.ring || decide (1 ≤ k)) = decide (b ≤ k) := fun k => by
      rcases hb1 with ⟨r, z⟩ | ⟨r, z⟩
      · rw [r, z, Bool.true_or]
        exact (decide_eq_true (Nat.zero_le k)).symm
      · rw [r, z, Bool.false_or]
    refine ok_lcI none (rng (b : Int) (L.cells.length - b)) h' w (fun i e => by cases e) (fun k h2 _ => iv_rng k h2) (by rw [rng_len]; omega) (fun k acc => acc = nL ((List.range (b + k)).filter fun (k : Nat) => (L.ring || decide (1 ≤ k)) && !decide (L.at (k : Int) = L.at ((k : Int) - 1)))) ?_ (fun k v' acc h2 e2 i2 l2 => ?_) (fun acc h2 i2 _ l2 g2 => ?_) (by rw [rng_len]; omega)
    · have : (List.range (b + 0)).filter (fun (k : Nat) => (L.ring || decide (1 ≤ k)) && !decide (L.at (k : Int) = L.at ((k : Int) - 1))) = [] := by
        refine List.filter_eq_nil_iff.mpr fun j hj z => ?_
        have hj := List.mem_range.mp hj
        rw [pass, decide_eq_false (by omega), Bool.false_and] at z
        cases z
      rw [this]
      rfl
    · obtain ⟨hk, rfl⟩ := rng_at e2
      have hk2 : b + k < L.many := by
        show b + k < L.cells.length
        omega
      rw [show (b : Int) + (k : Nat) = ((b + k : Nat) : Int) by omega] at e2 ⊢
      refine ⟨_, rfl, ?_⟩
      repeat walk_at "px"
      refine ⟨_, at_smallV (e _ l2) hk2, ?_⟩
      repeat walk_at "px"
      refine ⟨_, at_predV (e _ l2) hk2, ?_⟩
      have ep : ((L.ring || decide (1 ≤ b + k)) && !decide (L.at ((b + k : Nat) : Int) = L.at (((b + k : Nat) : Int) - 1))) = !decide (L.at ((b + k : Nat) : Int) = L.at (((b + k : Nat) : Int) - 1)) := by
        rw [pass, decide_eq_true (by omega), Bool.true_and]
      refine ⟨_, ne_int, ?_⟩
      rw [← ep]
      repeat walk_at "px"
      refine ⟨Le.refl l2.wf, fun e5 => ?_, fun e5 => ?_⟩
      · rw [i2, show b + (k + 1) = b + k + 1 by omega, nL_succ, e5]
        exact (List.append_nil _).symm
      · repeat walk_at "px"
        refine ⟨Le.refl l2.wf, ?_⟩
        rw [i2, show b + (k + 1) = b + k + 1 by omega, nL_succ, e5]
        rfl
    · rw [rng_len, show b + (L.cells.length - b) = L.cells.length by omega] at i2
      repeat walk_at "px"
      refine ok_len (seqOf_lst g2) ?_
      rw [i2, nL_len]
      exact q _ l2
end
end Pyx

set_option Elab.async false
set_option linter.all false
set_option maxRecDepth 100000
set_option maxHeartbeats 400000
namespace Pyx
open PySem L2
local macro_rules | `(tactic| walk_at "px") => `(tactic| first
  | (with_reducible refine ok_var (v := ?_) (by with_unfolding_all exact rfl) ?_)
  | with_reducible refine os_nil ?_
  | with_reducible refine os_cons ?_
  | with_reducible refine os_pass ?_
  | with_reducible refine os_retN ?_
  | with_reducible refine os_brk ?_
  | with_reducible refine os_cont ?_
  | with_reducible refine os_ret ?_
  | with_reducible refine os_expr ?_
  | with_reducible refine os_set ?_
  | with_reducible refine os_asg ?_
  | with_reducible refine os_par ?_
  | with_reducible refine os_par3 ?_
  | with_reducible refine os_setix ?_
  | with_reducible refine os_ite ?_
  | with_reducible refine os_for ?_
  | with_reducible refine os_while ?_
  | with_reducible refine ok_val ?_
  | with_reducible refine ok_bin ?_
  | with_reducible refine ok_neg ?_
  | with_reducible refine ok_cmp ?_
  | with_reducible refine ok_chain ?_
  | with_reducible refine ok_isin ?_
  | with_reducible refine ok_and ?_
  | with_reducible refine ok_or ?_
  | with_reducible refine ok_not ?_
  | with_reducible refine ok_ite ?_
  | with_reducible refine ok_tup ?_
  | with_reducible refine ok_lst ?_
  | with_reducible refine ok_call ?_
  | with_reducible refine ok_bi ?_
  | with_reducible refine ok_isi ?_
  | with_reducible refine ok_isis ?_
  | with_reducible refine ok_ix ?_
  | with_reducible refine ok_sl ?_
  | with_reducible refine ok_oN ?_
  | with_reducible refine ok_oS ?_
  | with_reducible refine ok_nil ?_
  | with_reducible refine ok_cons ?_
  | with_reducible refine ok_bval ?_
  | with_reducible refine ok_bbl ?_
  | with_reducible refine ok_bnot ?_
  | with_reducible refine ok_band ?_
  | with_reducible refine ok_bor ?_
  | with_reducible refine ok_ifN ?_
  | with_reducible refine ok_ifS ?_
  | with_reducible refine ok_rng1 ?_
  | with_reducible refine ok_rng2 ?_
  | with_reducible refine ok_over ?_
  | with_reducible refine ok_enum ?_
  | with_reducible refine ok_add ?_
  | with_reducible refine ok_sub ?_
  | (with_reducible refine ok_lc (by with_unfolding_all exact rfl) ?_)
  | with_reducible refine ⟨_, eq_int, ?_⟩
  | with_reducible refine ⟨_, ne_int, ?_⟩
  | with_reducible refine ⟨_, lt_int', ?_⟩
  | with_reducible refine ⟨_, le_int', ?_⟩
  | with_reducible refine ⟨_, gt_int', ?_⟩
  | with_reducible refine ⟨_, ge_int', ?_⟩
  | with_reducible refine ⟨_, eq_bl, ?_⟩
  | with_reducible refine ⟨_, ne_bl, ?_⟩
  | with_reducible refine ⟨_, ty_ii, ?_⟩
  | with_reducible refine ⟨_, ty_ib, ?_⟩
  | with_reducible refine ⟨_, ty_tt, ?_⟩
  | with_reducible refine ⟨_, ty_tl, ?_⟩
  | with_reducible refine ⟨_, ty_bb, ?_⟩
  | with_reducible refine ⟨_, ty_bi, ?_⟩
  | with_reducible refine ⟨_, truth_bl, ?_⟩
  | with_reducible refine ⟨_, (rfl : PV.bl _ = PV.bl _), ?_⟩
  | with_reducible refine ⟨_, (rfl : PV.int _ = PV.int _), ?_⟩
  | (with_reducible refine And.intro (Nat.le_of_ble_eq_true (by with_unfolding_all exact rfl)) ?_)
  | refine ⟨fun _ => ?_, fun e => nomatch (e : true = false)⟩
  | refine ⟨fun e => (nomatch (e : false = true)), fun _ => ?_⟩
  | refine ⟨fun e => (nomatch (e : true = false)), fun _ => ?_⟩
  | refine ⟨fun _ => ?_, fun e => nomatch (e : false = true)⟩)
section
variable {P : Prg} {ix : Nat → Nat} {d : Nat} {h : PH} {Q : PV → PH → Prop}
theorem f_borders (H0 : Has P ix 0 cf_is_in) (H2 : Has P ix 2 cf_is_cells) (H1 : Has P ix 1 cf_need_line) (H35 : Has P ix 35 cf_borders_in) (H : Has P ix 36 cf_borders) {L : Ln} (G : Good1 L) (w : Wf h) (q : ∀ h', Le none h h' → Q (.int ((L.bor : Nat) : Int)) h') : Ok (callP P 1000 (d + 4) (ix 36) [L.v] h) Q := by
  refine ok_def H rfl ?_
  repeat walk_at "px"
  refine f_need_line H0 H2 H1 G w fun h1 l1 => ?_
  repeat walk_at "px"
  refine ⟨_, rfl, ?_⟩
  repeat walk_at "px"
  refine ⟨_, rfl, ?_⟩
  repeat walk_at "px"
  exact f_borders_in H35 G (fun _ _ => rfl) l1.wf fun h2 l2 => q _ (l1.trans l2)
theorem f_lost_borders (H0 : Has P ix 0 cf_is_in) (H2 : Has P ix 2 cf_is_cells) (H1 : Has P ix 1 cf_need_line) (H4 : Has P ix 4 cf_held_in) (H5 : Has P ix 5 cf_flanks) (H6 : Has P ix 6 cf_is_flanked) (H7 : Has P ix 7 cf_ready_in) (H11 : Has P ix 11 cf_swings_in) (H13 : Has P ix 13 cf_stretches_in) (H15 : Has P ix 15 cf_need_resting) (H16 : Has P ix 16 cf_depths_in) (H21 : Has P ix 21 cf_turns_in) (H22 : Has P ix 22 cf_cells_after) (H24 : Has P ix 24 cf_rest_cells) (H35 : Has P ix 35 cf_borders_in) (H : Has P ix 37 cf_lost_borders)
    {L : Ln} (G : Good1 L) (s : L.swB = false) (w : Wf h) (q : ∀ h', Le none h h' → Q (.int ((L.bor : Nat) - ((L.aft L.many).bor : Nat) : Int)) h') : Ok (callP P 1000 (d + 9) (ix 37) [L.v] h) Q := by
  refine ok_def H rfl ?_
  repeat walk_at "px"
  refine f_need_resting H0 H2 H1 H4 H5 H6 H7 H11 H15 G s w fun h1 l1 => ?_
  repeat walk_at "px"
  refine ⟨_, rfl, ?_⟩
  repeat walk_at "px"
  refine ⟨_, rfl, ?_⟩
  repeat walk_at "px"
  refine f_borders_in H35 G (fun _ _ => rfl) l1.wf fun h2 l2 => ?_
  repeat walk_at "px"
  refine f_rest_cells H4 H5 H6 H7 H11 H13 H16 H21 H22 H24 G l2.wf fun i h3 l3 _ g3 => ?_
  repeat walk_at "px"
  refine ⟨_, rfl, ?_⟩
  repeat walk_at "px"
  have hr : (L.aft L.many).ring = L.ring := Ln.aft_ring _
  rw [← hr]
  refine f_borders_in (L := L.aft L.many) H35 (Ln.aft_good G _) (fun h' l => seqOf_lst (l.get _ _ (by intro z; cases z) g3)) l3.wf fun h4 l4 => ?_
  repeat walk_at "px"
  exact q _ (((l1.trans l2).trans l3).trans l4)
end
end Pyx

set_option Elab.async false
set_option linter.all false
set_option maxRecDepth 100000
set_option maxHeartbeats 400000
namespace Pyx
open PySem L2
local macro_rules | `(tactic| walk_at "px") => `(tactic| first
  | (with_reducible refine ok_var (v := ?_) (by with_unfolding_all exact rfl) ?_)
  | with_reducible refine os_nil ?_
  | with_reducible refine os_cons ?_
  | with_reducible refine os_pass ?_
  | with_reducible refine os_retN ?_
  | with_reducible refine os_brk ?_
  | with_reducible refine os_cont ?_
  | with_reducible refine os_ret ?_
  | with_reducible refine os_expr ?_
  | with_reducible refine os_set ?_
  | with_reducible refine os_asg ?_
  | with_reducible refine os_par ?_
  | with_reducible refine os_par3 ?_
  | with_reducible refine os_setix ?_
  | with_reducible refine os_ite ?_
  | with_reducible refine os_for ?_
  | with_reducible refine os_while ?_
  | with_reducible refine ok_val ?_
  | with_reducible refine ok_bin ?_
  | with_reducible refine ok_neg ?_
  | with_reducible refine ok_cmp ?_
  | with_reducible refine ok_chain ?_
  | with_reducible refine ok_isin ?_
  | with_reducible refine ok_and ?_
  | with_reducible refine ok_or ?_
  | with_reducible refine ok_not ?_
  | with_reducible refine ok_ite ?_
  | with_reducible refine ok_tup ?_
  | with_reducible refine ok_lst ?_
  | with_reducible refine ok_call ?_
  | with_reducible refine ok_bi ?_
  | with_reducible refine ok_isi ?_
  | with_reducible refine ok_isis ?_
  | with_reducible refine ok_ix ?_
  | with_reducible refine ok_sl ?_
  | with_reducible refine ok_oN ?_
  | with_reducible refine ok_oS ?_
  | with_reducible refine ok_nil ?_
  | with_reducible refine ok_cons ?_
  | with_reducible refine ok_bval ?_
  | with_reducible refine ok_bbl ?_
  | with_reducible refine ok_bnot ?_
  | with_reducible refine ok_band ?_
  | with_reducible refine ok_bor ?_
  | with_reducible refine ok_ifN ?_
  | with_reducible refine ok_ifS ?_
  | with_reducible refine ok_rng1 ?_
  | with_reducible refine ok_rng2 ?_
  | with_reducible refine ok_over ?_
  | with_reducible refine ok_enum ?_
  | with_reducible refine ok_add ?_
  | with_reducible refine ok_sub ?_
  | (with_reducible refine ok_lc (by with_unfolding_all exact rfl) ?_)
  | with_reducible refine ⟨_, eq_int, ?_⟩
  | with_reducible refine ⟨_, ne_int, ?_⟩
  | with_reducible refine ⟨_, lt_int', ?_⟩
  | with_reducible refine ⟨_, le_int', ?_⟩
  | with_reducible refine ⟨_, gt_int', ?_⟩
  | with_reducible refine ⟨_, ge_int', ?_⟩
  | with_reducible refine ⟨_, eq_bl, ?_⟩
  | with_reducible refine ⟨_, ne_bl, ?_⟩
  | with_reducible refine ⟨_, ty_ii, ?_⟩
  | with_reducible refine ⟨_, ty_ib, ?_⟩
  | with_reducible refine ⟨_, ty_tt, ?_⟩
  | with_reducible refine ⟨_, ty_tl, ?_⟩
  | with_reducible refine ⟨_, ty_bb, ?_⟩
  | with_reducible refine ⟨_, ty_bi, ?_⟩
  | with_reducible refine ⟨_, truth_bl, ?_⟩
  | with_reducible refine ⟨_, (rfl : PV.bl _ = PV.bl _), ?_⟩
  | with_reducible refine ⟨_, (rfl : PV.int _ = PV.int _), ?_⟩
  | (with_reducible refine And.intro (Nat.le_of_ble_eq_true (by with_unfolding_all exact rfl)) ?_)
  | refine ⟨fun _ => ?_, fun e => nomatch (e : true = false)⟩
  | refine ⟨fun e => (nomatch (e : false = true)), fun _ => ?_⟩
  | refine ⟨fun e => (nomatch (e : true = false)), fun _ => ?_⟩
  | refine ⟨fun _ => ?_, fun e => nomatch (e : false = true)⟩)
def Ln.gns (L : Ln) : List PV := (sortI (dedI L.cells)).map fun c => .tup [.int c, .int ((((L.aft L.many).cells.count c : Nat) : Int) - ((L.cells.count c : Nat) : Int))]
section
variable {P : Prg} {ix : Nat → Nat} {d : Nat} {h : PH} {Q : PV → PH → Prop}
theorem f_gains (H0 : Has P ix 0 cf_is_in) (H2 : Has P ix 2 cf_is_cells) (H1 : Has P ix 1 cf_need_line) (H4 : Has P ix 4 cf_held_in) (H5 : Has P ix 5 cf_flanks) (H6 : Has P ix 6 cf_is_flanked) (H7 : Has P ix 7 cf_ready_in) (H11 : Has P ix 11 cf_swings_in) (H13 : Has P ix 13 cf_stretches_in) (H15 : Has P ix 15 cf_need_resting) (H16 : Has P ix 16 cf_depths_in) (H21 : Has P ix 21 cf_turns_in) (H22 : Has P ix 22 cf_cells_after) (H24 : Has P ix 24 cf_rest_cells) (H32 : Has P ix 32 cf_masses_in) (H : Has P ix 34 cf_gains)
    {L : Ln} (G : Good1 L) (s : L.swB = false) (w : Wf h) (q : ∀ h', Le none h h' → Q (.tup L.gns) h') : Ok (callP P 1000 (d + 9) (ix 34) [L.v] h) Q := by
  have h40 : L.cells.length ≤ 40 := G.most
  have sl := sd_len (ns := L.cells)
  refine ok_def H rfl ?_
  repeat walk_at "px"
  refine f_need_resting H0 H2 H1 H4 H5 H6 H7 H11 H15 G s w fun h1 l1 => ?_
  repeat walk_at "px"
  refine f_rest_cells H4 H5 H6 H7 H11 H13 H16 H21 H22 H24 G l1.wf fun a h2 l2 _ g2 => ?_
  repeat walk_at "px"
  refine ⟨_, rfl, ?_⟩
  repeat walk_at "px"
  refine f_masses_in H32 G l2.wf fun i h3 l3 _ g3 => ?_
  refine .inl ⟨i, L.mss, rfl, seqL_lst g3, ?_⟩
  have g2' := l3.get _ _ (by intro z; cases z) g2
  have dl : L.mss.length = (sortI (dedI L.cells)).length := List.length_map _
  refine ok_lcI none L.mss h3 l3.wf (fun i e => by cases e) (fun k h' l => iv_lst (p := none) g3 (by intro z; cases z) k h' l) (by rw [dl]; omega) (fun k acc => acc = ((sortI (dedI L.cells)).take k).map fun c => .tup [.int c, .int ((((L.aft L.many).cells.count c : Nat) : Int) - ((L.cells.count c : Nat) : Int))]) rfl (fun k v acc h4 e4 i4 l4 => ?_) (fun acc h' i4 _ l g => ?_) (by rw [dl]; omega)
  · unfold Ln.mss at e4
    rw [List.getElem?_map] at e4
    cases e5 : (sortI (dedI L.cells))[k]? with
    | none => rw [e5] at e4; cases e4
    | some c =>
      rw [e5] at e4
      cases e4
      refine ⟨_, rfl, ?_⟩
      have ga := l4.get _ _ (by intro z; cases z) g2'
      repeat walk_at "px"
      refine ⟨Le.refl l4.wf, fun e => (nomatch (e : true = false)), fun _ => ?_⟩
      repeat walk_at "px"
      refine ok_mt (ok_var rfl ⟨⟨_, seqL_lst ga⟩, ?_⟩)
      repeat walk_at "px"
      refine ok_count ga ?_
      repeat walk_at "px"
      refine ⟨Le.refl l4.wf, ?_⟩
      rw [i4, List.take_add_one, e5, List.map_append]
      rfl
  · rw [dl, List.take_of_length_le (Nat.le_refl _)] at i4
    have := q _ (((l1.trans l2).trans l3).trans l)
    repeat walk_at "px"
    refine ok_tupleOf (seqOf_lst g) ?_ ?_
    · rw [i4, List.length_map]
      omega
    · rw [i4]
      exact this
end
end Pyx

/-! Pyx: steps behind steps; what is left of times, turns and stretches (no program in sight). -/
namespace Pyx
theorem aft_add (L : Ln) (a : Nat) : ∀ b : Nat, (L.aft a).aft b = L.aft (a + b)
  | 0 => rfl
  | b + 1 => by
    show ((L.aft a).aft b).stp = (L.aft (a + b)).stp
    rw [aft_add L a b]
theorem dp_add (L : Ln) (a : Nat) (k : Int) : ∀ b : Nat, L.dp (a + b) k = L.dp a k + (L.aft a).dp b k
  | 0 => rfl
  | b + 1 => by
    show L.dp (a + b) k + (if (L.aft (a + b)).rd k then 1 else 0) = L.dp a k + ((L.aft a).dp b k + (if ((L.aft a).aft b).rd k then 1 else 0))
    rw [dp_add L a k b, aft_add, Nat.add_assoc]
theorem Ln.ext' {L M : Ln} (h1 : L.cells = M.cells) (h2 : L.held = M.held) (h3 : L.ring = M.ring) : L = M := by
  cases L
  cases M
  cases h1
  cases h2
  cases h3
  rfl
/-- two times with the same colours -/
theorem aft_same {L : Ln} {s t : Nat} (h : ∀ k : Int, (L.aft s).at k = (L.aft t).at k) : L.aft s = L.aft t := by
  refine Ln.ext' ?_ ((Ln.aft_held s).trans (Ln.aft_held t).symm) ((Ln.aft_ring s).trans (Ln.aft_ring t).symm)
  rw [aft_cells, aft_cells]
  exact congrArg (fun f => (List.range L.many).map f) (funext fun j => h _)
theorem aft_swing {L : Ln} (h0 : 1 ≤ L.many) (S : L.Swing) (m : Nat) : L.aft (m + m) = L := by
  refine aft_same (t := 0) fun k => ?_
  rw [Ln.at_aft h0, Ln.dp_swing h0 S, if_neg (by omega)]
  rfl
theorem aft_rest {L : Ln} (h0 : 1 ≤ L.many) (hS : ¬ L.Swing) {t : Nat} (ht : L.many ≤ t) : L.aft t = L.aft L.many := by
  refine aft_same fun k => ?_
  rw [Ln.at_aft h0, Ln.at_aft h0, Ln.dp_of h0 hS k t, Nat.min_eq_right (Nat.le_trans (Ln.dp_le k _) ht)]
theorem aft_noswing {L : Ln} (h0 : 1 ≤ L.many) (a : Nat) : (L.aft a).Swing ↔ L.Swing :=
  ⟨fun z k => Ln.rd_less h0 (s := 0) (z k) (by omega) (by omega), fun z k => Ln.swing_aft h0 z a k⟩
/-- the time that is left -/
theorem top_aft {L : Ln} (h0 : 1 ≤ L.many) (hS : ¬ L.Swing) {T : Nat} (r1 : ∀ k, ¬ (L.aft T).rd k) (r2 : ∀ t, t < T → ∃ k, (L.aft t).rd k) (a : Nat) : (L.aft a).top = ((T - a : Nat) : Int) := by
  refine top_is (by rw [Ln.aft_many]; exact h0) (fun z => hS ((aft_noswing h0 a).mp z)) (fun k z => ?_) (fun t ht => ?_)
  · rw [aft_add] at z
    exact r1 k (Ln.rd_less h0 z (by omega) (by omega))
  · rw [aft_add]
    exact r2 _ (by omega)
theorem chg_aft {L : Ln} (h0 : 1 ≤ L.many) (hS : ¬ L.Swing) {T : Nat} (r1 : ∀ k, ¬ (L.aft T).rd k) (r2 : ∀ t, t < T → ∃ k, (L.aft t).rd k) (a : Nat) : (L.aft a).chg = L.chg.drop a := by
  rw [chg_is (by rw [Ln.aft_many]; exact h0) (fun z => hS ((aft_noswing h0 a).mp z)) (top_aft h0 hS r1 r2 a), chg_is h0 hS (top_is h0 hS r1 r2)]
  refine List.ext_getElem ?_ fun i h1 h2 => ?_
  · rw [List.length_drop, List.length_map, List.length_map, List.length_range, List.length_range]
  · rw [List.getElem_drop, List.getElem_map, List.getElem_map, List.getElem_range, List.getElem_range, aft_add]
theorem deps_aft {L : Ln} (h0 : 1 ≤ L.many) (hS : ¬ L.Swing) (a : Nat) : (L.aft a).deps = L.deps.map fun x => if x - (a : Int) > 0 then x - (a : Int) else 0 := by
  unfold Ln.deps
  rw [Ln.aft_many, List.map_map]
  refine List.map_congr_left fun j _ => ?_
  show _ = if ((L.dp L.many (j : Int) : Nat) : Int) - (a : Int) > 0 then ((L.dp L.many (j : Int) : Nat) : Int) - (a : Int) else 0
  have e := dp_add L a (j : Int) L.many
  have e2 := Ln.dp_of h0 hS (j : Int) (a + L.many)
  have e3 := Ln.dp_of h0 hS (j : Int) a
  have e4 := Ln.dp_le (L := L) (j : Int) L.many
  split <;> omega
theorem dps_add {L : Ln} (a b : Nat) : L.dps (a + b) = (List.range L.many).map fun (j : Nat) => ((L.dp a (j : Int) : Nat) : Int) + (((L.aft a).dp b (j : Int) : Nat) : Int) := by
  unfold Ln.dps
  refine List.map_congr_left fun j _ => ?_
  rw [dp_add, Int.natCast_add]
/-! ### stretches -/
theorem run_one {L : Ln} {k : Int} {r s : Nat} (R : L.Run k r) (S : L.Run k s) : r = s := by
  have h1 : ¬ r < s := fun z => R.post (S.mid r z)
  have h2 : ¬ s < r := fun z => S.post (R.mid s z)
  omega
theorem run_aft {L : Ln} (h0 : 1 ≤ L.many) {k : Int} {r t : Nat} (R : L.Run k r) (h : 2 * t < r) : (L.aft t).Run (k + t) (r - 2 * t) := by
  refine ⟨fun z => ?_, fun i hi => ?_, fun z => ?_⟩
  · rw [Ln.rd_aft h0] at z
    have := z (-(t : Int)) (by omega) (by omega)
    rw [show k + (t : Int) - 1 + -(t : Int) = k - 1 by omega] at this
    exact R.pre this
  · rw [Ln.rd_aft h0]
    intro d d1 d2
    have := R.mid (t + i + d).toNat (by omega)
    rw [show k + (((t + i + d).toNat : Nat) : Int) = k + (t : Int) + (i : Int) + d by omega] at this
    exact this
  · rw [Ln.rd_aft h0] at z
    have := z (t : Int) (by omega) (by omega)
    rw [show k + (t : Int) + ((r - 2 * t : Nat) : Int) + (t : Int) = k + (r : Int) by omega] at this
    exact R.post this
/-- the cells where stretches begin behind their ends -/
def Ln.sts (L : Ln) : List Nat := L.readyN.filter fun (k : Nat) => !decide (L.rd ((k : Int) - 1))
theorem sts_mem {L : Ln} {k : Nat} : k ∈ L.sts ↔ k < L.many ∧ L.rd k ∧ ¬ L.rd ((k : Int) - 1) := by
  unfold Ln.sts
  rw [List.mem_filter, Ln.readyN_mem, Bool.not_eq_true', decide_eq_false_iff_not, and_assoc]
theorem sts_nodup {L : Ln} : L.sts.Nodup := by
  unfold Ln.sts Ln.readyN
  exact (List.nodup_range.filter _).filter _
theorem sts_run {L : Ln} (h0 : 1 ≤ L.many) {k : Nat} (h : k ∈ L.sts) : L.Run (k : Int) (L.rl L.many (k : Int)) := Ln.run_at h0 (sts_mem.mp h).2.2
def shN (n t k : Nat) : Nat := (k + t) % n
theorem sts_aft {L : Ln} (h0 : 1 ≤ L.many) (t : Nat) : (L.aft t).sts.Perm ((L.sts.filter fun (k : Nat) => decide (2 * t < L.rl L.many (k : Int))).map (shN L.many t)) := by
  refine (List.perm_ext_iff_of_nodup sts_nodup ?_).mpr fun j => ?_
  · refine List.pairwise_map.mpr (List.Pairwise.imp_of_mem ?_ (sts_nodup.filter _))
    intro a b ha hb ne e
    refine ne ?_
    have a1 := (sts_mem.mp (List.mem_filter.mp ha).1).1
    have b1 := (sts_mem.mp (List.mem_filter.mp hb).1).1
    unfold shN at e
    by_cases z : a ≤ b
    · have := Nat.sub_mod_eq_zero_of_mod_eq (m := b + t) (n := a + t) (k := L.many) e.symm
      rw [show b + t - (a + t) = b - a by omega, Nat.mod_eq_of_lt (by omega)] at this
      omega
    · have := Nat.sub_mod_eq_zero_of_mod_eq (m := a + t) (n := b + t) (k := L.many) e
      rw [show a + t - (b + t) = a - b by omega, Nat.mod_eq_of_lt (by omega)] at this
      omega
  · rw [sts_mem, List.mem_map, Ln.aft_many]
    have hn : (0 : Int) < (L.many : Int) := by omega
    refine ⟨fun ⟨h1, h2, h3⟩ => ?_, fun ⟨k, h1, h2⟩ => ?_⟩
    · rw [Ln.rd_aft h0] at h2 h3
      -- the start: (j - t) mod many
      have pre : ¬ L.rd ((j : Int) - t - 1) := fun z => h3 fun d d1 d2 => by
        by_cases q : d = -(t : Int)
        · rw [q, show (j : Int) - 1 + -(t : Int) = (j : Int) - t - 1 by omega]
          exact z
        · have := h2 (d - 1) (by omega) (by omega)
          rw [show (j : Int) + (d - 1) = (j : Int) - 1 + d by omega] at this
          exact this
      have k0 := Int.emod_nonneg ((j : Int) - t) (by omega : (L.many : Int) ≠ 0)
      have k1 := Int.emod_lt_of_pos ((j : Int) - t) hn
      have ec : ((((j : Int) - t) % (L.many : Int)).toNat : Int) = ((j : Int) - t) % (L.many : Int) := Int.toNat_of_nonneg k0
      have em : (((((j : Int) - t) % (L.many : Int)).toNat : Nat) : Int) % (L.many : Int) = ((j : Int) - t) % (L.many : Int) := by
        rw [ec]
        exact Int.emod_emod_of_dvd _ (Int.dvd_refl _)
      have at_ : ∀ d : Int, L.rd ((((((j : Int) - t) % (L.many : Int)).toNat : Nat) : Int) + d) ↔ L.rd ((j : Int) - t + d) := fun d => Ln.rd_congr (emod_add_one em d)
      have km : (((j : Int) - t) % (L.many : Int)).toNat ∈ L.sts := by
        refine sts_mem.mpr ⟨by omega, ?_, ?_⟩
        · have := (at_ 0).mpr (by
            have := h2 (-(t : Int)) (by omega) (by omega)
            rw [show (j : Int) + -(t : Int) = (j : Int) - t + 0 by omega] at this
            exact this)
          rw [Int.add_zero] at this
          exact this
        · intro z
          have := (at_ (-1)).mp (by rw [show (((((j : Int) - t) % (L.many : Int)).toNat : Nat) : Int) + -1 = (((((j : Int) - t) % (L.many : Int)).toNat : Nat) : Int) - 1 by omega]; exact z)
          rw [show (j : Int) - t + -1 = (j : Int) - t - 1 by omega] at this
          exact pre this
      refine ⟨_, List.mem_filter.mpr ⟨km, decide_eq_true ?_⟩, ?_⟩
      · have R := sts_run h0 km
        refine Decidable.byContradiction fun z => R.post ((at_ _).mpr ?_)
        have := h2 (((L.rl L.many ((((((j : Int) - t) % (L.many : Int)).toNat : Nat) : Int))) : Int) - t) (by omega) (by omega)
        rw [show (j : Int) + (((L.rl L.many ((((((j : Int) - t) % (L.many : Int)).toNat : Nat) : Int))) : Int) - t) = (j : Int) - t + ((L.rl L.many ((((((j : Int) - t) % (L.many : Int)).toNat : Nat) : Int))) : Int) by omega] at this
        exact this
      · unfold shN
        have : ((((((j : Int) - t) % (L.many : Int)).toNat + t) % L.many : Nat) : Int) = (j : Int) := by
          rw [Int.natCast_emod, Int.natCast_add, emod_add_one em t, show (j : Int) - t + (t : Nat) = (j : Int) by omega]
          exact Int.emod_eq_of_lt (by omega) (by omega)
        exact Int.ofNat.inj this
    · obtain ⟨k1, k2⟩ := List.mem_filter.mp h1
      have k2 := of_decide_eq_true k2
      have R := run_aft h0 (sts_run h0 k1) k2
      have em : ((j : Nat) : Int) % (L.many : Int) = ((k : Int) + (t : Int)) % (L.many : Int) := by
        rw [← h2]
        unfold shN
        rw [Int.natCast_emod, Int.natCast_add]
        exact Int.emod_emod_of_dvd _ (Int.dvd_refl _)
      have em' : ((j : Nat) : Int) % ((L.aft t).many : Int) = ((k : Int) + (t : Int)) % ((L.aft t).many : Int) := by
        rw [Ln.aft_many]
        exact em
      refine ⟨?_, ?_, ?_⟩
      · rw [← h2]
        exact Nat.mod_lt _ h0
      · have := R.mid 0 (by omega)
        refine (Ln.rd_congr ?_).mpr this
        rw [em']
        exact congrArg (· % _) (by omega)
      · intro z
        exact R.pre ((Ln.rd_congr (emod_sub_one em' 1)).mp z)
def cutI (t : Nat) (f : List Int) : List Int := (f.drop t).take (f.length - 2 * t)
theorem cutI_get {t i : Nat} {f : List Int} (h : i < (cutI t f).length) (h2 : t + i < f.length) : (cutI t f)[i] = f[t + i] := by
  have e : (cutI t f)[i]? = f[t + i]? := by
    unfold cutI at h ⊢
    rw [List.length_take] at h
    rw [List.getElem?_take, if_pos (by omega), List.getElem?_drop]
  rw [List.getElem?_eq_getElem h, List.getElem?_eq_getElem h2] at e
  injection e
theorem strI_aft {L : Ln} (h0 : 1 ≤ L.many) {t k : Nat} (hk : k ∈ L.sts) (h : 2 * t < L.rl L.many (k : Int)) : (L.aft t).strI ((shN L.many t k : Nat) : Int) = cutI t (L.strI (k : Int)) := by
  have R := run_aft h0 (sts_run h0 hk) h
  have em : ((shN L.many t k : Nat) : Int) % ((L.aft t).many : Int) = ((k : Int) + (t : Int)) % ((L.aft t).many : Int) := by
    rw [Ln.aft_many]
    unfold shN
    rw [Int.natCast_emod, Int.natCast_add]
    exact Int.emod_emod_of_dvd _ (Int.dvd_refl _)
  have hA : 1 ≤ (L.aft t).many := by rw [Ln.aft_many]; exact h0
  have R2 : (L.aft t).Run ((shN L.many t k : Nat) : Int) (L.rl L.many (k : Int) - 2 * t) := by
    refine ⟨fun z => R.pre ((Ln.rd_congr (emod_sub_one em 1)).mp z), fun i hi => (Ln.rd_congr (emod_add_one em i)).mpr (R.mid i hi), fun z => R.post ((Ln.rd_congr (emod_add_one em _)).mp z)⟩
  have er := run_one (Ln.run_at hA R2.pre) R2
  have el : (L.strI (k : Int)).length = L.rl L.many (k : Int) + 2 := strI_len
  refine List.ext_getElem ?_ fun i h1 h2 => ?_
  · rw [strI_len, er, cutI, List.length_take, List.length_drop, el]
    omega
  · have h3 : t + i < (L.strI (k : Int)).length := by
      rw [strI_len, er] at h1
      rw [el]
      omega
    rw [strI_get, cutI_get h2 h3, strI_get]
    rw [show ((shN L.many t k : Nat) : Int) - 1 + (i : Nat) = ((shN L.many t k : Nat) : Int) + ((i : Nat) - 1) by omega, emod_add_one em]
    rw [Ln.aft_many]
    exact congrArg (· % _) (by omega)
theorem strs_sts {L : Ln} : L.strs = L.sts.map fun (k : Nat) => L.strI (k : Int) := rfl
theorem strs_aft {L : Ln} (h0 : 1 ≤ L.many) (t : Nat) : (L.aft t).strs.Perm ((L.strs.filter fun f => decide ((f.length : Int) - 2 * (t : Int) > 2)).map (cutI t)) := by
  rw [strs_sts, strs_sts]
  refine ((sts_aft h0 t).map _).trans ?_
  rw [List.map_map, List.filter_map, List.map_map]
  have e : (L.sts.filter fun (k : Nat) => decide (2 * t < L.rl L.many (k : Int))) = L.sts.filter ((fun (f : List Int) => decide ((f.length : Int) - 2 * (t : Int) > 2)) ∘ fun (k : Nat) => L.strI (k : Int)) := by
    refine List.filter_congr fun k _ => ?_
    show _ = decide (((L.strI (k : Int)).length : Int) - 2 * (t : Int) > 2)
    rw [strI_len]
    refine decide_eq_decide.mpr ?_
    omega
  rw [← e]
  refine List.Perm.of_eq (List.map_congr_left fun k hk => ?_)
  obtain ⟨k1, k2⟩ := List.mem_filter.mp hk
  exact strI_aft h0 k1 (of_decide_eq_true k2)
theorem sort_same {l m : List (List Int)} (h : l.Perm m) : sortT l = sortT m :=
  srtT_same ((sortT_perm l).trans (h.trans (sortT_perm m).symm)) (sortT_srt l) (sortT_srt m)
theorem strs_left {L : Ln} (h0 : 1 ≤ L.many) (t : Nat) : sortT (L.aft t).strs = sortT (((sortT L.strs).filter fun f => decide ((f.length : Int) - 2 * (t : Int) > 2)).map (cutI t)) :=
  sort_same ((strs_aft h0 t).trans (((sortT_perm L.strs).symm.filter _).map _))
end Pyx

set_option Elab.async false
set_option linter.all false
set_option maxRecDepth 100000
set_option maxHeartbeats 400000
namespace Pyx
open PySem L2
local macro_rules | `(tactic| walk_at "px") => `(tactic| first
  | (with_reducible refine ok_var (v := ?_) (by with_unfolding_all exact rfl) ?_)
  | with_reducible refine os_nil ?_
  | with_reducible refine os_cons ?_
  | with_reducible refine os_pass ?_
  | with_reducible refine os_retN ?_
  | with_reducible refine os_brk ?_
  | with_reducible refine os_cont ?_
  | with_reducible refine os_ret ?_
  | with_reducible refine os_expr ?_
  | with_reducible refine os_set ?_
  | with_reducible refine os_asg ?_
  | with_reducible refine os_par ?_
  | with_reducible refine os_par3 ?_
  | with_reducible refine os_setix ?_
  | with_reducible refine os_ite ?_
  | with_reducible refine os_for ?_
  | with_reducible refine os_while ?_
  | with_reducible refine ok_val ?_
  | with_reducible refine ok_bin ?_
  | with_reducible refine ok_neg ?_
  | with_reducible refine ok_cmp ?_
  | with_reducible refine ok_chain ?_
  | with_reducible refine ok_isin ?_
  | with_reducible refine ok_and ?_
  | with_reducible refine ok_or ?_
  | with_reducible refine ok_not ?_
  | with_reducible refine ok_ite ?_
  | with_reducible refine ok_tup ?_
  | with_reducible refine ok_lst ?_
  | with_reducible refine ok_call ?_
  | with_reducible refine ok_bi ?_
  | with_reducible refine ok_isi ?_
  | with_reducible refine ok_isis ?_
  | with_reducible refine ok_ix ?_
  | with_reducible refine ok_sl ?_
  | with_reducible refine ok_oN ?_
  | with_reducible refine ok_oS ?_
  | with_reducible refine ok_nil ?_
  | with_reducible refine ok_cons ?_
  | with_reducible refine ok_bval ?_
  | with_reducible refine ok_bbl ?_
  | with_reducible refine ok_bnot ?_
  | with_reducible refine ok_band ?_
  | with_reducible refine ok_bor ?_
  | with_reducible refine ok_ifN ?_
  | with_reducible refine ok_ifS ?_
  | with_reducible refine ok_rng1 ?_
  | with_reducible refine ok_rng2 ?_
  | with_reducible refine ok_over ?_
  | with_reducible refine ok_enum ?_
  | with_reducible refine ok_add ?_
  | with_reducible refine ok_sub ?_
  | (with_reducible refine ok_lc (by with_unfolding_all exact rfl) ?_)
  | with_reducible refine ⟨_, eq_int, ?_⟩
  | with_reducible refine ⟨_, ne_int, ?_⟩
  | with_reducible refine ⟨_, lt_int', ?_⟩
  | with_reducible refine ⟨_, le_int', ?_⟩
  | with_reducible refine ⟨_, gt_int', ?_⟩
  | with_reducible refine ⟨_, ge_int', ?_⟩
  | with_reducible refine ⟨_, eq_bl, ?_⟩
  | with_reducible refine ⟨_, ne_bl, ?_⟩
  | with_reducible refine ⟨_, ty_ii, ?_⟩
  | with_reducible refine ⟨_, ty_ib, ?_⟩
  | with_reducible refine ⟨_, ty_tt, ?_⟩
  | with_reducible refine ⟨_, ty_tl, ?_⟩
  | with_reducible refine ⟨_, ty_bb, ?_⟩
  | with_reducible refine ⟨_, ty_bi, ?_⟩
  | with_reducible refine ⟨_, truth_bl, ?_⟩
  | with_reducible refine ⟨_, (rfl : PV.bl _ = PV.bl _), ?_⟩
  | with_reducible refine ⟨_, (rfl : PV.int _ = PV.int _), ?_⟩
  | (with_reducible refine And.intro (Nat.le_of_ble_eq_true (by with_unfolding_all exact rfl)) ?_)
  | refine ⟨fun _ => ?_, fun e => nomatch (e : true = false)⟩
  | refine ⟨fun e => (nomatch (e : false = true)), fun _ => ?_⟩
  | refine ⟨fun e => (nomatch (e : true = false)), fun _ => ?_⟩
  | refine ⟨fun _ => ?_, fun e => nomatch (e : false = true)⟩)
section
variable {h : PH} {Q : PV → PH → Prop}
theorem toDs_two {n : Nat} {a b : PV} {d e : PyData} (h1 : toD n h a = some d) (h2 : toD n h b = some e) : toDs (toD n h) [a, b] = some [d, e] := by
  unfold toDs
  rw [h1]
  dsimp only
  unfold toDs
  rw [h2]
  rfl
theorem toD_tup {n : Nat} {ns : List Int} : toD (n + 2) h (.tup (iL ns)) = some (.tuple (ns.map PyData.int)) := by
  unfold toD
  dsimp only
  rw [toDs_ints]
theorem dat_v {L : Ln} : toDat h L.v = some (.tuple [.tuple (L.cells.map PyData.int), .tuple (L.held.map PyData.int), .bool L.ring]) := by
  have e : toD 20 h L.v = some (.tuple [.tuple (L.cells.map PyData.int), .tuple (L.held.map PyData.int), .bool L.ring]) := by
    show (match toDs (toD 19 h) [.tup (iL L.cells), .tup (iL L.held), .bl L.ring] with | some ds => some (PyData.tuple ds) | none => none) = _
    have e2 : toDs (toD 19 h) [.tup (iL L.cells), .tup (iL L.held), .bl L.ring] = some [.tuple (L.cells.map PyData.int), .tuple (L.held.map PyData.int), .bool L.ring] := by
      unfold toDs
      rw [toD_tup (n := 17)]
      dsimp only
      rw [toDs_two (d := .tuple (L.held.map PyData.int)) (e := .bool L.ring) (toD_tup (n := 17)) rfl]
    rw [e2]
  unfold toDat
  rw [e]
  dsimp only
  have s : SeqAt.shaped (.tuple [.tuple (L.cells.map PyData.int), .tuple (L.held.map PyData.int), .bool L.ring]) = true := by
    unfold SeqAt.shaped
    rw [PyData.canLay0, PyData.canLayAll0, PyData.canLayAll0, PyData.canLayAll0, PyData.canLayAll0, PyData.canLay0, PyData.canLay0, PyData.canLay0, lay_ints, lay_ints]
    rw [PyData.depth, PyData.depthAll, PyData.depthAll, PyData.depthAll, PyData.depthAll, PyData.depth, PyData.depth, PyData.depth, dep_ints, dep_ints]
    rfl
  rw [s]
theorem eq_v {L M : Ln} : cmpP .eq L.v M.v h = some (decide (L.cells = M.cells) && (decide (L.held = M.held) && (L.ring == M.ring))) := by
  show eqP h L.v M.v = _
  unfold eqP
  rw [dat_v, dat_v]
  dsimp only
  rw [PyData.eqv, PyData.eqvAll, PyData.eqvAll, PyData.eqvAll, PyData.eqvAll, PyData.eqv, PyData.eqv, PyData.eqv, eqv_ints, eqv_ints, Bool.and_true]
theorem eq_same {L M : Ln} (e : L = M) : cmpP .eq L.v M.v h = some true := by
  subst e
  rw [eq_v, decide_eq_true rfl, decide_eq_true rfl]
  cases L.ring <;> rfl
theorem ne_same {L M : Ln} (e : L = M) : cmpP .ne L.v M.v h = some false := by
  show negO (cmpP .eq L.v M.v h) = _
  rw [eq_same e]
  rfl
theorem ne_tups {ns ms : List Int} (e : ns = ms) : cmpP .ne (.tup (iL ns)) (.tup (iL ms)) h = some false := by
  show negO (cmpP .eq (.tup (iL ns)) (.tup (iL ms)) h) = _
  rw [eq_tups, decide_eq_true e]
  rfl
/-! ### tuples of tuples of ints -/
theorem toDs_tups (n : Nat) : ∀ fs : List (List Int), toDs (toD (n + 2) h) (fs.map tupI) = some (fs.map fun f => PyData.tuple (f.map PyData.int))
  | [] => rfl
  | f :: fs => by
    show (match toD (n + 2) h (.tup (iL f)) with | none => none | some d => match toDs (toD (n + 2) h) (fs.map tupI) with | none => none | some ds => some (d :: ds)) = _
    rw [toDs_tups n fs, toD_tup]
    rfl
theorem lay_tups : ∀ fs : List (List Int), PyData.canLayAll0 (fs.map fun f => PyData.tuple (f.map PyData.int)) = true
  | [] => by rw [List.map_nil, PyData.canLayAll0]
  | f :: fs => by
    rw [List.map_cons, PyData.canLayAll0, lay_tups fs, PyData.canLay0, lay_ints]
    rfl
theorem dep_tups : ∀ fs : List (List Int), PyData.depthAll (fs.map fun f => PyData.tuple (f.map PyData.int)) ≤ 1
  | [] => by rw [List.map_nil, PyData.depthAll]; decide
  | f :: fs => by
    have := dep_tups fs
    rw [List.map_cons, PyData.depthAll, PyData.depth, dep_ints]
    omega
theorem eqv_tups : ∀ fs gs : List (List Int), PyData.eqvAll (fs.map fun f => PyData.tuple (f.map PyData.int)) (gs.map fun f => PyData.tuple (f.map PyData.int)) = decide (fs = gs)
  | [], [] => by rw [List.map_nil, PyData.eqvAll]; rfl
  | [], m :: ms => by rw [List.map_nil, List.map_cons, PyData.eqvAll]; rfl
  | n :: ns, [] => by rw [List.map_nil, List.map_cons, PyData.eqvAll]; rfl
  | n :: ns, m :: ms => by
    rw [List.map_cons, List.map_cons, PyData.eqvAll, eqv_tups ns ms, PyData.eqv, eqv_ints]
    by_cases e : n = m
    · subst e
      by_cases e2 : ns = ms <;> simp [e2]
    · simp [e]
theorem dat_tups {fs : List (List Int)} : toDat h (.tup (fs.map tupI)) = some (.tuple (fs.map fun f => PyData.tuple (f.map PyData.int))) := by
  have e : toD 20 h (.tup (fs.map tupI)) = some (.tuple (fs.map fun f => PyData.tuple (f.map PyData.int))) := by
    show (match toDs (toD 19 h) (fs.map tupI) with | some ds => some (PyData.tuple ds) | none => none) = _
    rw [toDs_tups 17]
  unfold toDat
  rw [e]
  dsimp only
  have s : SeqAt.shaped (.tuple (fs.map fun f => PyData.tuple (f.map PyData.int))) = true := by
    unfold SeqAt.shaped
    have := dep_tups fs
    rw [PyData.canLay0, lay_tups, PyData.depth, Bool.true_and]
    exact decide_eq_true (by omega)
  rw [s]
theorem eq_tt {fs gs : List (List Int)} : cmpP .eq (.tup (fs.map tupI)) (.tup (gs.map tupI)) h = some (decide (fs = gs)) := by
  show eqP h (.tup (fs.map tupI)) (.tup (gs.map tupI)) = _
  unfold eqP
  rw [dat_tups, dat_tups]
  dsimp only
  rw [PyData.eqv, eqv_tups]
theorem cut_dropI {xs : List Int} {a : Nat} : cutP (iL xs) (some (a : Int)) none = iL (xs.drop a) := by
  rw [cut_drop]
  exact List.map_drop.symm
theorem cut_both {f : List Int} {a : Nat} (z : 2 * a < f.length) : cutP (iL f) (some (a : Int)) (some ((f.length : Int) - (a : Int))) = iL (cutI a f) := by
  rw [show (f.length : Int) - (a : Int) = ((f.length - a : Nat) : Int) by omega]
  unfold cutP cutI
  rw [HT.sIx_nat, HT.sIx_nat, List.length_map, Nat.min_eq_left (by omega : a ≤ f.length), Nat.min_eq_left (by omega : f.length - a ≤ f.length)]
  rw [show f.length - a - a = f.length - 2 * a by omega]
  show _ = ((f.drop a).take (f.length - 2 * a)).map PV.int
  rw [List.map_take, List.map_drop]
theorem ok_max2 {i j : Int} (q : Q (.int (if j > i then j else i)) h) : Ok (biP .max [.int i, .int j] h) Q := q
end
section
variable {rec : CE → PSt → PH → R PV} {a b : CE} {st : PSt} {h : PH} {QI : IV → PH → Prop}
theorem ok_zipT (q : Ok (rec a st h) fun v h1 => Ok (rec b st h1) fun w h2 => ∃ xs ys, v = .tup xs ∧ w = .tup ys ∧ QI (.zipT xs ys) h2) : Ok (evI rec (.zip a b) st h) QI := by
  unfold evI
  dsimp only
  cases e1 : rec a st h with
  | stuck => rw [e1] at q; exact q
  | ok v h1 =>
    rw [e1] at q
    replace q : Ok (rec b st h1) fun w h2 => ∃ xs ys, v = .tup xs ∧ w = .tup ys ∧ QI (.zipT xs ys) h2 := q
    dsimp only
    cases e2 : rec b st h1 with
    | stuck => rw [e2] at q; exact q
    | ok w h2 =>
      rw [e2] at q
      obtain ⟨xs, ys, e3, e4, q2⟩ := q
      subst e3
      subst e4
      exact q2
theorem iv_zipT {xs ys : List PV} (k : Nat) (h : PH) : ivN (.zipT xs ys) k h = pick ((xs.zip ys).map fun p => PV.tup [p.1, p.2])[k]? := by
  show (match xs[k]?, ys[k]? with
    | some x, some y => Pyx.Nx.item (.tup [x, y])
    | _, _ => Pyx.Nx.stop) = _
  rw [List.getElem?_map]
  cases e1 : xs[k]? with
  | none =>
    have : (xs.zip ys)[k]? = none := by
      rw [List.getElem?_eq_none_iff, List.length_zip]
      have := List.getElem?_eq_none_iff.mp e1
      omega
    rw [this]
    rfl
  | some x =>
    cases e2 : ys[k]? with
    | none =>
      have : (xs.zip ys)[k]? = none := by
        rw [List.getElem?_eq_none_iff, List.length_zip]
        have := List.getElem?_eq_none_iff.mp e2
        omega
      rw [this]
      rfl
    | some y =>
      have : (xs.zip ys)[k]? = some (x, y) := List.getElem?_zip_eq_some.mpr ⟨e1, e2⟩
      rw [this]
      rfl
end
section
variable {P : Prg} {ix : Nat → Nat} {d : Nat} {h : PH} {Q : PV → PH → Prop}
theorem strs_few {L : Ln} (G : Good1 L) : L.strs.length ≤ 40 := by
  have h40 := G.most
  rw [strs_sts, List.length_map, Ln.sts]
  refine Nat.le_trans (List.length_filter_le _ _) (Nat.le_trans ready_len ?_)
  exact h40
theorem f_stretches (H0 : Has P ix 0 cf_is_in) (H2 : Has P ix 2 cf_is_cells) (H1 : Has P ix 1 cf_need_line) (H4 : Has P ix 4 cf_held_in) (H5 : Has P ix 5 cf_flanks) (H6 : Has P ix 6 cf_is_flanked) (H7 : Has P ix 7 cf_ready_in) (H11 : Has P ix 11 cf_swings_in) (H13 : Has P ix 13 cf_stretches_in) (H : Has P ix 14 cf_stretches) {L : Ln} (G : Good1 L) (w : Wf h)
    (q : ∀ h', Le none h h' → Q (.tup ((if L.swB then [] else sortT L.strs).map tupI)) h') : Ok (callP P 1000 (d + 5) (ix 14) [L.v] h) Q := by
  refine ok_def H rfl ?_
  repeat walk_at "px"
  refine f_need_line H0 H2 H1 G w fun h1 l1 => ?_
  repeat walk_at "px"
  refine f_swings_in H4 H5 H6 H7 H11 G l1.wf fun h2 l2 => ?_
  refine ⟨_, truth_bl, fun e => ?_, fun e => ?_⟩
  · repeat walk_at "px"
    have := q _ (l1.trans l2)
    rw [if_pos e] at this
    exact this
  · repeat walk_at "px"
    refine f_stretches_in H4 H5 H6 H7 H13 G l2.wf fun i h3 l3 _ g3 => ?_
    have few := strs_few G
    have := q _ ((l1.trans l2).trans l3)
    rw [if_neg (by rw [e]; exact Bool.false_ne_true)] at this
    exact ok_tupleOf (seqOf_lst g3) (by rw [List.length_map, (sortT_perm _).length_eq]; omega) this
theorem f_depths (H0 : Has P ix 0 cf_is_in) (H2 : Has P ix 2 cf_is_cells) (H1 : Has P ix 1 cf_need_line) (H4 : Has P ix 4 cf_held_in) (H5 : Has P ix 5 cf_flanks) (H6 : Has P ix 6 cf_is_flanked) (H7 : Has P ix 7 cf_ready_in) (H11 : Has P ix 11 cf_swings_in) (H13 : Has P ix 13 cf_stretches_in) (H15 : Has P ix 15 cf_need_resting) (H16 : Has P ix 16 cf_depths_in) (H : Has P ix 17 cf_depths)
    {L : Ln} (G : Good1 L) (s : L.swB = false) (w : Wf h) (q : ∀ h', Le none h h' → Q (.tup (iL L.deps)) h') : Ok (callP P 1000 (d + 6) (ix 17) [L.v] h) Q := by
  have h40 := G.most
  refine ok_def H rfl ?_
  repeat walk_at "px"
  refine f_need_resting H0 H2 H1 H4 H5 H6 H7 H11 H15 G s w fun h1 l1 => ?_
  repeat walk_at "px"
  refine f_depths_in H4 H5 H6 H7 H13 H16 G s l1.wf fun i h2 l2 _ g2 => ?_
  repeat walk_at "px"
  exact ok_tupleOf (seqOf_lst g2) (by rw [List.length_map, deps_len]; omega) (q _ (l1.trans l2))
end
end Pyx

/-! Pyx: one cell seen step by step (no program in sight). -/
namespace Pyx
theorem dp_pre {L : Ln} (h0 : 1 ≤ L.many) {t T : Nat} (ht : t ≤ T) (k : Int) : L.dp t k = min t (L.dp T k) := by
  by_cases S : L.Swing
  · rw [Ln.dp_swing h0 S, Ln.dp_swing h0 S, Nat.min_eq_left ht]
  · rw [Ln.dp_of h0 S k t, Ln.dp_of h0 S k T]
    omega
theorem rd_pre {L : Ln} (h0 : 1 ≤ L.many) {t T : Nat} (ht : t < T) (k : Int) : (L.aft t).rd k ↔ t < L.dp T k := by
  by_cases S : L.Swing
  · rw [Ln.dp_swing h0 S]
    exact ⟨fun _ => ht, fun _ => Ln.swing_aft h0 S t k⟩
  · rw [Ln.rd_dp h0 S, Ln.dp_of h0 S k T]
    omega
theorem turn_ne {L : Ln} (h0 : 1 ≤ L.many) (t : Nat) (k : Int) : (L.aft (t + 1)).at k = (L.aft t).at k ↔ ¬ (L.aft t).rd k := by
  show (L.aft t).stp.at k = _ ↔ _
  rw [Ln.stp_at (by rw [Ln.aft_many]; exact h0)]
  by_cases z : (L.aft t).rd k
  · rw [if_pos z]
    exact ⟨fun e => absurd (z.2.1.symm.trans e) z.2.2, fun e => absurd z e⟩
  · rw [if_neg z]
    exact ⟨fun _ => z, fun _ => rfl⟩
theorem two_back {L : Ln} (h0 : 1 ≤ L.many) {t T : Nat} (h2 : 2 ≤ t) (ht : t ≤ T) (k : Int) (hd : t ≤ L.dp T k) : (L.aft t).at k = (L.aft (t - 2)).at k := by
  rw [Ln.at_aft h0, Ln.at_aft h0, dp_pre h0 ht, dp_pre h0 (by omega : t - 2 ≤ T), Nat.min_eq_left hd, Nat.min_eq_left (by omega : t - 2 ≤ L.dp T k)]
  by_cases p : t % 2 = 1
  · rw [if_pos p, if_pos (by omega)]
  · rw [if_neg p, if_neg (by omega)]
theorem at_late {L : Ln} (h0 : 1 ≤ L.many) (hS : ¬ L.Swing) {t : Nat} {k : Int} (h : L.dp L.many k ≤ t) : (L.aft t).at k = (L.aft L.many).at k := by
  rw [Ln.at_aft h0, Ln.at_aft h0, Ln.dp_of h0 hS k t, Nat.min_eq_right h]
theorem range_lt {D : Nat} : ∀ {m : Nat}, D ≤ m → (List.range m).filter (fun j => decide (j < D)) = List.range D
  | 0, h => by
    have : D = 0 := by omega
    subst this
    rfl
  | m + 1, h => by
    rw [List.range_succ, List.filter_append, List.filter_cons, List.filter_nil]
    by_cases e : D = m + 1
    · subst e
      rw [decide_eq_true (Nat.lt_succ_self m), if_pos rfl, List.range_succ]
      refine congrArg (· ++ [m]) (List.filter_eq_self.mpr fun a ha => decide_eq_true ?_)
      have := List.mem_range.mp ha
      omega
    · rw [decide_eq_false (by omega), if_neg Bool.false_ne_true, List.append_nil, range_lt (by omega)]
theorem at_col {L : Ln} (G : Good1 L) (k : Int) : 0 ≤ L.at k ∧ L.at k ≤ 9 := by
  have h0 := G.one
  have h2 := Int.emod_lt_of_pos k (by omega : (0 : Int) < L.many)
  have h1 := Int.emod_nonneg k (by omega : (L.many : Int) ≠ 0)
  have hj : (k % (L.many : Int)).toNat < L.cells.length := by
    have : L.cells.length = L.many := rfl
    omega
  unfold Ln.at
  rw [List.getD_eq_getElem?_getD, List.getElem?_eq_getElem hj]
  exact G.col _ (List.getElem_mem hj)
section
open PySem L2
variable {call : Nat → List PV → PH → R PV} {n : Nat} {a b : CE} {st : PSt} {h : PH} {Q : PV → PH → Prop}
theorem ok_lrg (q : Ok (evE call n a st h) fun v h1 => ∃ i, v = .int i ∧ Ok (evE call n b st h1) fun w h2 => ∃ j, w = .int j ∧ (-1000 ≤ i ∧ i ≤ 1000 ∧ -1000 ≤ j ∧ j ≤ 1000) ∧ Q (.ref h2.n) (h2.push (.lst (rgP i j)))) : Ok (evE call (n + 1) (.lrg a b) st h) Q := by
  show Ok (eLrg (evE call n) a b st h) Q
  unfold eLrg
  cases e1 : evE call n a st h with
  | stuck => rw [e1] at q; exact q
  | ok v h1 =>
    rw [e1] at q
    obtain ⟨i, e3, q⟩ := q
    subst e3
    dsimp only
    cases e2 : evE call n b st h1 with
    | stuck => rw [e2] at q; exact q
    | ok w h2 =>
      rw [e2] at q
      obtain ⟨j, e4, z, q⟩ := q
      subst e4
      dsimp only
      rw [decide_eq_true z.1, decide_eq_true z.2.1, decide_eq_true z.2.2.1, decide_eq_true z.2.2.2]
      show Ok (okL (rgP i j) h2) Q
      unfold okL small
      rw [Nat.ble_eq_true_of_le (by unfold rgP; rw [List.length_map, List.length_range]; omega : (rgP i j).length ≤ 100000)]
      exact q
theorem no_tf {c : Prop} (e : true = false) : c := nomatch e
theorem no_ft {c : Prop} (e : false = true) : c := nomatch e
theorem ne_intE {i j : Int} (e : i = j) : cmpP .ne (.int i) (.int j) h = some false := by
  rw [ne_int, decide_eq_true e]
  rfl
theorem eq_intE {i j : Int} (e : i = j) : cmpP .eq (.int i) (.int j) h = some true := by
  rw [eq_int, decide_eq_true e]
theorem eq_intN {i j : Int} (e : ¬ i = j) : cmpP .eq (.int i) (.int j) h = some false := by
  rw [eq_int, decide_eq_false e]
theorem ne_intN {i j : Int} (e : ¬ i = j) : cmpP .ne (.int i) (.int j) h = some true := by
  rw [ne_int, decide_eq_false e]
  rfl
theorem ne_lstE {a b : Nat} {ns ms : List Int} (ha : h.get a = some (.lst (iL ns))) (hb : h.get b = some (.lst (iL ms))) (e : ns = ms) : cmpP .ne (.ref a) (.ref b) h = some false := by
  rw [ne_lsts ha hb, decide_eq_true e]
  rfl
theorem eq_lstE {a b : Nat} {ns ms : List Int} (ha : h.get a = some (.lst (iL ns))) (hb : h.get b = some (.lst (iL ms))) (e : ns = ms) : cmpP .eq (.ref a) (.ref b) h = some true := by
  rw [eq_lsts ha hb, decide_eq_true e]
theorem nis_tt : cmpP .nis (.bl true) (.bl true) h = some false := rfl
theorem nis_bl {x y : Bool} : cmpP .nis (.bl x) (.bl y) h = some (!decide (x = y)) := rfl
theorem is_bl {x y : Bool} : cmpP .is (.bl x) (.bl y) h = some (decide (x = y)) := rfl
theorem rgP_one (D : Nat) : rgP 1 ((D : Int) + 1) = iL ((List.range D).map fun (j : Nat) => 1 + (j : Int)) := by
  unfold rgP
  rw [show ((D : Int) + 1 - 1).toNat = D by omega, iL, List.map_map]
  rfl
theorem last_tup {xs : List Int} {x : Int} : ixP (.tup (iL (xs ++ [x]))) (.int (-1)) h = some (.int x) := by
  rw [← iL_app]
  exact atI_last _ _
end
end Pyx

/-! Pyx: stretches as runs of cells, as long as can be (no program in sight). -/
namespace Pyx
/-- s cells one behind another from b on -/
def Ln.arc (L : Ln) (b s : Nat) : List Int := (List.range s).map fun (i : Nat) => ((b : Int) + (i : Nat)) % (L.many : Int)
theorem arc_len {L : Ln} {b s : Nat} : (L.arc b s).length = s := by rw [Ln.arc, List.length_map, List.length_range]
theorem arc_get {L : Ln} {b s i : Nat} (h : i < s) : (L.arc b s)[i]? = some (((b : Int) + (i : Nat)) % (L.many : Int)) := by
  rw [Ln.arc, List.getElem?_map, List.getElem?_range h]
  rfl
/-- all but the ends are ready -/
def Ln.inB (L : Ln) (b s : Nat) : Bool := (List.range (s - 2)).all fun (i : Nat) => decide (L.rd ((b : Int) + 1 + (i : Nat)))
theorem inB_is {L : Ln} {b s : Nat} : L.inB b s = true ↔ ∀ i : Nat, 1 ≤ i → i + 1 < s → L.rd ((b : Int) + (i : Nat)) := by
  unfold Ln.inB
  rw [List.all_eq_true]
  refine ⟨fun z i h1 h2 => ?_, fun z i hi => decide_eq_true ?_⟩
  · have := of_decide_eq_true (z (i - 1) (List.mem_range.mpr (by omega)))
    rw [show (b : Int) + 1 + ((i - 1 : Nat) : Int) = (b : Int) + (i : Nat) by omega] at this
    exact this
  · have := List.mem_range.mp hi
    have := z (i + 1) (by omega) (by omega)
    rw [show (b : Int) + ((i + 1 : Nat) : Int) = (b : Int) + 1 + (i : Nat) by omega] at this
    exact this
/-- the test by colours -/
theorem inB_cols {L : Ln} {b s : Nat} (hs : 3 ≤ s) : L.inB b s = true ↔ (∀ i : Nat, 1 ≤ i → i + 1 < s → ¬ (((b : Int) + (i : Nat)) % (L.many : Int)) ∈ L.heldI) ∧ ¬ L.at (b : Int) = L.at ((b : Int) + 1) ∧ ∀ i : Nat, 2 ≤ i → i < s → L.at ((b : Int) + (i : Nat)) = L.at ((b : Int) + (i : Nat) - 2) := by
  rw [inB_is]
  refine ⟨fun z => ⟨fun i h1 h2 => (z i h1 h2).1, ?_, fun i h1 h2 => ?_⟩, fun ⟨z1, z2, z3⟩ => ?_⟩
  · have := z 1 (by omega) (by omega)
    obtain ⟨_, a, c⟩ := this
    rw [show (b : Int) + ((1 : Nat) : Int) - 1 = (b : Int) by omega, show (b : Int) + ((1 : Nat) : Int) = (b : Int) + 1 by omega] at a
    rw [show (b : Int) + ((1 : Nat) : Int) = (b : Int) + 1 by omega] at c
    intro e
    exact c (a.symm.trans e)
  · obtain ⟨_, a, _⟩ := z (i - 1) (by omega) (by omega)
    rw [show (b : Int) + ((i - 1 : Nat) : Int) - 1 = (b : Int) + (i : Nat) - 2 by omega, show (b : Int) + ((i - 1 : Nat) : Int) + 1 = (b : Int) + (i : Nat) by omega] at a
    exact a.symm
  · have key : ∀ i : Nat, i + 1 < s → ¬ L.at ((b : Int) + (i : Nat)) = L.at ((b : Int) + (i : Nat) + 1) := by
      intro i
      induction i with
      | zero =>
        intro _
        rw [show (b : Int) + ((0 : Nat) : Int) = (b : Int) by omega]
        exact z2
      | succ i ih =>
        intro h e
        have := z3 (i + 2) (by omega) (by omega)
        rw [show (b : Int) + ((i + 2 : Nat) : Int) - 2 = (b : Int) + (i : Nat) by omega] at this
        refine ih (by omega) ?_
        rw [show (b : Int) + ((i + 1 : Nat) : Int) + 1 = (b : Int) + ((i + 2 : Nat) : Int) by omega, this, show (b : Int) + ((i + 1 : Nat) : Int) = (b : Int) + (i : Nat) + 1 by omega] at e
        exact e.symm
    intro i h1 h2
    refine ⟨z1 i h1 h2, ?_, fun e => key i h2 e.symm⟩
    have := z3 (i + 1) (by omega) (by omega)
    rw [show (b : Int) + ((i + 1 : Nat) : Int) - 2 = (b : Int) + (i : Nat) - 1 by omega, show (b : Int) + ((i + 1 : Nat) : Int) = (b : Int) + (i : Nat) + 1 by omega] at this
    exact this.symm
/-! ### all runs of cells that are stretches but for their length -/
def Ln.smx (L : Ln) : Nat := if L.ring then L.many + 1 else L.many
def Ln.okS (L : Ln) (b s : Nat) : Bool := (L.ring || decide ((b : Int) + (s : Int) ≤ (L.many : Int))) && L.inB b s
def Ln.prs (L : Ln) (b n : Nat) : List (Nat × Nat) := ((List.range n).filter fun j => L.okS b (3 + j)).map fun j => (b, 3 + j)
def Ln.PR (L : Ln) (m : Nat) : List (Nat × Nat) := (List.range m).flatMap fun b => L.prs b (L.smx + 1 - 3)
def Ln.arcP (L : Ln) (p : Nat × Nat) : List Int := L.arc p.1 p.2
theorem PR_mem {L : Ln} {m b s : Nat} : (b, s) ∈ L.PR m ↔ b < m ∧ 3 ≤ s ∧ s ≤ L.smx ∧ L.okS b s = true := by
  unfold Ln.PR Ln.prs
  rw [List.mem_flatMap]
  refine ⟨fun ⟨c, h1, h2⟩ => ?_, fun ⟨h1, h2, h3, h4⟩ => ⟨b, List.mem_range.mpr h1, List.mem_map.mpr ⟨s - 3, List.mem_filter.mpr ⟨List.mem_range.mpr (by omega), ?_⟩, ?_⟩⟩⟩
  · obtain ⟨j, h3, e⟩ := List.mem_map.mp h2
    obtain ⟨h4, h5⟩ := List.mem_filter.mp h3
    have h4 := List.mem_range.mp h4
    have h1 := List.mem_range.mp h1
    injection e with e1 e2
    subst e1
    subst e2
    exact ⟨h1, by omega, by omega, h5⟩
  · rw [show 3 + (s - 3) = s by omega]
    exact h4
  · rw [show 3 + (s - 3) = s by omega]
def Ln.mor (L : Ln) (p q : Nat × Nat) : Bool := decide ((q.2 : Int) = (p.2 : Int) + 1) && (decide ((L.arcP q).drop 1 = L.arcP p) || decide ((L.arcP q).take (q.2 - 1) = L.arcP p))
def Ln.lng (L : Ln) (m : Nat) (p : Nat × Nat) : Bool := ((L.PR m).filter (L.mor p)).isEmpty
theorem lng_is {L : Ln} {m : Nat} {p : Nat × Nat} : L.lng m p = true ↔ ∀ q ∈ L.PR m, L.mor p q = false := by
  unfold Ln.lng
  rw [List.isEmpty_iff, List.filter_eq_nil_iff]
  exact ⟨fun z q hq => Bool.eq_false_iff.mpr (z q hq), fun z q hq => Bool.eq_false_iff.mp (z q hq)⟩
theorem row_rd {L : Ln} (hr : L.ring = false) {k : Nat} (hk : k < L.many) (h : L.rd (k : Int)) : 1 ≤ k ∧ k + 1 < L.many := by
  obtain ⟨a, _, _⟩ := h
  rw [Int.emod_eq_of_lt (by omega) (by omega), heldI_mem] at a
  have n1 : ¬ (k : Int) = 0 := fun z => a (.inr ⟨hr, .inl z⟩)
  have n2 : ¬ (k : Int) = (L.many : Int) - 1 := fun z => a (.inr ⟨hr, .inr z⟩)
  omega
theorem arc_drop {L : Ln} {b b' s : Nat} (e : ((b' : Int) + 1) % (L.many : Int) = (b : Int) % (L.many : Int)) : (L.arc b' (s + 1)).drop 1 = L.arc b s := by
  refine List.ext_getElem? fun i => ?_
  rw [List.getElem?_drop]
  by_cases h : i < s
  · rw [arc_get (by omega), arc_get h]
    refine congrArg some ?_
    rw [show (b' : Int) + ((1 + i : Nat) : Int) = (b' : Int) + 1 + (i : Nat) by omega]
    exact emod_add_one e _
  · rw [List.getElem?_eq_none_iff.mpr (by rw [arc_len]; omega), List.getElem?_eq_none_iff.mpr (by rw [arc_len]; omega)]
theorem arc_take {L : Ln} {b s : Nat} : (L.arc b (s + 1)).take s = L.arc b s := by
  unfold Ln.arc
  rw [← List.map_take, List.take_range, Nat.min_eq_left (Nat.le_succ s)]
theorem arc_strI {L : Ln} {b k s : Nat} (e : (k : Int) % (L.many : Int) = ((b : Int) + 1) % (L.many : Int)) (er : L.rl L.many (k : Int) + 2 = s) : L.strI (k : Int) = L.arc b s := by
  subst er
  unfold Ln.strI Ln.arc
  refine List.map_congr_left fun i _ => ?_
  rw [show (k : Int) - 1 + (i : Nat) = (k : Int) + ((i : Nat) - 1) by omega, emod_add_one e]
  exact congrArg (· % _) (by omega)
theorem rd_mod {L : Ln} (h0 : 1 ≤ L.many) {k : Int} : L.rd ((k % (L.many : Int)).toNat : Int) ↔ L.rd k := by
  refine Ln.rd_congr ?_
  rw [Int.toNat_of_nonneg (Int.emod_nonneg _ (by omega))]
  exact Int.emod_emod_of_dvd _ (Int.dvd_refl _)
/-- as long as can be: the cells at both ends are not ready -/
theorem lng_ends {L : Ln} (h0 : 1 ≤ L.many) (hS : ¬ L.Swing) {b s : Nat} (hp : (b, s) ∈ L.PR L.many) : L.lng L.many (b, s) = true ↔ ¬ L.rd (b : Int) ∧ ¬ L.rd ((b : Int) + (s : Int) - 1) := by
  obtain ⟨hb, h3, hm, hk⟩ := PR_mem.mp hp
  unfold Ln.okS at hk
  rw [Bool.and_eq_true] at hk
  obtain ⟨ho, hi⟩ := hk
  rw [inB_is] at hi
  rw [lng_is]
  have hn : (L.many : Int) ≠ 0 := by omega
  have hpos : (0 : Int) < L.many := by omega
  refine ⟨fun z => ⟨fun r => ?_, fun r => ?_⟩, fun ⟨n1, n2⟩ q hq => ?_⟩
  · -- one more ahead
    have hs : L.ring = true → s ≤ L.many := fun e => by
      refine Decidable.byContradiction fun y => hS fun k => ?_
      have es : s = L.many + 1 := by
        unfold Ln.smx at hm
        rw [if_pos e] at hm
        omega
      have k0 := Int.emod_nonneg (k - b) hn
      have k1 := Int.emod_lt_of_pos (k - b) hpos
      have ec : ((((k - b) % (L.many : Int)).toNat : Nat) : Int) = (k - b) % (L.many : Int) := Int.toNat_of_nonneg k0
      have em : ((b : Int) + ((((k - b) % (L.many : Int)).toNat : Nat) : Int)) % (L.many : Int) = k % (L.many : Int) := by
        rw [ec, Int.add_comm, Int.emod_add_emod]
        exact congrArg (· % _) (by omega)
      by_cases q0 : (k - b) % (L.many : Int) = 0
      · refine (Ln.rd_congr ?_).mp r
        rw [← em, ec, q0, Int.add_zero]
      · exact (Ln.rd_congr em).mp (hi ((k - b) % (L.many : Int)).toNat (by omega) (by omega))
    have k0 := Int.emod_nonneg ((b : Int) - 1) hn
    have k1 := Int.emod_lt_of_pos ((b : Int) - 1) hpos
    have ec : (((((b : Int) - 1) % (L.many : Int)).toNat : Nat) : Int) = ((b : Int) - 1) % (L.many : Int) := Int.toNat_of_nonneg k0
    have em : (((((b : Int) - 1) % (L.many : Int)).toNat : Nat) : Int) % (L.many : Int) = ((b : Int) - 1) % (L.many : Int) := by
      rw [ec]
      exact Int.emod_emod_of_dvd _ (Int.dvd_refl _)
    have hq : ((((b : Int) - 1) % (L.many : Int)).toNat, s + 1) ∈ L.PR L.many := by
      refine PR_mem.mpr ⟨by omega, by omega, ?_, ?_⟩
      · unfold Ln.smx at hm ⊢
        cases hr : L.ring with
        | true =>
          have := hs hr
          rw [if_pos rfl]
          omega
        | false =>
          rw [hr] at ho
          have ho := of_decide_eq_true (by simpa using ho : decide ((b : Int) + (s : Int) ≤ (L.many : Int)) = true)
          have := row_rd hr hb r
          rw [if_neg Bool.false_ne_true]
          omega
      · unfold Ln.okS
        rw [Bool.and_eq_true]
        refine ⟨?_, inB_is.mpr fun i h1 h2 => ?_⟩
        · cases hr : L.ring with
          | true => rfl
          | false =>
            rw [hr] at ho
            have ho := of_decide_eq_true (by simpa using ho : decide ((b : Int) + (s : Int) ≤ (L.many : Int)) = true)
            have := row_rd hr hb r
            rw [Bool.false_or]
            refine decide_eq_true ?_
            rw [ec, Int.emod_eq_of_lt (by omega) (by omega)]
            omega
        · refine (Ln.rd_congr (emod_add_one em _)).mpr ?_
          by_cases q : i = 1
          · rw [q, show (b : Int) - 1 + ((1 : Nat) : Int) = (b : Int) by omega]
            exact r
          · have := hi (i - 1) (by omega) (by omega)
            rw [show (b : Int) + ((i - 1 : Nat) : Int) = (b : Int) - 1 + (i : Nat) by omega] at this
            exact this
    have := z _ hq
    unfold Ln.mor Ln.arcP at this
    rw [arc_drop (b := b) (by rw [emod_add_one em 1]; exact congrArg (· % _) (by omega))] at this
    simp at this
  · have h2 : L.ring = true → s ≤ L.many := fun e => by
      refine Decidable.byContradiction fun y => hS fun k => ?_
      have es : s = L.many + 1 := by
        unfold Ln.smx at hm
        rw [if_pos e] at hm
        omega
      have rb : L.rd (b : Int) := by
        refine (Ln.rd_congr ?_).mp r
        rw [es, show (b : Int) + ((L.many + 1 : Nat) : Int) - 1 = (b : Int) + (L.many : Int) by omega, Int.add_emod_right]
      have k0 := Int.emod_nonneg (k - b) hn
      have k1 := Int.emod_lt_of_pos (k - b) hpos
      have ec : ((((k - b) % (L.many : Int)).toNat : Nat) : Int) = (k - b) % (L.many : Int) := Int.toNat_of_nonneg k0
      have em : ((b : Int) + ((((k - b) % (L.many : Int)).toNat : Nat) : Int)) % (L.many : Int) = k % (L.many : Int) := by
        rw [ec, Int.add_comm, Int.emod_add_emod]
        exact congrArg (· % _) (by omega)
      by_cases q0 : (k - b) % (L.many : Int) = 0
      · refine (Ln.rd_congr ?_).mp rb
        rw [← em, ec, q0, Int.add_zero]
      · exact (Ln.rd_congr em).mp (hi ((k - b) % (L.many : Int)).toNat (by omega) (by omega))
    have hrow : L.ring = false → b + s + 1 ≤ L.many := fun hr => by
      rw [hr] at ho
      have ho := of_decide_eq_true (by simpa using ho : decide ((b : Int) + (s : Int) ≤ (L.many : Int)) = true)
      have := row_rd hr (k := b + s - 1) (by omega) (by
        rw [show ((b + s - 1 : Nat) : Int) = (b : Int) + (s : Int) - 1 by omega]
        exact r)
      omega
    have hq : (b, s + 1) ∈ L.PR L.many := by
      refine PR_mem.mpr ⟨hb, by omega, ?_, ?_⟩
      · unfold Ln.smx
        cases hr : L.ring with
        | true =>
          have := h2 hr
          rw [if_pos rfl]
          omega
        | false =>
          have := hrow hr
          rw [if_neg Bool.false_ne_true]
          omega
      · unfold Ln.okS
        rw [Bool.and_eq_true]
        refine ⟨?_, inB_is.mpr fun i h1 h2 => ?_⟩
        · cases hr : L.ring with
          | true => rfl
          | false =>
            have := hrow hr
            rw [Bool.false_or]
            exact decide_eq_true (by omega)
        · by_cases q : i + 1 = s
          · have e : (b : Int) + (i : Nat) = (b : Int) + (s : Int) - 1 := by omega
            rw [e]
            exact r
          · exact hi i h1 (by omega)
    have := z _ hq
    unfold Ln.mor Ln.arcP at this
    rw [show s + 1 - 1 = s by omega, arc_take] at this
    simp at this
  · obtain ⟨c, u⟩ := q
    obtain ⟨hc, u3, um, uk⟩ := PR_mem.mp hq
    unfold Ln.okS at uk
    rw [Bool.and_eq_true] at uk
    obtain ⟨uo, ui⟩ := uk
    rw [inB_is] at ui
    refine Bool.eq_false_iff.mpr fun y => ?_
    unfold Ln.mor Ln.arcP at y
    rw [Bool.and_eq_true, Bool.or_eq_true] at y
    obtain ⟨y1, y2⟩ := y
    have y1 : (u : Int) = (s : Int) + 1 := of_decide_eq_true y1
    have eu : u = s + 1 := by omega
    subst eu
    rcases y2 with y2 | y2
    · have y2 := congrArg (fun l => l[0]?) (of_decide_eq_true y2)
      have y2 : ((L.arc c (s + 1)).drop 1)[0]? = (L.arc b s)[0]? := y2
      rw [List.getElem?_drop, arc_get (by omega), arc_get (by omega)] at y2
      injection y2 with y2
      refine n1 ((Ln.rd_congr ?_).mp (ui 1 (by omega) (by omega)))
      rw [y2]
      exact congrArg (· % _) (by omega)
    · have y2 := congrArg (fun l => l[0]?) (of_decide_eq_true y2)
      have y2 : ((L.arc c (s + 1)).take (s + 1 - 1))[0]? = (L.arc b s)[0]? := y2
      rw [List.getElem?_take, if_pos (by omega), arc_get (by omega), arc_get (by omega)] at y2
      injection y2 with y2
      have y3 : (c : Int) % (L.many : Int) = (b : Int) % (L.many : Int) := by
        rw [show (c : Int) + ((0 : Nat) : Int) = (c : Int) by omega, show (b : Int) + ((0 : Nat) : Int) = (b : Int) by omega] at y2
        exact y2
      refine n2 ((Ln.rd_congr ?_).mp (ui (s - 1) (by omega) (by omega)))
      rw [emod_add_one y3]
      exact congrArg (· % _) (by omega)
theorem PR_nodup {L : Ln} (m : Nat) : (L.PR m).Nodup := by
  unfold Ln.PR
  refine List.pairwise_flatMap.mpr ⟨fun b _ => ?_, ?_⟩
  · unfold Ln.prs
    refine List.pairwise_map.mpr (List.Pairwise.imp_of_mem ?_ (List.nodup_range.filter _))
    intro i j _ _ ne e
    injection e with _ e
    omega
  · refine List.Pairwise.imp_of_mem ?_ (List.nodup_range (n := m))
    intro a b _ _ ne x hx y hy e
    unfold Ln.prs at hx hy
    obtain ⟨i, _, rfl⟩ := List.mem_map.mp hx
    obtain ⟨j, _, rfl⟩ := List.mem_map.mp hy
    injection e with e _
    exact ne e
theorem arc_inj {L : Ln} {b c s u : Nat} (hb : b < L.many) (hc : c < L.many) (hs : 1 ≤ s) (e : L.arc b s = L.arc c u) : b = c ∧ s = u := by
  have el := congrArg List.length e
  rw [arc_len, arc_len] at el
  have eh := congrArg (fun l => l[0]?) e
  have eh : (L.arc b s)[0]? = (L.arc c u)[0]? := eh
  rw [arc_get (by omega), arc_get (by omega)] at eh
  injection eh with eh
  rw [Int.emod_eq_of_lt (by omega) (by omega), Int.emod_eq_of_lt (by omega) (by omega)] at eh
  omega
theorem strs_nodup {L : Ln} : L.strs.Nodup := by
  rw [strs_sts]
  refine List.pairwise_map.mpr (List.Pairwise.imp_of_mem ?_ sts_nodup)
  intro a b ha hb ne e
  have a1 := (sts_mem.mp ha).1
  have b1 := (sts_mem.mp hb).1
  have eh := congrArg (fun l => l[1]?) e
  have eh : (L.strI (a : Int))[1]? = (L.strI (b : Int))[1]? := eh
  rw [List.getElem?_eq_getElem (by rw [strI_len]; omega), List.getElem?_eq_getElem (by rw [strI_len]; omega), strI_get, strI_get] at eh
  injection eh with eh
  rw [show (a : Int) - 1 + ((1 : Nat) : Int) = (a : Int) by omega, show (b : Int) - 1 + ((1 : Nat) : Int) = (b : Int) by omega, Int.emod_eq_of_lt (by omega) (by omega), Int.emod_eq_of_lt (by omega) (by omega)] at eh
  omega
theorem strs_law {L : Ln} (h0 : 1 ≤ L.many) (hS : ¬ L.Swing) : L.strs.Perm (((L.PR L.many).filter (L.lng L.many)).map L.arcP) := by
  have hn : (L.many : Int) ≠ 0 := by omega
  have hpos : (0 : Int) < L.many := by omega
  refine (List.perm_ext_iff_of_nodup strs_nodup ?_).mpr fun x => ?_
  · refine List.pairwise_map.mpr (List.Pairwise.imp_of_mem ?_ ((PR_nodup L.many).filter _))
    intro p q hp hq ne e
    obtain ⟨b, s⟩ := p
    obtain ⟨c, u⟩ := q
    obtain ⟨b1, b2, _, _⟩ := PR_mem.mp (List.mem_filter.mp hp).1
    obtain ⟨c1, _, _, _⟩ := PR_mem.mp (List.mem_filter.mp hq).1
    obtain ⟨e1, e2⟩ := arc_inj b1 c1 (by omega) e
    subst e1
    subst e2
    exact ne rfl
  · rw [strs_sts, List.mem_map, List.mem_map]
    refine ⟨fun ⟨k, hk, e⟩ => ?_, fun ⟨p, hp, e⟩ => ?_⟩
    · subst e
      obtain ⟨k1, k2, k3⟩ := sts_mem.mp hk
      have R := sts_run h0 hk
      have r1 : 1 ≤ L.rl L.many (k : Int) := by
        refine Decidable.byContradiction fun z => R.post ?_
        rw [show L.rl L.many (k : Int) = 0 by omega, show (k : Int) + ((0 : Nat) : Int) = (k : Int) by omega]
        exact k2
      have r2 : L.rl L.many (k : Int) < L.many := by
        refine Decidable.byContradiction fun z => R.pre ((Ln.rd_congr ?_).mp (R.mid (L.many - 1) (by omega)))
        rw [show (k : Int) + ((L.many - 1 : Nat) : Int) = (k : Int) - 1 + (L.many : Int) by omega, Int.add_emod_right]
      have b0 := Int.emod_nonneg ((k : Int) - 1) hn
      have b1 := Int.emod_lt_of_pos ((k : Int) - 1) hpos
      have ec : (((((k : Int) - 1) % (L.many : Int)).toNat : Nat) : Int) = ((k : Int) - 1) % (L.many : Int) := Int.toNat_of_nonneg b0
      have em : (((((k : Int) - 1) % (L.many : Int)).toNat : Nat) : Int) % (L.many : Int) = ((k : Int) - 1) % (L.many : Int) := by
        rw [ec]
        exact Int.emod_emod_of_dvd _ (Int.dvd_refl _)
      have hrow : L.ring = false → 1 ≤ k ∧ k + L.rl L.many (k : Int) + 1 ≤ L.many := fun hr => by
        refine ⟨(row_rd hr k1 k2).1, Decidable.byContradiction fun z => ?_⟩
        have := R.mid (L.many - 1 - k) (by omega)
        have := row_rd hr (k := L.many - 1) (by omega) (by
          rw [show ((L.many - 1 : Nat) : Int) = (k : Int) + ((L.many - 1 - k : Nat) : Int) by omega]
          exact this)
        omega
      have hp : ((((k : Int) - 1) % (L.many : Int)).toNat, L.rl L.many (k : Int) + 2) ∈ L.PR L.many := by
        refine PR_mem.mpr ⟨by omega, by omega, ?_, ?_⟩
        · unfold Ln.smx
          cases hr : L.ring with
          | true => rw [if_pos rfl]; omega
          | false =>
            have := hrow hr
            rw [if_neg Bool.false_ne_true]
            omega
        · unfold Ln.okS
          rw [Bool.and_eq_true]
          refine ⟨?_, inB_is.mpr fun i h1 h2 => ?_⟩
          · cases hr : L.ring with
            | true => rfl
            | false =>
              have := hrow hr
              rw [Bool.false_or]
              refine decide_eq_true ?_
              rw [ec, Int.emod_eq_of_lt (by omega) (by omega)]
              omega
          · have := R.mid (i - 1) (by omega)
            rw [show (k : Int) + ((i - 1 : Nat) : Int) = (k : Int) - 1 + (i : Nat) by omega] at this
            exact (Ln.rd_congr (emod_add_one em _)).mpr this
      refine ⟨_, List.mem_filter.mpr ⟨hp, (lng_ends h0 hS hp).mpr ⟨fun z => k3 ((Ln.rd_congr em).mp z), fun z => R.post ?_⟩⟩, ?_⟩
      · refine (Ln.rd_congr ?_).mp z
        rw [show ∀ x : Int, x + ((L.rl L.many (k : Int) + 2 : Nat) : Int) - 1 = x + ((L.rl L.many (k : Int) : Nat) + 1 : Int) from fun x => by omega, emod_add_one em]
        exact congrArg (· % _) (by omega)
      · refine (arc_strI ?_ rfl).symm
        rw [emod_add_one em]
        exact congrArg (· % _) (by omega)
    · subst e
      obtain ⟨b, s⟩ := p
      obtain ⟨hp, hl⟩ := List.mem_filter.mp hp
      obtain ⟨n1, n2⟩ := (lng_ends h0 hS hp).mp hl
      obtain ⟨hb, h3, hm, hk⟩ := PR_mem.mp hp
      unfold Ln.okS at hk
      rw [Bool.and_eq_true, inB_is] at hk
      have hi := hk.2
      have b0 := Int.emod_nonneg ((b : Int) + 1) hn
      have b1 := Int.emod_lt_of_pos ((b : Int) + 1) hpos
      have ec : (((((b : Int) + 1) % (L.many : Int)).toNat : Nat) : Int) = ((b : Int) + 1) % (L.many : Int) := Int.toNat_of_nonneg b0
      have em : (((((b : Int) + 1) % (L.many : Int)).toNat : Nat) : Int) % (L.many : Int) = ((b : Int) + 1) % (L.many : Int) := by
        rw [ec]
        exact Int.emod_emod_of_dvd _ (Int.dvd_refl _)
      have hs : (((b : Int) + 1) % (L.many : Int)).toNat ∈ L.sts := by
        refine sts_mem.mpr ⟨by omega, (Ln.rd_congr em).mpr (by have := hi 1 (by omega) (by omega); exact this), fun z => n1 ?_⟩
        have := (Ln.rd_congr (emod_sub_one em 1)).mp z
        rw [show (b : Int) + 1 - 1 = (b : Int) by omega] at this
        exact this
      have R2 : L.Run (((((b : Int) + 1) % (L.many : Int)).toNat : Nat) : Int) (s - 2) := by
        refine ⟨(sts_mem.mp hs).2.2, fun i hi2 => ?_, fun z => n2 ?_⟩
        · refine (Ln.rd_congr (emod_add_one em _)).mpr ?_
          have := hi (i + 1) (by omega) (by omega)
          rw [show (b : Int) + ((i + 1 : Nat) : Int) = (b : Int) + 1 + (i : Nat) by omega] at this
          exact this
        · have := (Ln.rd_congr (emod_add_one em _)).mp z
          rw [show (b : Int) + 1 + ((s - 2 : Nat) : Int) = (b : Int) + (s : Int) - 1 by omega] at this
          exact this
      have er := run_one (sts_run h0 hs) R2
      exact ⟨_, hs, arc_strI em (by omega)⟩
theorem strs_law_sort {L : Ln} (h0 : 1 ≤ L.many) (hS : ¬ L.Swing) : sortT (((L.PR L.many).filter (L.lng L.many)).map L.arcP) = sortT L.strs := sort_same (strs_law h0 hS).symm
/-! ### no cell lies inside two stretches -/
theorem in_one {L : Ln} {k k' : Nat} {a a' : Nat} (hk : k ∈ L.sts) (hk' : k' ∈ L.sts) (h1 : 1 ≤ a) (h2 : a ≤ L.rl L.many (k : Int)) (h1' : 1 ≤ a') (h2' : a' ≤ L.rl L.many (k' : Int))
    (h0 : 1 ≤ L.many) (e : ((k : Int) - 1 + (a : Nat)) % (L.many : Int) = ((k' : Int) - 1 + (a' : Nat)) % (L.many : Int)) : k = k' ∧ a = a' := by
  have key : ∀ {k k' a a' : Nat}, k ∈ L.sts → k' ∈ L.sts → 1 ≤ a → a' ≤ L.rl L.many (k' : Int) → ((k : Int) - 1 + (a : Nat)) % (L.many : Int) = ((k' : Int) - 1 + (a' : Nat)) % (L.many : Int) → ¬ a < a' := fun {k k' a a'} hk hk' h1 h2' e z => by
    have e2 := emod_sub_one e (a : Nat)
    rw [show (k : Int) - 1 + (a : Nat) - (a : Nat) = (k : Int) - 1 by omega, show (k' : Int) - 1 + (a' : Nat) - (a : Nat) = (k' : Int) + ((a' - a - 1 : Nat) : Int) by omega] at e2
    exact (sts_mem.mp hk).2.2 ((Ln.rd_congr e2).mpr ((sts_run h0 hk').mid (a' - a - 1) (by omega)))
  have n1 := key hk hk' h1 h2' e
  have n2 := key hk' hk h1' h2 e.symm
  have ea : a = a' := by omega
  subst ea
  have e2 := emod_sub_one e ((a : Int) - 1)
  rw [show (k : Int) - 1 + (a : Nat) - ((a : Int) - 1) = (k : Int) by omega, show (k' : Int) - 1 + (a : Nat) - ((a : Int) - 1) = (k' : Int) by omega] at e2
  have k1 := (sts_mem.mp hk).1
  have k1' := (sts_mem.mp hk').1
  rw [Int.emod_eq_of_lt (by omega) (by omega), Int.emod_eq_of_lt (by omega) (by omega)] at e2
  exact ⟨by omega, rfl⟩
theorem PR_succ {L : Ln} (m : Nat) : L.PR (m + 1) = L.PR m ++ L.prs m (L.smx + 1 - 3) := by
  unfold Ln.PR
  rw [List.range_succ, List.flatMap_append]
  simp
theorem prs_succ {L : Ln} (b n : Nat) : L.prs b (n + 1) = L.prs b n ++ (if L.okS b (3 + n) then [(b, 3 + n)] else []) := by
  unfold Ln.prs
  rw [List.range_succ, List.filter_append, List.filter_cons, List.filter_nil, List.map_append]
  cases L.okS b (3 + n) <;> rfl
theorem prs_few {L : Ln} (b n : Nat) : (L.prs b n).length ≤ n := by
  unfold Ln.prs
  rw [List.length_map]
  have := List.length_filter_le (fun j => L.okS b (3 + j)) (List.range n)
  rw [List.length_range] at this
  exact this
theorem PR_few {L : Ln} : ∀ m : Nat, (L.PR m).length ≤ m * (L.smx + 1 - 3)
  | 0 => Nat.zero_le _
  | m + 1 => by
    rw [PR_succ, List.length_append, Nat.succ_mul]
    have := PR_few (L := L) m
    have := prs_few (L := L) m (L.smx + 1 - 3)
    omega
end Pyx

/-! Pyx: the most steps that a line of a frame can need (no program in sight). -/
namespace Pyx
def maxL : List Int → Int
  | [] => 0
  | i :: is => maxI i is
theorem maxL_mem : ∀ {l : List Int}, l ≠ [] → maxL l ∈ l
  | [], h => absurd rfl h
  | i :: is, _ => (maxI_is is i).1
theorem maxL_le : ∀ {l : List Int} {x : Int}, x ∈ l → x ≤ maxL l
  | i :: is, x, h => (maxI_is is i).2 x h
def gpI (S : List Int) (j : Nat) : Int := S.getD (j + 1) 0 - S.getD j 0
def gapsI (S : List Int) : List Int := (List.range (S.length - 1)).map (gpI S)
def lastI (S : List Int) : Int := S.getD (S.length - 1) 0
def Ln.lgst (L : Ln) : Int :=
  if L.ring then
    (if L.heldI.length = 0 then (if L.many % 2 = 1 then (L.many : Int) else (L.many : Int) - 1)
     else if L.heldI.length = 1 then (if L.many % 2 = 1 then (L.many : Int) else (L.many : Int) + 1)
     else maxL (gapsI L.heldI ++ [L.heldI.getD 0 0 + (L.many : Int) - lastI L.heldI]) + 1)
  else maxL ((gapsI L.heldI).map (fun x => x + 1) ++ [1])
theorem heldI_same {L M : Ln} (h1 : L.many = M.many) (h2 : L.held = M.held) (h3 : L.ring = M.ring) : L.heldI = M.heldI := by
  unfold Ln.heldI Ln.ends
  rw [h1, h2, h3]
theorem lgst_same {L M : Ln} (h1 : L.many = M.many) (h2 : L.held = M.held) (h3 : L.ring = M.ring) : L.lgst = M.lgst := by
  unfold Ln.lgst
  rw [heldI_same h1 h2 h3, h1, h3]
/-- some cells one behind another are ready: a time -/
theorem top_low {L : Ln} (h0 : 1 ≤ L.many) (hS : ¬ L.Swing) {k : Int} {r : Nat} (h : ∀ i : Nat, i < r → L.rd (k + (i : Nat))) : (((r + 1) / 2 : Nat) : Int) ≤ L.top ∨ r = 0 := by
  by_cases e : r = 0
  · exact .inr e
  refine .inl ?_
  have hn : (L.many : Int) ≠ 0 := by omega
  have hpos : (0 : Int) < L.many := by omega
  -- the middle
  have b0 := Int.emod_nonneg (k - 1 + (((r + 1) / 2 : Nat) : Int)) hn
  have b1 := Int.emod_lt_of_pos (k - 1 + (((r + 1) / 2 : Nat) : Int)) hpos
  have ec : ((((k - 1 + (((r + 1) / 2 : Nat) : Int)) % (L.many : Int)).toNat : Nat) : Int) = (k - 1 + (((r + 1) / 2 : Nat) : Int)) % (L.many : Int) := Int.toNat_of_nonneg b0
  have em : ((((k - 1 + (((r + 1) / 2 : Nat) : Int)) % (L.many : Int)).toNat : Nat) : Int) % (L.many : Int) = (k - 1 + (((r + 1) / 2 : Nat) : Int)) % (L.many : Int) := by
    rw [ec]
    exact Int.emod_emod_of_dvd _ (Int.dvd_refl _)
  have t := top_le h0 (j := ((k - 1 + (((r + 1) / 2 : Nat) : Int)) % (L.many : Int)).toNat) (by omega)
  rw [Ln.dp_congr em] at t
  have rr : (L.aft ((r + 1) / 2 - 1)).rd (k - 1 + (((r + 1) / 2 : Nat) : Int)) := by
    rw [Ln.rd_aft h0]
    intro d d1 d2
    have := h ((((r + 1) / 2 : Nat) : Int) - 1 + d).toNat (by omega)
    rw [show k + (((((r + 1) / 2 : Nat) : Int) - 1 + d).toNat : Int) = k - 1 + (((r + 1) / 2 : Nat) : Int) + d by omega] at this
    exact this
  rw [Ln.rd_dp h0 hS] at rr
  omega
/-- no run is longer: no time is -/
theorem top_up {L : Ln} (h0 : 1 ≤ L.many) (hS : ¬ L.Swing) {g : Int} (g1 : 1 ≤ g) (h : ∀ (k : Int) (r : Nat), 1 ≤ r → L.Run k r → (r : Int) + 2 ≤ g) : L.top ≤ (g - 1) / 2 := by
  obtain ⟨j, hj, e⟩ := top_at (L := L) h0
  rw [e]
  by_cases r : L.rd (j : Int)
  · obtain ⟨b, hb⟩ : ∃ b, ¬ L.rd b := Classical.byContradiction fun z => hS fun k => Decidable.byContradiction fun y => z ⟨k, y⟩
    obtain ⟨i, i1, i2, i3⟩ := Ln.in_run r hb h0
    have R := Ln.run_at h0 (L := L) (k := (j : Int) - (i : Nat) + 1) (by
      rw [show (j : Int) - (i : Nat) + 1 - 1 = (j : Int) - (i : Nat) by omega]
      exact i2)
    have le : i ≤ L.rl L.many ((j : Int) - (i : Nat) + 1) := Decidable.byContradiction fun z => R.post (by
      have := i3 (i - 1 - L.rl L.many ((j : Int) - (i : Nat) + 1)) (by omega)
      rw [show (j : Int) - ((i - 1 - L.rl L.many ((j : Int) - (i : Nat) + 1) : Nat) : Int) = (j : Int) - (i : Nat) + 1 + (L.rl L.many ((j : Int) - (i : Nat) + 1) : Nat) by omega] at this
      exact this)
    have d := Ln.run_dp h0 R i1 le L.many
    rw [show (j : Int) - (i : Nat) + 1 - 1 + (i : Nat) = (j : Int) by omega] at d
    have := h _ _ (by omega) R
    omega
  · rw [Ln.dp_none h0 r]
    omega
/-! ### gaps between held cells -/
theorem step_at {g : Nat → Int} {x : Int} : ∀ {m : Nat}, g 0 < x → ¬ g m < x → ∃ j, j < m ∧ g j < x ∧ ¬ g (j + 1) < x
  | 0, h1, h2 => absurd h1 h2
  | m + 1, h1, h2 => by
    by_cases z : g m < x
    · exact ⟨m, Nat.lt_succ_self m, z, h2⟩
    · obtain ⟨j, a, b, c⟩ := step_at (m := m) h1 z
      exact ⟨j, by omega, b, c⟩
theorem run_lt {L : Ln} (h0 : 1 ≤ L.many) {k : Int} {r : Nat} (R : L.Run k r) : r < L.many := by
  refine Decidable.byContradiction fun z => R.pre ((Ln.rd_congr ?_).mp (R.mid (L.many - 1) (by omega)))
  rw [show k + ((L.many - 1 : Nat) : Int) = k - 1 + (L.many : Int) by omega, Int.add_emod_right]
/-- colours of a run alternate -/
theorem run_alt {L : Ln} {k : Int} {r : Nat} (h : ∀ i : Nat, i < r → L.rd (k + (i : Nat))) : ∀ i : Nat, i ≤ r + 1 → L.at (k - 1 + (i : Nat)) = L.at (k - 1 + ((i % 2 : Nat) : Int))
  | 0, _ => rfl
  | 1, _ => rfl
  | i + 2, hi => by
    have z := run_alt h i (by omega)
    have := (h i (by omega)).2.1
    rw [show k + (i : Nat) - 1 = k - 1 + (i : Nat) by omega, show k + (i : Nat) + 1 = k - 1 + ((i + 2 : Nat) : Int) by omega] at this
    rw [← this, z, show (i + 2) % 2 = i % 2 by omega]
theorem run_ne {L : Ln} {k : Int} (h : L.rd k) : ¬ L.at (k - 1) = L.at k := fun e => h.2.2 (h.2.1.symm.trans e)
theorem run_odd {L : Ln} (h0 : 1 ≤ L.many) {k : Int} {r : Nat} (r1 : 1 ≤ r) (R : L.Run k r) (o : L.many % 2 = 1) : r + 2 ≤ L.many := by
  have lt := run_lt h0 R
  refine Decidable.byContradiction fun z => ?_
  have er : r = L.many - 1 := by omega
  have a := run_alt R.mid L.many (by omega)
  rw [o, show k - 1 + ((1 : Nat) : Int) = k by omega, Ln.at_congr (Int.add_emod_right (k - 1) _)] at a
  have m := R.mid 0 (by omega)
  rw [show k + ((0 : Nat) : Int) = k by omega] at m
  exact run_ne m a
theorem run_even {L : Ln} (h0 : 1 ≤ L.many) {k : Int} {r : Nat} (r1 : 1 ≤ r) (R : L.Run k r) (o : L.many % 2 = 0) (hs : L.heldI = []) : r + 3 ≤ L.many := by
  have lt := run_lt h0 R
  refine Decidable.byContradiction fun z => R.pre ?_
  have a := run_alt R.mid (L.many - 1) (by omega)
  rw [show (L.many - 1) % 2 = 1 by omega, show k - 1 + ((1 : Nat) : Int) = k by omega] at a
  have e : L.at (k - 1 + ((L.many - 1 : Nat) : Int)) = L.at (k - 1 - 1) := Ln.at_congr (by
    rw [show k - 1 + ((L.many - 1 : Nat) : Int) = k - 1 - 1 + (L.many : Int) by omega, Int.add_emod_right])
  rw [e] at a
  have m := R.mid 0 (by omega)
  rw [show k + ((0 : Nat) : Int) = k by omega] at m
  refine ⟨by rw [hs]; exact (by simp), ?_, ?_⟩
  · rw [show k - 1 + 1 = k by omega]
    exact a
  · rw [show k - 1 + 1 = k by omega]
    exact fun e => run_ne m e.symm
/-! ### held cells in order -/
theorem heldI_srt {L : Ln} : L.heldI.Pairwise (· < ·) := by
  have a : L.heldI.Pairwise (· ≤ ·) := sortI_srt _
  have b : L.heldI.Pairwise (fun x y => x ≠ y) := (sortI_perm _).nodup_iff.mpr (dedI_nodup _)
  exact (a.and b).imp fun ⟨x, y⟩ => by omega
theorem heldI_rng {L : Ln} (G : Good1 L) {x : Int} (h : x ∈ L.heldI) : 0 ≤ x ∧ x < (L.many : Int) := by
  have h0 := G.one
  rcases heldI_mem.mp h with z | ⟨_, z | z⟩
  · exact G.hin x z
  · omega
  · omega
theorem getD_in {S : List Int} {j : Nat} (h : j < S.length) : S.getD j 0 ∈ S := by
  rw [List.getD_eq_getElem?_getD, List.getElem?_eq_getElem h]
  exact List.getElem_mem h
theorem getD_lt {S : List Int} (hs : S.Pairwise (· < ·)) {i j : Nat} (hij : i < j) (hj : j < S.length) : S.getD i 0 < S.getD j 0 := by
  rw [List.getD_eq_getElem?_getD, List.getD_eq_getElem?_getD, List.getElem?_eq_getElem hj, List.getElem?_eq_getElem (by omega)]
  exact List.pairwise_iff_getElem.mp hs i j (by omega) hj hij
theorem getD_of {S : List Int} {x : Int} (h : x ∈ S) : ∃ j, j < S.length ∧ S.getD j 0 = x := by
  obtain ⟨j, hj, e⟩ := List.getElem_of_mem h
  refine ⟨j, hj, ?_⟩
  rw [List.getD_eq_getElem?_getD, List.getElem?_eq_getElem hj]
  exact e
theorem first_le {S : List Int} (hs : S.Pairwise (· < ·)) {x : Int} (h : x ∈ S) : S.getD 0 0 ≤ x := by
  obtain ⟨j, hj, e⟩ := getD_of h
  by_cases z : j = 0
  · subst z
    omega
  · have := getD_lt hs (i := 0) (j := j) (by omega) hj
    omega
theorem last_ge {S : List Int} (hs : S.Pairwise (· < ·)) {x : Int} (h : x ∈ S) : x ≤ lastI S := by
  obtain ⟨j, hj, e⟩ := getD_of h
  unfold lastI
  by_cases z : j = S.length - 1
  · subst z
    omega
  · have := getD_lt hs (i := j) (j := S.length - 1) (by omega) (by omega)
    omega
theorem between {S : List Int} (hs : S.Pairwise (· < ·)) {j : Nat} (hj : j + 1 < S.length) {x : Int} (h1 : S.getD j 0 < x) (h2 : x < S.getD (j + 1) 0) : x ∉ S := fun z => by
  obtain ⟨i, hi, e⟩ := getD_of z
  by_cases c : i ≤ j
  · by_cases c2 : i = j
    · subst c2
      omega
    · have := getD_lt hs (i := i) (j := j) (by omega) (by omega)
      omega
  · by_cases c2 : i = j + 1
    · subst c2
      omega
    · have := getD_lt hs (i := j + 1) (j := i) (by omega) hi
      omega
theorem gap_in {S : List Int} {j : Nat} (h : j + 1 < S.length) : gpI S j ∈ gapsI S := List.mem_map.mpr ⟨j, List.mem_range.mpr (by omega), rfl⟩
theorem held_not {L : Ln} (G : Good1 L) {x y : Int} (h : x ∈ L.heldI) (e : y % (L.many : Int) = x % (L.many : Int)) : ¬ L.rd y := fun z => by
  obtain ⟨a, b⟩ := heldI_rng G h
  refine z.1 ?_
  rw [e, Int.emod_eq_of_lt a b]
  exact h
/-- a run lies between held cells -/
theorem run_gap {L : Ln} {k : Int} {r : Nat} (R : L.Run k r) {x y : Int} (hx : x < k) (hy : ¬ y < k) (ny : ¬ L.rd y) : (r : Int) + 1 ≤ y - x := by
  refine Decidable.byContradiction fun z => ny ?_
  have := R.mid (y - k).toNat (by omega)
  rw [show k + ((y - k).toNat : Int) = y by omega] at this
  exact this
theorem run_move {L : Ln} {k k' : Int} {r : Nat} (e : k % (L.many : Int) = k' % (L.many : Int)) (R : L.Run k r) : L.Run k' r :=
  ⟨fun z => R.pre ((Ln.rd_congr (emod_sub_one e 1)).mpr z), fun i hi => (Ln.rd_congr (emod_add_one e _)).mp (R.mid i hi), fun z => R.post ((Ln.rd_congr (emod_add_one e _)).mpr z)⟩
theorem lgst_up {L : Ln} (G : Good1 L) {k : Int} {r : Nat} (r1 : 1 ≤ r) (R : L.Run k r) : (r : Int) + 2 ≤ L.lgst := by
  have h0 := G.one
  have hn : (L.many : Int) ≠ 0 := by omega
  have hpos : (0 : Int) < L.many := by omega
  have rk : L.rd k := by
    have := R.mid 0 r1
    rw [show k + ((0 : Nat) : Int) = k by omega] at this
    exact this
  have lt := run_lt h0 R
  have hs := heldI_srt (L := L)
  unfold Ln.lgst
  cases hr : L.ring with
  | true =>
    rw [if_pos rfl]
    by_cases c0 : L.heldI.length = 0
    · rw [if_pos c0]
      have e0 : L.heldI = [] := List.eq_nil_of_length_eq_zero c0
      by_cases o : L.many % 2 = 1
      · rw [if_pos o]
        have := run_odd h0 r1 R o
        omega
      · rw [if_neg o]
        have := run_even h0 r1 R (by omega) e0
        omega
    · rw [if_neg c0]
      by_cases c1 : L.heldI.length = 1
      · rw [if_pos c1]
        by_cases o : L.many % 2 = 1
        · rw [if_pos o]
          have := run_odd h0 r1 R o
          omega
        · rw [if_neg o]
          omega
      · rw [if_neg c1]
        have s0 := getD_in (S := L.heldI) (j := 0) (by omega)
        obtain ⟨s1, s2⟩ := heldI_rng G s0
        have b0 := Int.emod_nonneg (k - L.heldI.getD 0 0) hn
        have b1 := Int.emod_lt_of_pos (k - L.heldI.getD 0 0) hpos
        have ex : (L.heldI.getD 0 0 + (k - L.heldI.getD 0 0) % (L.many : Int)) % (L.many : Int) = k % (L.many : Int) := by
          rw [Int.add_comm, Int.emod_add_emod]
          exact congrArg (· % _) (by omega)
        have R2 := run_move ex.symm R
        have ne : ¬ (k - L.heldI.getD 0 0) % (L.many : Int) = 0 := fun z => by
          rw [z, Int.add_zero] at ex
          exact held_not G s0 ex.symm rk
        obtain ⟨j, j1, j2, j3⟩ := step_at (g := fun j => if j < L.heldI.length then L.heldI.getD j 0 else L.heldI.getD 0 0 + (L.many : Int)) (x := L.heldI.getD 0 0 + (k - L.heldI.getD 0 0) % (L.many : Int)) (m := L.heldI.length)
          (by show (if 0 < L.heldI.length then L.heldI.getD 0 0 else _) < _; rw [if_pos (by omega)]; omega) (by show ¬ (if L.heldI.length < L.heldI.length then _ else L.heldI.getD 0 0 + (L.many : Int)) < _; rw [if_neg (by omega)]; omega)
        have j2 : (if j < L.heldI.length then L.heldI.getD j 0 else L.heldI.getD 0 0 + (L.many : Int)) < L.heldI.getD 0 0 + (k - L.heldI.getD 0 0) % (L.many : Int) := j2
        have j3 : ¬ (if j + 1 < L.heldI.length then L.heldI.getD (j + 1) 0 else L.heldI.getD 0 0 + (L.many : Int)) < L.heldI.getD 0 0 + (k - L.heldI.getD 0 0) % (L.many : Int) := j3
        rw [if_pos j1] at j2
        by_cases c : j + 1 < L.heldI.length
        · rw [if_pos c] at j3
          have := run_gap R2 j2 j3 (held_not G (getD_in c) rfl)
          have z := maxL_le (x := gpI L.heldI j) (l := gapsI L.heldI ++ [L.heldI.getD 0 0 + (L.many : Int) - lastI L.heldI]) (List.mem_append_left _ (gap_in c))
          unfold gpI at z
          omega
        · rw [if_neg c] at j3
          have ej : j = L.heldI.length - 1 := by omega
          rw [ej] at j2
          have := run_gap R2 j2 j3 (held_not G s0 (Int.add_emod_right _ _))
          have z := maxL_le (x := L.heldI.getD 0 0 + (L.many : Int) - lastI L.heldI) (l := gapsI L.heldI ++ [L.heldI.getD 0 0 + (L.many : Int) - lastI L.heldI]) (List.mem_append_right _ (List.mem_singleton.mpr rfl))
          unfold lastI at z ⊢
          omega
  | false =>
    rw [if_neg Bool.false_ne_true]
    have b0 := Int.emod_nonneg k hn
    have b1 := Int.emod_lt_of_pos k hpos
    have R2 := run_move (k' := k % (L.many : Int)) (Int.emod_emod_of_dvd _ (Int.dvd_refl _)).symm R
    have m0 : (0 : Int) ∈ L.heldI := heldI_mem.mpr (.inr ⟨hr, .inl rfl⟩)
    have m1 : (L.many : Int) - 1 ∈ L.heldI := heldI_mem.mpr (.inr ⟨hr, .inr rfl⟩)
    have n0 : ¬ k % (L.many : Int) = 0 := fun z => held_not G m0 (by rw [z]; rfl) rk
    have f := first_le hs m0
    have l := last_ge hs m1
    have n1 : ¬ k % (L.many : Int) = (L.many : Int) - 1 := fun z => held_not G m1 (by rw [z, Int.emod_eq_of_lt (by omega) (by omega)]) rk
    obtain ⟨j, j1, j2, j3⟩ := step_at (g := fun j => L.heldI.getD j 0) (x := k % (L.many : Int)) (m := L.heldI.length - 1) (by show L.heldI.getD 0 0 < _; omega) (by show ¬ lastI L.heldI < _; omega)
    have := run_gap R2 j2 j3 (held_not G (getD_in (by omega)) rfl)
    have z := maxL_le (x := gpI L.heldI j + 1) (l := (gapsI L.heldI).map (fun x => x + 1) ++ [1]) (List.mem_append_left _ (List.mem_map.mpr ⟨_, gap_in (by omega), rfl⟩))
    unfold gpI at z
    omega
theorem lgst_one {L : Ln} (G : Good1 L) : 1 ≤ L.lgst := by
  have h0 := G.one
  have hs := heldI_srt (L := L)
  unfold Ln.lgst
  cases hr : L.ring with
  | true =>
    have h3 := G.three hr
    rw [if_pos rfl]
    split
    · split <;> omega
    · split
      · split <;> omega
      · rename_i c0 c1
        have s0 := heldI_rng G (getD_in (S := L.heldI) (j := 0) (by omega))
        have s1 := heldI_rng G (getD_in (S := L.heldI) (j := L.heldI.length - 1) (by omega))
        have z := maxL_le (x := L.heldI.getD 0 0 + (L.many : Int) - lastI L.heldI) (l := gapsI L.heldI ++ [L.heldI.getD 0 0 + (L.many : Int) - lastI L.heldI]) (List.mem_append_right _ (List.mem_singleton.mpr rfl))
        unfold lastI at z ⊢
        omega
  | false =>
    rw [if_neg Bool.false_ne_true]
    exact maxL_le (List.mem_append_right _ (List.mem_singleton.mpr rfl))
theorem top_times {L : Ln} (G : Good1 L) (hS : ¬ L.Swing) : L.top ≤ (L.lgst - 1) / 2 := top_up G.one hS (lgst_one G) fun _ _ r1 R => lgst_up G r1 R
/-! ### alternating lines of a frame -/
def altC (n v d : Nat) : Int := if v = 1 ∧ d + 1 = n then 2 else ((d % 2 : Nat) : Int)
def Ln.alt (L : Ln) (b v : Nat) : Ln := ⟨(List.range L.many).map fun (k : Nat) => altC L.many v (((k : Int) - (b : Int)) % (L.many : Int)).toNat, L.held, L.ring⟩
theorem alt_many {L : Ln} {b v : Nat} : (L.alt b v).many = L.many := by
  show ((List.range L.many).map _).length = _
  rw [List.length_map, List.length_range]
theorem alt_heldI {L : Ln} {b v : Nat} : (L.alt b v).heldI = L.heldI := heldI_same alt_many rfl rfl
theorem alt_lgst {L : Ln} {b v : Nat} : (L.alt b v).lgst = L.lgst := lgst_same alt_many rfl rfl
theorem alt_good {L : Ln} (G : Good1 L) (b v : Nat) : Good1 (L.alt b v) := by
  refine ⟨by rw [alt_many]; exact G.one, fun e => by rw [alt_many]; exact G.three e, by rw [alt_many]; exact G.most, fun c hc => ?_, G.srt, fun k hk => by rw [alt_many]; exact G.hin k hk⟩
  obtain ⟨k, _, rfl⟩ := List.mem_map.mp hc
  unfold altC
  split <;> omega
theorem alt_at {L : Ln} (h0 : 1 ≤ L.many) {b v : Nat} (j : Int) : (L.alt b v).at j = altC L.many v ((j - (b : Int)) % (L.many : Int)).toNat := by
  have b0 := Int.emod_nonneg j (by omega : (L.many : Int) ≠ 0)
  have b1 := Int.emod_lt_of_pos j (by omega : (0 : Int) < L.many)
  have e : (L.alt b v).at j = (L.alt b v).at ((j % (L.many : Int)).toNat : Nat) := Ln.at_congr (by
    rw [alt_many, Int.toNat_of_nonneg b0]
    exact (Int.emod_emod_of_dvd _ (Int.dvd_refl _)).symm)
  have hj : (j % (L.many : Int)).toNat < (L.alt b v).cells.length := by
    have : (L.alt b v).cells.length = L.many := alt_many
    omega
  have e2 : (L.alt b v).cells[(j % (L.many : Int)).toNat]? = some (altC L.many v ((j - (b : Int)) % (L.many : Int)).toNat) := by
    show ((List.range L.many).map fun (k : Nat) => altC L.many v (((k : Int) - (b : Int)) % (L.many : Int)).toNat)[(j % (L.many : Int)).toNat]? = _
    rw [List.getElem?_map, List.getElem?_range (by omega), Option.map_some, Int.toNat_of_nonneg b0, Int.emod_sub_emod]
  rw [List.getElem?_eq_getElem hj] at e2
  injection e2 with e2
  rw [e, at_cells hj, e2]
theorem alt_dist {L : Ln} (h0 : 1 ≤ L.many) {b v : Nat} {d : Nat} (hd : d < L.many) : (L.alt b v).at ((b : Int) + (d : Nat)) = altC L.many v d := by
  rw [alt_at h0, show (b : Int) + (d : Nat) - (b : Int) = (d : Int) by omega, Int.emod_eq_of_lt (by omega) (by omega), Int.toNat_natCast]
theorem alt_rd {L : Ln} (h0 : 1 ≤ L.many) {b v : Nat} {i : Nat} (h1 : 1 ≤ i) (h2 : i + 1 < L.many) (hv : v = 1 → i + 2 < L.many) (hn : ¬ (((b : Int) + (i : Nat)) % (L.many : Int)) ∈ L.heldI) : (L.alt b v).rd ((b : Int) + (i : Nat)) := by
  have e1 := alt_dist h0 (L := L) (b := b) (v := v) (d := i - 1) (by omega)
  have e2 := alt_dist h0 (L := L) (b := b) (v := v) (d := i) (by omega)
  have e3 := alt_dist h0 (L := L) (b := b) (v := v) (d := i + 1) (by omega)
  rw [show (b : Int) + ((i - 1 : Nat) : Int) = (b : Int) + (i : Nat) - 1 by omega] at e1
  rw [show (b : Int) + ((i + 1 : Nat) : Int) = (b : Int) + (i : Nat) + 1 by omega] at e3
  refine ⟨by rw [alt_many, alt_heldI]; exact hn, ?_, ?_⟩
  · rw [e1, e3]
    unfold altC
    rw [if_neg (by omega), if_neg (by omega)]
    omega
  · rw [e3, e2]
    unfold altC
    rw [if_neg (by omega), if_neg (by omega)]
    omega
theorem noswing_held {L : Ln} (G : Good1 L) {x : Int} (h : x ∈ L.heldI) : ¬ L.Swing := fun z => held_not G h rfl (z x)
theorem top_nonneg {L : Ln} (h0 : 1 ≤ L.many) : 0 ≤ L.top := (top_bound h0).1
theorem alt_low {L : Ln} (G : Good1 L) : ∃ b v, b < (if L.ring then L.many else 1) ∧ v < 2 ∧ ¬ (L.alt b v).Swing ∧ (L.lgst - 1) / 2 ≤ (L.alt b v).top := by
  have h0 := G.one
  have hn : (L.many : Int) ≠ 0 := by omega
  have hpos : (0 : Int) < L.many := by omega
  have hs := heldI_srt (L := L)
  have low : ∀ {b v r : Nat}, ¬ (L.alt b v).Swing → (∀ i : Nat, i < r → (L.alt b v).rd ((b : Int) + ((1 + i : Nat) : Int))) → (((r + 1) / 2 : Nat) : Int) ≤ (L.alt b v).top := fun {b v r} nS h => by
    rcases top_low (L := L.alt b v) (by rw [alt_many]; exact h0) nS (k := (b : Int) + 1) (r := r) (fun i hi => by
      have := h i hi
      rw [show (b : Int) + ((1 + i : Nat) : Int) = (b : Int) + 1 + (i : Nat) by omega] at this
      exact this) with z | z
    · exact z
    · subst z
      exact top_nonneg (by rw [alt_many]; exact h0)
  have nsw : ∀ {b v : Nat} {x : Int}, x ∈ L.heldI → ¬ (L.alt b v).Swing := fun {b v x} h => noswing_held (alt_good G b v) (by rw [alt_heldI]; exact h)
  cases hr : L.ring with
  | true =>
    have h3 := G.three hr
    rw [if_pos rfl]
    by_cases c0 : L.heldI.length = 0
    · have e0 : L.heldI = [] := List.eq_nil_of_length_eq_zero c0
      have a1 := fun v => alt_dist h0 (L := L) (b := 0) (v := v) (d := 1) (by omega)
      have an := fun v => alt_dist h0 (L := L) (b := 0) (v := v) (d := L.many - 1) (by omega)
      by_cases o : L.many % 2 = 1
      · have nS : ¬ (L.alt 0 0).Swing := fun z => by
          obtain ⟨_, p, q⟩ := z 0
          have e : (L.alt 0 0).at (0 - 1) = (L.alt 0 0).at (((0 : Nat) : Int) + ((L.many - 1 : Nat) : Int)) := Ln.at_congr (by
            rw [alt_many, show ((0 : Nat) : Int) + ((L.many - 1 : Nat) : Int) = 0 - 1 + (L.many : Int) by omega, Int.add_emod_right])
          rw [e, an 0, show (0 : Int) + 1 = ((0 : Nat) : Int) + ((1 : Nat) : Int) by omega, a1 0] at p
          unfold altC at p
          rw [if_neg (by omega), if_neg (by omega)] at p
          omega
        refine ⟨0, 0, by omega, by omega, nS, ?_⟩
        have z := low (r := L.many - 2) nS fun i hi => alt_rd h0 (by omega) (by omega) (fun e => by omega) (by rw [e0]; simp)
        unfold Ln.lgst
        rw [hr, if_pos rfl, if_pos c0, if_pos o]
        omega
      · have nS : ¬ (L.alt 0 1).Swing := fun z => by
          obtain ⟨_, p, q⟩ := z 0
          have e : (L.alt 0 1).at (0 - 1) = (L.alt 0 1).at (((0 : Nat) : Int) + ((L.many - 1 : Nat) : Int)) := Ln.at_congr (by
            rw [alt_many, show ((0 : Nat) : Int) + ((L.many - 1 : Nat) : Int) = 0 - 1 + (L.many : Int) by omega, Int.add_emod_right])
          rw [e, an 1, show (0 : Int) + 1 = ((0 : Nat) : Int) + ((1 : Nat) : Int) by omega, a1 1] at p
          unfold altC at p
          rw [if_pos (by omega), if_neg (by omega)] at p
          omega
        refine ⟨0, 1, by omega, by omega, nS, ?_⟩
        have z := low (r := L.many - 3) nS fun i hi => alt_rd h0 (by omega) (by omega) (fun e => by omega) (by rw [e0]; simp)
        unfold Ln.lgst
        rw [hr, if_pos rfl, if_pos c0, if_neg o]
        omega
    · have s0 := getD_in (S := L.heldI) (j := 0) (by omega)
      obtain ⟨s1, s2⟩ := heldI_rng G s0
      by_cases c1 : L.heldI.length = 1
      · -- one held cell
        have only : ∀ x, x ∈ L.heldI → x = L.heldI.getD 0 0 := fun x hx => by
          obtain ⟨j, hj, e⟩ := getD_of hx
          have : j = 0 := by omega
          subst this
          exact e.symm
        have eb : ((L.heldI.getD 0 0).toNat : Int) = L.heldI.getD 0 0 := Int.toNat_of_nonneg s1
        have away : ∀ i : Nat, 1 ≤ i → i < L.many → ¬ ((((L.heldI.getD 0 0).toNat : Nat) : Int) + (i : Nat)) % (L.many : Int) ∈ L.heldI := fun i i1 i2 z => by
          have := only _ z
          rw [eb] at this
          have e2 : (L.heldI.getD 0 0 + (i : Nat)) % (L.many : Int) = L.heldI.getD 0 0 % (L.many : Int) := by
            rw [this, Int.emod_eq_of_lt s1 s2]
          have e3 := emod_sub_one e2 (L.heldI.getD 0 0)
          rw [show L.heldI.getD 0 0 + (i : Nat) - L.heldI.getD 0 0 = (i : Int) by omega, Int.sub_self, Int.emod_eq_of_lt (by omega) (by omega), Int.zero_emod] at e3
          omega
        refine ⟨(L.heldI.getD 0 0).toNat, 0, by omega, by omega, nsw s0, ?_⟩
        unfold Ln.lgst
        rw [hr, if_pos rfl, if_neg c0, if_pos c1]
        by_cases o : L.many % 2 = 1
        · rw [if_pos o]
          have z := low (b := (L.heldI.getD 0 0).toNat) (v := 0) (r := L.many - 2) (nsw s0) fun i hi => alt_rd h0 (by omega) (by omega) (fun e => by omega) (away _ (by omega) (by omega))
          omega
        · rw [if_neg o]
          have z := low (b := (L.heldI.getD 0 0).toNat) (v := 0) (r := L.many - 1) (nsw s0) fun i hi => by
            by_cases q : 1 + i + 1 < L.many
            · exact alt_rd h0 (by omega) q (fun e => by omega) (away _ (by omega) (by omega))
            · have q : 1 + i = L.many - 1 := by omega
              rw [q]
              have e1 := alt_dist h0 (L := L) (b := (L.heldI.getD 0 0).toNat) (v := 0) (d := L.many - 2) (by omega)
              have e2 := alt_dist h0 (L := L) (b := (L.heldI.getD 0 0).toNat) (v := 0) (d := L.many - 1) (by omega)
              have e3 := alt_dist h0 (L := L) (b := (L.heldI.getD 0 0).toNat) (v := 0) (d := 0) (by omega)
              have e4 : (L.alt (L.heldI.getD 0 0).toNat 0).at ((((L.heldI.getD 0 0).toNat : Nat) : Int) + ((L.many - 1 : Nat) : Int) + 1) = (L.alt (L.heldI.getD 0 0).toNat 0).at ((((L.heldI.getD 0 0).toNat : Nat) : Int) + ((0 : Nat) : Int)) := Ln.at_congr (by
                rw [alt_many, show (((L.heldI.getD 0 0).toNat : Nat) : Int) + ((L.many - 1 : Nat) : Int) + 1 = (((L.heldI.getD 0 0).toNat : Nat) : Int) + ((0 : Nat) : Int) + (L.many : Int) by omega, Int.add_emod_right])
              refine ⟨by rw [alt_many, alt_heldI]; exact away _ (by omega) (by omega), ?_, ?_⟩
              · rw [e4, e3, show (((L.heldI.getD 0 0).toNat : Nat) : Int) + ((L.many - 1 : Nat) : Int) - 1 = (((L.heldI.getD 0 0).toNat : Nat) : Int) + ((L.many - 2 : Nat) : Int) by omega, e1]
                unfold altC
                rw [if_neg (by omega), if_neg (by omega)]
                omega
              · rw [e4, e3, e2]
                unfold altC
                rw [if_neg (by omega), if_neg (by omega)]
                omega
          omega
      · -- two at least
        have l0 := getD_in (S := L.heldI) (j := L.heldI.length - 1) (by omega)
        obtain ⟨t1, t2⟩ := heldI_rng G l0
        have fl := getD_lt hs (i := 0) (j := L.heldI.length - 1) (by omega) (by omega)
        have hl : L.lgst = maxL (gapsI L.heldI ++ [L.heldI.getD 0 0 + (L.many : Int) - lastI L.heldI]) + 1 := by
          unfold Ln.lgst
          rw [hr, if_pos rfl, if_neg c0, if_neg c1]
        have m := maxL_mem (l := gapsI L.heldI ++ [L.heldI.getD 0 0 + (L.many : Int) - lastI L.heldI]) (by simp)
        rw [hl]
        generalize maxL (gapsI L.heldI ++ [L.heldI.getD 0 0 + (L.many : Int) - lastI L.heldI]) = mx at m
        rcases List.mem_append.mp m with m | m
        · obtain ⟨j, hj, e⟩ := List.mem_map.mp m
          have hj := List.mem_range.mp hj
          have a0 := getD_in (S := L.heldI) (j := j) (by omega)
          have a1 := getD_in (S := L.heldI) (j := j + 1) (by omega)
          obtain ⟨p1, p2⟩ := heldI_rng G a0
          obtain ⟨q1, q2⟩ := heldI_rng G a1
          have lt := getD_lt hs (i := j) (j := j + 1) (by omega) (by omega)
          unfold gpI at e
          refine ⟨(L.heldI.getD j 0).toNat, 0, by omega, by omega, nsw s0, ?_⟩
          have z := low (b := (L.heldI.getD j 0).toNat) (v := 0) (r := (mx - 1).toNat) (nsw s0) fun i hi => alt_rd h0 (by omega) (by omega) (fun e => by omega) (by
            rw [Int.emod_eq_of_lt (by omega) (by omega)]
            exact between hs (j := j) (by omega) (by omega) (by omega))
          omega
        · have e := List.mem_singleton.mp m
          unfold lastI at e
          refine ⟨(L.heldI.getD (L.heldI.length - 1) 0).toNat, 0, by omega, by omega, nsw s0, ?_⟩
          have z := low (b := (L.heldI.getD (L.heldI.length - 1) 0).toNat) (v := 0) (r := (mx - 1).toNat) (nsw s0) fun i hi => alt_rd h0 (by omega) (by omega) (fun e => by omega) (fun y => by
            by_cases q : (((L.heldI.getD (L.heldI.length - 1) 0).toNat : Nat) : Int) + ((1 + i : Nat) : Int) < (L.many : Int)
            · rw [Int.emod_eq_of_lt (by omega) q] at y
              have := last_ge hs y
              unfold lastI at this
              omega
            · have e5 : ((((L.heldI.getD (L.heldI.length - 1) 0).toNat : Nat) : Int) + ((1 + i : Nat) : Int)) % (L.many : Int) = (((L.heldI.getD (L.heldI.length - 1) 0).toNat : Nat) : Int) + ((1 + i : Nat) : Int) - (L.many : Int) := by
                rw [← Int.sub_emod_right, Int.emod_eq_of_lt (by omega) (by omega)]
              rw [e5] at y
              have := first_le hs y
              omega)
          omega
  | false =>
    rw [if_neg Bool.false_ne_true]
    have m0 : (0 : Int) ∈ L.heldI := heldI_mem.mpr (.inr ⟨hr, .inl rfl⟩)
    refine ⟨0, 0, by omega, by omega, nsw m0, ?_⟩
    have hl : L.lgst = maxL ((gapsI L.heldI).map (fun x => x + 1) ++ [1]) := by
      unfold Ln.lgst
      rw [hr, if_neg Bool.false_ne_true]
    have m := maxL_mem (l := (gapsI L.heldI).map (fun x => x + 1) ++ [1]) (by simp)
    rw [hl]
    generalize maxL ((gapsI L.heldI).map (fun x => x + 1) ++ [1]) = mx at m
    rcases List.mem_append.mp m with m | m
    · obtain ⟨y, hy, e⟩ := List.mem_map.mp m
      obtain ⟨j, hj, e2⟩ := List.mem_map.mp hy
      have hj := List.mem_range.mp hj
      have a0 := getD_in (S := L.heldI) (j := j) (by omega)
      have a1 := getD_in (S := L.heldI) (j := j + 1) (by omega)
      obtain ⟨p1, p2⟩ := heldI_rng G a0
      obtain ⟨q1, q2⟩ := heldI_rng G a1
      have lt := getD_lt hs (i := j) (j := j + 1) (by omega) (by omega)
      unfold gpI at e2
      rcases top_low (L := L.alt 0 0) (by rw [alt_many]; exact h0) (nsw m0) (k := L.heldI.getD j 0 + 1) (r := (y - 1).toNat) (fun i hi => by
        have := alt_rd h0 (L := L) (b := 0) (v := 0) (i := (L.heldI.getD j 0 + 1 + (i : Nat)).toNat) (by omega) (by omega) (fun e => by omega) (by
          rw [show ((0 : Nat) : Int) + (((L.heldI.getD j 0 + 1 + (i : Nat)).toNat : Nat) : Int) = L.heldI.getD j 0 + 1 + (i : Nat) by omega, Int.emod_eq_of_lt (by omega) (by omega)]
          exact between hs (j := j) (by omega) (by omega) (by omega))
        rw [show ((0 : Nat) : Int) + (((L.heldI.getD j 0 + 1 + (i : Nat)).toNat : Nat) : Int) = L.heldI.getD j 0 + 1 + (i : Nat) by omega] at this
        exact this) with z | z
      · omega
      · have := top_nonneg (L := L.alt 0 0) (by rw [alt_many]; exact h0)
        omega
    · have e := List.mem_singleton.mp m
      have := top_nonneg (L := L.alt 0 0) (by rw [alt_many]; exact h0)
      omega
end Pyx

/-! Pyx: worths of rows (no program in sight). -/
namespace Pyx
theorem xor_step (a b : Nat) : a ^^^ b = (if a % 2 = b % 2 then 0 else 1) + 2 * ((a / 2) ^^^ (b / 2)) := by
  rw [← Nat.xor_div_two]
  have m := Nat.xor_mod_two_eq_one (a := a) (b := b)
  have d := Nat.div_add_mod (a ^^^ b) 2
  have r := Nat.mod_lt (a ^^^ b) (by decide : 0 < 2)
  have ra := Nat.mod_lt a (by decide : 0 < 2)
  have rb := Nat.mod_lt b (by decide : 0 < 2)
  split
  · rename_i e
    have : ¬ (a ^^^ b) % 2 = 1 := fun z => (m.mp z) (by rw [e])
    omega
  · rename_i e
    have : (a ^^^ b) % 2 = 1 := m.mpr (fun z => by omega)
    omega
theorem apart_step (a b t : Nat) : (a ^^^ b) % 2 ^ (t + 1) = (a ^^^ b) % 2 ^ t + 2 ^ t * ((a / 2 ^ t + b / 2 ^ t) % 2) := by
  rw [Nat.mod_pow_succ, Nat.xor_div_two_pow]
  refine congrArg (fun x => (a ^^^ b) % 2 ^ t + 2 ^ t * x) ?_
  have m := Nat.xor_mod_two_eq_one (a := a / 2 ^ t) (b := b / 2 ^ t)
  generalize a / 2 ^ t = x at m ⊢
  generalize b / 2 ^ t = y at m ⊢
  have r := Nat.mod_lt (x ^^^ y) (by decide : 0 < 2)
  by_cases e : (x ^^^ y) % 2 = 1
  · have := m.mp e
    omega
  · have : (x % 2 = 1 ↔ y % 2 = 1) := Decidable.byContradiction fun z => e (m.mpr z)
    omega
theorem xor_small {a b : Nat} (ha : a < 64) (hb : b < 64) : a ^^^ b < 64 := Nat.xor_lt_two_pow (n := 6) ha hb
/-! ### the least number that is missing -/
structure IsMex (l : List Nat) (m : Nat) : Prop where
  out : m ∉ l
  low : ∀ x, x < m → x ∈ l
theorem IsMex.one {l : List Nat} {m n : Nat} (a : IsMex l m) (b : IsMex l n) : m = n := by
  have h1 : ¬ m < n := fun z => a.out (b.low _ z)
  have h2 : ¬ n < m := fun z => b.out (a.low _ z)
  omega
theorem IsMex.le {l : List Nat} {m : Nat} (a : IsMex l m) : m ≤ l.length := by
  have nd : (List.range m).Nodup := List.nodup_range
  have sub : ∀ x ∈ List.range m, x ∈ l := fun x hx => a.low x (List.mem_range.mp hx)
  have key : ∀ (s t : List Nat), s.Nodup → (∀ x ∈ s, x ∈ t) → s.length ≤ t.length := by
    intro s
    induction s with
    | nil => intro t _ _; exact Nat.zero_le _
    | cons x s ih =>
      intro t hn hs
      obtain ⟨h1, h2⟩ := List.nodup_cons.mp hn
      have hx := hs x List.mem_cons_self
      have := ih (t.erase x) h2 fun y hy => (List.mem_erase_of_ne (fun e => h1 (by rw [← e]; exact hy))).mpr (hs y (List.mem_cons_of_mem _ hy))
      rw [List.length_erase_of_mem hx] at this
      have : 0 < t.length := List.length_pos_of_mem hx
      rw [List.length_cons]
      omega
  have := key _ l nd sub
  rw [List.length_range] at this
  exact this
def mexF (l : List Nat) : Nat → Nat → Nat
  | 0, k => k
  | n + 1, k => if k ∈ l then mexF l n (k + 1) else k
theorem mexF_is {l : List Nat} : ∀ (n k : Nat), l.length < n + k → (∀ x, x < k → x ∈ l) → IsMex l (mexF l n k)
  | 0, k, h, low => by
    refine ⟨fun z => ?_, low⟩
    have : IsMex l (k) ∨ True := .inr trivial
    have e : ¬ l.length < k := fun y => by
      have nd : (List.range k).Nodup := List.nodup_range
      have z : IsMex (l.filter fun x => decide (x < k)) k := ⟨fun q => by have := of_decide_eq_true (List.mem_filter.mp q).2; omega, fun x hx => List.mem_filter.mpr ⟨low x hx, decide_eq_true hx⟩⟩
      have := z.le
      have := List.length_filter_le (fun x => decide (x < k)) l
      omega
    omega
  | n + 1, k, h, low => by
    unfold mexF
    by_cases z : k ∈ l
    · rw [if_pos z]
      exact mexF_is n (k + 1) (by omega) fun x hx => by
        by_cases q : x = k
        · rw [q]
          exact z
        · exact low x (by omega)
    · rw [if_neg z]
      exact ⟨z, low⟩
def mexN (l : List Nat) : Nat := mexF l (l.length + 1) 0
theorem mexN_is (l : List Nat) : IsMex l (mexN l) := mexF_is _ _ (by omega) fun x hx => absurd hx (Nat.not_lt_zero _)
/-! ### worths of paths -/
def optsN (l : List Nat) (size : Nat) : List Nat := (List.range size).map fun k => l.getD (k - 1) 0 ^^^ l.getD (size - k - 2) 0
def wsN : Nat → List Nat
  | 0 => [0]
  | n + 1 => wsN n ++ [mexN (optsN (wsN n) (n + 1))]
theorem ws_len : ∀ n, (wsN n).length = n + 1
  | 0 => rfl
  | n + 1 => by
    show (wsN n ++ [_]).length = _
    rw [List.length_append, ws_len n]
    rfl
def Wn (k : Nat) : Nat := (wsN k).getD k 0
theorem ws_get : ∀ {n k : Nat}, k ≤ n → (wsN n).getD k 0 = Wn k
  | n, k, h => by
    by_cases e : k = n
    · subst e
      rfl
    · match n, h, e with
      | 0, h, e => omega
      | n + 1, h, e =>
        have ih := ws_get (n := n) (k := k) (by omega)
        rw [← ih]
        show (wsN n ++ [_]).getD k 0 = _
        rw [List.getD_eq_getElem?_getD, List.getD_eq_getElem?_getD, List.getElem?_append_left (by rw [ws_len]; omega)]
theorem ws_small (n : Nat) : ∀ x ∈ wsN n, x ≤ n := by
  induction n with
  | zero =>
    intro x hx
    rw [List.mem_singleton.mp hx]
    exact Nat.le_refl _
  | succ n ih =>
    intro x hx
    rcases List.mem_append.mp hx with z | z
    · have := ih x z
      omega
    · rw [List.mem_singleton.mp z]
      have := (mexN_is (optsN (wsN n) (n + 1))).le
      rw [optsN, List.length_map, List.length_range] at this
      exact this
theorem W_le (k : Nat) : Wn k ≤ k := by
  have h : k < (wsN k).length := by rw [ws_len]; omega
  refine ws_small k _ ?_
  unfold Wn
  rw [List.getD_eq_getElem?_getD, List.getElem?_eq_getElem h]
  exact List.getElem_mem h
theorem W_zero : Wn 0 = 0 := rfl
def worthN (ps : List Nat) : Nat := ps.foldl (fun a m => a ^^^ Wn m) 0
theorem fold_small : ∀ {ps : List Nat} {a : Nat}, a < 64 → (∀ m ∈ ps, m ≤ 40) → ps.foldl (fun a m => a ^^^ Wn m) a < 64
  | [], a, h, _ => h
  | m :: ps, a, h, hm => by
    rw [List.foldl_cons]
    refine fold_small (ps := ps) (a := a ^^^ Wn m) (xor_small h ?_) fun x hx => hm x (List.mem_cons_of_mem _ hx)
    have := W_le m
    have := hm m List.mem_cons_self
    omega
theorem fold_skip : ∀ {ps : List Nat} {a : Nat}, (ps.filter fun m => decide (m ≠ 0)).foldl (fun a m => a ^^^ Wn m) a = ps.foldl (fun a m => a ^^^ Wn m) a
  | [], _ => rfl
  | m :: ps, a => by
    rw [List.filter_cons, List.foldl_cons]
    by_cases e : m = 0
    · subst e
      rw [if_neg (by simp), W_zero, Nat.xor_zero]
      exact fold_skip
    · rw [if_pos (by simpa using e), List.foldl_cons]
      exact fold_skip
/-! ### runs of a row, in order -/
def Ln.rls (L : Ln) : List Nat := L.sts.map fun (k : Nat) => L.rl L.many (k : Int)
theorem row_strs {L : Ln} (hr : L.ring = false) : sortT L.strs = L.strs := by
  refine srtT_same (sortT_perm _) (sortT_srt _) ?_
  rw [strs_sts]
  refine List.pairwise_map.mpr ?_
  have s : L.sts.Pairwise (· < ·) := by
    unfold Ln.sts Ln.readyN
    exact (List.pairwise_lt_range.filter _).filter _
  refine s.imp_of_mem fun {a b} ha hb h => ?_
  obtain ⟨a1, a2, _⟩ := sts_mem.mp ha
  obtain ⟨b1, b2, _⟩ := sts_mem.mp hb
  have ra := row_rd hr a1 a2
  have rb := row_rd hr b1 b2
  have ea : ∃ t, L.strI (a : Int) = ((a : Int) - 1) :: t := by
    unfold Ln.strI
    rw [List.range_succ_eq_map, List.map_cons]
    refine ⟨_, congrArg (· :: _) ?_⟩
    rw [show (a : Int) - 1 + ((0 : Nat) : Int) = (a : Int) - 1 by omega]
    exact Int.emod_eq_of_lt (by omega) (by omega)
  have eb : ∃ t, L.strI (b : Int) = ((b : Int) - 1) :: t := by
    unfold Ln.strI
    rw [List.range_succ_eq_map, List.map_cons]
    refine ⟨_, congrArg (· :: _) ?_⟩
    rw [show (b : Int) - 1 + ((0 : Nat) : Int) = (b : Int) - 1 by omega]
    exact Int.emod_eq_of_lt (by omega) (by omega)
  obtain ⟨t, ea⟩ := ea
  obtain ⟨u, eb⟩ := eb
  show HT.lexLt (L.strI (b : Int)) (L.strI (a : Int)) = false
  rw [ea, eb]
  show (if (b : Int) - 1 = (a : Int) - 1 then _ else decide ((b : Int) - 1 < (a : Int) - 1)) = false
  rw [if_neg (by omega)]
  exact decide_eq_false (by omega)
/-- a row whose inner cells that are not held are all ready: its runs are the gaps -/
theorem rls_gaps {L : Ln} (G : Good1 L) (hr : L.ring = false) (h : ∀ k : Nat, k < L.many → (L.rd (k : Int) ↔ ¬ (k : Int) ∈ L.heldI)) : L.rls = ((gapsI L.heldI).map fun g => (g - 1).toNat).filter fun m => decide (m ≠ 0) := by
  have h0 := G.one
  have hs := heldI_srt (L := L)
  have m0 : (0 : Int) ∈ L.heldI := heldI_mem.mpr (.inr ⟨hr, .inl rfl⟩)
  have m1 : (L.many : Int) - 1 ∈ L.heldI := heldI_mem.mpr (.inr ⟨hr, .inr rfl⟩)
  -- the starts
  have es : (L.sts.map fun (k : Nat) => (k : Int)) = ((List.range (L.heldI.length - 1)).filter fun j => decide ((gpI L.heldI j - 1).toNat ≠ 0)).map fun j => L.heldI.getD j 0 + 1 := by
    have s1 : (L.sts.map fun (k : Nat) => (k : Int)).Pairwise (· < ·) := by
      refine List.pairwise_map.mpr ?_
      unfold Ln.sts Ln.readyN
      exact ((List.pairwise_lt_range.filter _).filter _).imp fun h => by omega
    have s2 : (((List.range (L.heldI.length - 1)).filter fun j => decide ((gpI L.heldI j - 1).toNat ≠ 0)).map fun j => L.heldI.getD j 0 + 1).Pairwise (· < ·) := by
      refine List.pairwise_map.mpr ((List.pairwise_lt_range.filter _).imp_of_mem fun {a b} ha hb h => ?_)
      have hb := List.mem_range.mp (List.mem_filter.mp hb).1
      have := getD_lt hs h (by omega)
      omega
    refine PySem.W.ksm_same ((List.perm_ext_iff_of_nodup (s1.imp fun h => by omega) (s2.imp fun h => by omega)).mpr fun x => ?_) (s1.imp fun h => by omega) (s2.imp fun h => by omega)
    rw [List.mem_map, List.mem_map]
    refine ⟨fun ⟨k, hk, e⟩ => ?_, fun ⟨j, hj, e⟩ => ?_⟩
    · obtain ⟨k1, k2, k3⟩ := sts_mem.mp hk
      have kr := row_rd hr k1 k2
      have hh : ((k - 1 : Nat) : Int) ∈ L.heldI := Decidable.byContradiction fun z => k3 (by
        have := (h (k - 1) (by omega)).mpr z
        rw [show ((k - 1 : Nat) : Int) = (k : Int) - 1 by omega] at this
        exact this)
      obtain ⟨j, hj, ej⟩ := getD_of hh
      have jl : j + 1 < L.heldI.length := Decidable.byContradiction fun z => by
        have := last_ge hs m1
        unfold lastI at this
        rw [show L.heldI.length - 1 = j by omega, ej] at this
        omega
      refine ⟨j, List.mem_filter.mpr ⟨List.mem_range.mpr (by omega), decide_eq_true fun z => ?_⟩, by omega⟩
      have lt := getD_lt hs (by omega : j < j + 1) jl
      unfold gpI at z
      refine (h k k1).mp k2 ?_
      rw [show (k : Int) = L.heldI.getD (j + 1) 0 by omega]
      exact getD_in jl
    · obtain ⟨j1, j2⟩ := List.mem_filter.mp hj
      have j1 := List.mem_range.mp j1
      have j2 := of_decide_eq_true j2
      have lt := getD_lt hs (by omega : j < j + 1) (by omega)
      have a1 := getD_in (S := L.heldI) (j := j) (by omega)
      have b1 := getD_in (S := L.heldI) (j := j + 1) (by omega)
      obtain ⟨a2, a3⟩ := heldI_rng G a1
      obtain ⟨b2, b3⟩ := heldI_rng G b1
      unfold gpI at j2
      refine ⟨(L.heldI.getD j 0 + 1).toNat, sts_mem.mpr ⟨by omega, ?_, ?_⟩, by omega⟩
      · refine (h _ (by omega)).mpr ?_
        rw [Int.toNat_of_nonneg (by omega)]
        exact between hs (j := j) (by omega) (by omega) (by omega)
      · rw [Int.toNat_of_nonneg (by omega), show L.heldI.getD j 0 + 1 - 1 = L.heldI.getD j 0 by omega]
        exact held_not G a1 rfl
  -- their lengths
  have e1 : L.rls = (L.sts.map fun (k : Nat) => (k : Int)).map fun x => L.rl L.many x := by
    unfold Ln.rls
    rw [List.map_map]
    rfl
  rw [e1, es, List.map_map]
  unfold gapsI
  rw [List.map_map, List.filter_map]
  refine List.map_congr_left fun j hj => ?_
  obtain ⟨j1, j2⟩ := List.mem_filter.mp hj
  have j1 := List.mem_range.mp j1
  have j2 := of_decide_eq_true j2
  have lt := getD_lt hs (by omega : j < j + 1) (by omega)
  have a1 := getD_in (S := L.heldI) (j := j) (by omega)
  have b1 := getD_in (S := L.heldI) (j := j + 1) (by omega)
  obtain ⟨a2, a3⟩ := heldI_rng G a1
  obtain ⟨b2, b3⟩ := heldI_rng G b1
  show L.rl L.many (L.heldI.getD j 0 + 1) = (gpI L.heldI j - 1).toNat
  unfold gpI at j2 ⊢
  have R : L.Run (L.heldI.getD j 0 + 1) (L.heldI.getD (j + 1) 0 - L.heldI.getD j 0 - 1).toNat := by
    refine ⟨?_, fun i hi => ?_, ?_⟩
    · rw [show L.heldI.getD j 0 + 1 - 1 = L.heldI.getD j 0 by omega]
      exact held_not G a1 rfl
    · have := (h (L.heldI.getD j 0 + 1 + (i : Nat)).toNat (by omega)).mpr (by
        rw [Int.toNat_of_nonneg (by omega)]
        exact between hs (j := j) (by omega) (by omega) (by omega))
      rw [Int.toNat_of_nonneg (by omega)] at this
      exact this
    · rw [show L.heldI.getD j 0 + 1 + (((L.heldI.getD (j + 1) 0 - L.heldI.getD j 0 - 1).toNat : Nat) : Int) = L.heldI.getD (j + 1) 0 by omega]
      exact held_not G b1 rfl
  exact run_one (Ln.run_at h0 R.pre) R
end Pyx

/-! Pyx: alternating rows, one of their cells turned; a comprehension whose items stand on the heap. -/
namespace Pyx
def rowL (n : Nat) (held : List Int) : Ln := ⟨(List.range n).map fun (k : Nat) => ((k % 2 : Nat) : Int), held, false⟩
def rowT (n : Nat) (held : List Int) (k : Nat) : Ln := ⟨(List.range n).map fun (j : Nat) => if j = k then (((k - 1) % 2 : Nat) : Int) else ((j % 2 : Nat) : Int), held, false⟩
section
variable {n : Nat} {held : List Int}
theorem rowL_many : (rowL n held).many = n := by
  show ((List.range n).map _).length = n
  rw [List.length_map, List.length_range]
theorem rowT_many {k : Nat} : (rowT n held k).many = n := by
  show ((List.range n).map _).length = n
  rw [List.length_map, List.length_range]
theorem rowL_good (h1 : 1 ≤ n) (h40 : n ≤ 40) (hs : held.Pairwise (· < ·)) (hi : ∀ k ∈ held, 0 ≤ k ∧ k < (n : Int)) : Good1 (rowL n held) := by
  refine ⟨by rw [rowL_many]; exact h1, fun e => (nomatch (e : false = true)), by rw [rowL_many]; exact h40, fun c hc => ?_, hs, fun k hk => by rw [rowL_many]; exact hi k hk⟩
  obtain ⟨k, _, rfl⟩ := List.mem_map.mp hc
  omega
theorem rowT_good {k : Nat} (h1 : 1 ≤ n) (h40 : n ≤ 40) (hs : held.Pairwise (· < ·)) (hi : ∀ k ∈ held, 0 ≤ k ∧ k < (n : Int)) : Good1 (rowT n held k) := by
  refine ⟨by rw [rowT_many]; exact h1, fun e => (nomatch (e : false = true)), by rw [rowT_many]; exact h40, fun c hc => ?_, hs, fun k hk => by rw [rowT_many]; exact hi k hk⟩
  obtain ⟨j, _, rfl⟩ := List.mem_map.mp hc
  split <;> omega
theorem rowL_at {j : Nat} (hj : j < n) : (rowL n held).at (j : Int) = ((j % 2 : Nat) : Int) := by
  have h : j < (rowL n held).cells.length := by
    have : (rowL n held).cells.length = n := rowL_many
    omega
  have e : (rowL n held).cells[j]? = some ((j % 2 : Nat) : Int) := by
    show ((List.range n).map fun (k : Nat) => ((k % 2 : Nat) : Int))[j]? = _
    rw [List.getElem?_map, List.getElem?_range hj]
    rfl
  rw [List.getElem?_eq_getElem h] at e
  injection e with e
  rw [at_cells h, e]
theorem rowT_at {k j : Nat} (hj : j < n) : (rowT n held k).at (j : Int) = if j = k then (((k - 1) % 2 : Nat) : Int) else ((j % 2 : Nat) : Int) := by
  have h : j < (rowT n held k).cells.length := by
    have : (rowT n held k).cells.length = n := rowT_many
    omega
  have e : (rowT n held k).cells[j]? = some (if j = k then (((k - 1) % 2 : Nat) : Int) else ((j % 2 : Nat) : Int)) := by
    show ((List.range n).map fun (j : Nat) => if j = k then (((k - 1) % 2 : Nat) : Int) else ((j % 2 : Nat) : Int))[j]? = _
    rw [List.getElem?_map, List.getElem?_range hj]
    rfl
  rw [List.getElem?_eq_getElem h] at e
  injection e with e
  rw [at_cells h, e]
theorem row_held {L : Ln} (hr : L.ring = false) {j : Nat} (hj : j < L.many) (h : ¬ (j : Int) ∈ L.heldI) : 1 ≤ j ∧ j + 1 < L.many := by
  rw [heldI_mem] at h
  have n1 : ¬ (j : Int) = 0 := fun z => h (.inr ⟨hr, .inl z⟩)
  have n2 : ¬ (j : Int) = (L.many : Int) - 1 := fun z => h (.inr ⟨hr, .inr z⟩)
  omega
theorem rowL_rd {j : Nat} (hj : j < n) : (rowL n held).rd (j : Int) ↔ ¬ (j : Int) ∈ (rowL n held).heldI := by
  have ej : (j : Int) % ((rowL n held).many : Int) = (j : Int) := by
    rw [rowL_many]
    exact Int.emod_eq_of_lt (by omega) (by omega)
  refine ⟨fun z => by have := z.1; rw [ej] at this; exact this, fun z => ?_⟩
  have r := row_held (L := rowL n held) rfl (by rw [rowL_many]; exact hj) z
  rw [rowL_many] at r
  have a1 := rowL_at (n := n) (held := held) (j := j - 1) (by omega)
  have a2 := rowL_at (n := n) (held := held) (j := j) hj
  have a3 := rowL_at (n := n) (held := held) (j := j + 1) (by omega)
  rw [show ((j - 1 : Nat) : Int) = (j : Int) - 1 by omega] at a1
  rw [show ((j + 1 : Nat) : Int) = (j : Int) + 1 by omega] at a3
  refine ⟨by rw [ej]; exact z, ?_, ?_⟩
  · rw [a1, a3]
    omega
  · rw [a3, a2]
    omega
theorem rowT_heldI {k : Nat} : (rowT n held k).heldI = (rowL n held).heldI := heldI_same (rowT_many.trans rowL_many.symm) rfl rfl
/-- behind the turn of a cell: it and its neighbours are ready no more -/
theorem rowT_rd {k j : Nat} (hk : 1 ≤ k) (hk2 : k + 1 < n) (hj : j < n) : (rowT n held k).rd (j : Int) ↔ (rowL n held).rd (j : Int) ∧ ¬ j = k ∧ ¬ j + 1 = k ∧ ¬ j = k + 1 := by
  have ej : (j : Int) % ((rowT n held k).many : Int) = (j : Int) := by
    rw [rowT_many]
    exact Int.emod_eq_of_lt (by omega) (by omega)
  by_cases hh : (j : Int) ∈ (rowL n held).heldI
  · refine ⟨fun z => absurd (by rw [ej, rowT_heldI]; exact hh) z.1, fun z => absurd hh ((rowL_rd hj).mp z.1)⟩
  · have r := row_held (L := rowL n held) rfl (by rw [rowL_many]; exact hj) hh
    rw [rowL_many] at r
    have a1 := rowT_at (n := n) (held := held) (k := k) (j := j - 1) (by omega)
    have a2 := rowT_at (n := n) (held := held) (k := k) (j := j) hj
    have a3 := rowT_at (n := n) (held := held) (k := k) (j := j + 1) (by omega)
    rw [show ((j - 1 : Nat) : Int) = (j : Int) - 1 by omega] at a1
    rw [show ((j + 1 : Nat) : Int) = (j : Int) + 1 by omega] at a3
    refine ⟨fun ⟨_, p, q⟩ => ⟨(rowL_rd hj).mpr hh, fun e => ?_, fun e => ?_, fun e => ?_⟩, fun ⟨_, e1, e2, e3⟩ => ⟨by rw [ej, rowT_heldI]; exact hh, ?_, ?_⟩⟩
    · rw [a3, a2, if_neg (by omega), if_pos e] at q
      omega
    · rw [a1, a3, if_neg (by omega), if_pos e] at p
      omega
    · rw [a1, a3, if_pos (by omega), if_neg (by omega)] at p
      omega
    · rw [a1, a3, if_neg (by omega), if_neg (by omega)]
      omega
    · rw [a3, a2, if_neg (by omega), if_neg e1]
      omega
theorem rowT_ready {k : Nat} (hk : 1 ≤ k) (hk2 : k + 1 < n) : (rowT n held k).readyN = (rowL n held).readyN.filter fun j => decide (¬ j = k ∧ ¬ j + 1 = k ∧ ¬ j = k + 1) := by
  unfold Ln.readyN
  rw [rowT_many, rowL_many, List.filter_filter]
  refine List.filter_congr fun j hj => ?_
  have hj := List.mem_range.mp hj
  rw [Bool.eq_iff_iff, Ln.rdy_rd (by rw [rowT_many]; exact hj), Bool.and_eq_true, decide_eq_true_iff, Ln.rdy_rd (by rw [rowL_many]; exact hj), rowT_rd hk hk2 hj]
  exact and_comm
end
/-! ### an even ring, alternating -/
def ringL (n : Nat) : Ln := ⟨(List.range n).map fun (k : Nat) => ((k % 2 : Nat) : Int), [], true⟩
theorem ringL_many {n : Nat} : (ringL n).many = n := by
  show ((List.range n).map _).length = n
  rw [List.length_map, List.length_range]
theorem ringL_good {n : Nat} (h3 : 3 ≤ n) (h40 : n ≤ 40) : Good1 (ringL n) := by
  refine ⟨by rw [ringL_many]; omega, fun _ => by rw [ringL_many]; exact h3, by rw [ringL_many]; exact h40, fun c hc => ?_, List.Pairwise.nil, fun k hk => nomatch hk⟩
  obtain ⟨k, _, rfl⟩ := List.mem_map.mp hc
  omega
theorem ringL_at {n : Nat} (h0 : 1 ≤ n) (e : n % 2 = 0) (x : Int) : (ringL n).at x = x % 2 := by
  have b0 := Int.emod_nonneg x (by omega : (n : Int) ≠ 0)
  have b1 := Int.emod_lt_of_pos x (by omega : (0 : Int) < n)
  have h : (x % (n : Int)).toNat < (ringL n).cells.length := by
    have : (ringL n).cells.length = n := ringL_many
    omega
  have e1 : (ringL n).at x = (ringL n).at ((x % (n : Int)).toNat : Nat) := Ln.at_congr (by
    rw [ringL_many, Int.toNat_of_nonneg b0]
    exact (Int.emod_emod_of_dvd _ (Int.dvd_refl _)).symm)
  have e2 : (ringL n).cells[(x % (n : Int)).toNat]? = some (((x % (n : Int)).toNat % 2 : Nat) : Int) := by
    show ((List.range n).map fun (k : Nat) => ((k % 2 : Nat) : Int))[(x % (n : Int)).toNat]? = _
    rw [List.getElem?_map, List.getElem?_range (by omega)]
    rfl
  rw [List.getElem?_eq_getElem h] at e2
  injection e2 with e2
  rw [e1, at_cells h, e2]
  have d := Int.emod_add_mul_ediv x (n : Int)
  obtain ⟨m, hm⟩ : ∃ m : Nat, n = 2 * m := ⟨n / 2, by omega⟩
  have : (n : Int) * (x / (n : Int)) = 2 * ((m : Int) * (x / (n : Int))) := by
    have hm' : (n : Int) = 2 * (m : Int) := by omega
    rw [hm', Int.mul_assoc]
  omega
theorem ringL_swing {n : Nat} (h3 : 3 ≤ n) (e : n % 2 = 0) : (ringL n).Swing := fun k => by
  refine ⟨?_, ?_, ?_⟩
  · rw [heldI_mem]
    rintro (z | ⟨z, _⟩)
    · exact nomatch z
    · cases z
  · rw [ringL_at (by omega) e, ringL_at (by omega) e]
    omega
  · rw [ringL_at (by omega) e, ringL_at (by omega) e]
    omega
open PySem L2
/-- a comprehension, by what it has gathered and what stands on the heap -/
theorem ok_lcH {rec : CE → PSt → PH → R PV} {iv : IV} {tg : CT} {ifs : Option CB} {elt : CE} {st : PSt} {Q : Unit → PH → Prop} (items : List PV) (h0 : PH) (w0 : Wf h0)
    (hiv : ∀ k h', Le none h0 h' → ivN iv k h' = pick items[k]?) (top : items.length ≤ 90000) (I : Nat → List PV → PH → Prop) (I0 : I 0 [] (h0.push (.lst [])))
    (hset : ∀ k acc h1 o u, I k acc h1 → Wf h1 → h1.get h0.n = some o → I k acc (h1.set h0.n u))
    (body : ∀ k v acc h1, items[k]? = some v → I k acc h1 → h0.n < h1.n → Le none h0 h1 → ∃ st1, asgT tg v st = some st1 ∧ Ok (evIf rec ifs st1 h1) fun b h2 => Le none h1 h2 ∧ (b = false → I (k + 1) acc h2) ∧ (b = true → Ok (rec elt st1 h2) fun w h3 => Le none h2 h3 ∧ I (k + 1) (acc ++ [w]) h3))
    (q : ∀ acc h', I items.length acc h' → acc.length ≤ items.length → Le none h0 h' → h'.get h0.n = some (.lst acc) → Q () h') {m : Nat} (hm : items.length < m) :
    Ok (lcL rec iv tg ifs elt st h0.n m 0 (h0.push (.lst []))) Q := by
  have ne : (none : Option Nat) ≠ some h0.n := by intro z; cases z
  refine ok_lcL (fun k h' => ∃ acc, I k acc h' ∧ k ≤ items.length ∧ acc.length ≤ k ∧ Le none h0 h' ∧ h'.get h0.n = some (.lst acc)) items.length (fun k h' ⟨acc, i1, i2, i3, i4, i5⟩ => ⟨i2, ?_⟩) m 0 _ hm ⟨[], I0, Nat.zero_le _, Nat.le_refl _, Le.push w0, get_new⟩
  have e := hiv k h' i4
  cases g : items[k]? with
  | none =>
    rw [g] at e
    have hk : items.length ≤ k := List.getElem?_eq_none_iff.mp g
    have hk : k = items.length := by omega
    subst hk
    exact .inl ⟨e, q acc h' i1 i3 i4 i5⟩
  | some v =>
    rw [g] at e
    have hk : k < items.length := (List.getElem?_eq_some_iff.mp g).1
    obtain ⟨st1, e1, b⟩ := body k v acc h' g i1 (get_lt i5) i4
    refine .inr ⟨v, st1, e, e1, b.mono fun b h2 ⟨l2, b1, b2⟩ => ⟨fun z => ⟨acc, b1 z, hk, by omega, i4.trans l2, l2.get _ _ ne i5⟩, fun z => (b2 z).mono fun w h3 ⟨l3, i6⟩ => ?_⟩⟩
    have g3 := l3.get _ _ ne (l2.get _ _ ne i5)
    have l4 := (i4.trans l2).trans l3
    refine ⟨acc, g3, by omega, acc ++ [w], hset _ _ _ _ _ i6 l4.wf g3, hk, by rw [List.length_append, List.length_singleton]; omega, Le.set l4 (Nat.le_refl _) g3, get_at_set l4.wf g3⟩
end Pyx

/-! Pyx: cells held more (no program in sight). -/
namespace Pyx
/-- a line with some cells more held -/
def Ln.wh (L : Ln) (cs : List Int) : Ln := ⟨L.cells, sortI (dedI (L.held ++ cs)), L.ring⟩
section
variable {L : Ln} {cs : List Int}
theorem wh_many : (L.wh cs).many = L.many := rfl
theorem wh_held {x : Int} : x ∈ (L.wh cs).held ↔ x ∈ L.held ∨ x ∈ cs := by
  show x ∈ sortI (dedI (L.held ++ cs)) ↔ _
  rw [(sortI_perm _).mem_iff, dedI_mem, List.mem_append]
theorem wh_heldI {x : Int} : x ∈ (L.wh cs).heldI ↔ x ∈ L.heldI ∨ x ∈ cs := by
  rw [heldI_mem, heldI_mem, wh_held]
  show (_ ∨ _) ∨ (L.ring = false ∧ (x = 0 ∨ x = (L.many : Int) - 1)) ↔ _
  exact ⟨fun z => by rcases z with (z | z) | z <;> simp [z], fun z => by rcases z with (z | z) | z <;> simp [z]⟩
theorem wh_good (G : Good1 L) (hc : ∀ k ∈ cs, 0 ≤ k ∧ k < (L.many : Int)) : Good1 (L.wh cs) := by
  refine ⟨G.one, G.three, G.most, G.col, ?_, fun k hk => ?_⟩
  · have a : (sortI (dedI (L.held ++ cs))).Pairwise (· ≤ ·) := sortI_srt _
    have b : (sortI (dedI (L.held ++ cs))).Pairwise (fun x y => x ≠ y) := (sortI_perm _).nodup_iff.mpr (dedI_nodup _)
    exact (a.and b).imp fun ⟨x, y⟩ => by omega
  · rcases wh_held.mp hk with z | z
    · exact G.hin k z
    · exact hc k z
theorem wh_at (k : Int) : (L.wh cs).at k = L.at k := rfl
/-- ready with cells more held -/
theorem wh_rd {k : Int} : (L.wh cs).rd k ↔ L.rd k ∧ ¬ (k % (L.many : Int)) ∈ cs := by
  unfold Ln.rd
  rw [wh_at, wh_at, wh_at]
  show ¬ (k % (L.many : Int)) ∈ (L.wh cs).heldI ∧ _ ↔ _
  rw [wh_heldI]
  exact ⟨fun ⟨a, b⟩ => ⟨⟨fun z => a (.inl z), b⟩, fun z => a (.inr z)⟩, fun ⟨⟨a, b⟩, c⟩ => ⟨fun z => z.elim a c, b⟩⟩
/-- all ready cells held: nothing turns -/
theorem wh_all (h0 : 1 ≤ L.many) (h : ∀ k : Int, L.rd k → (k % (L.many : Int)) ∈ cs) (t : Nat) (k : Int) : ¬ ((L.wh cs).aft t).rd k := fun z => by
  have := Ln.rd_less (L := L.wh cs) (by exact h0) (s := 0) (j := k) z (by omega) (by omega)
  have r := wh_rd.mp this
  exact r.2 (h k r.1)
theorem aft_still {M : Ln} (h0 : 1 ≤ M.many) (h : ∀ k, ¬ M.rd k) (t : Nat) : M.aft t = M := by
  refine aft_same (t := 0) fun k => ?_
  rw [Ln.at_aft h0, Ln.dp_none h0 (h k), if_neg (by decide)]
  rfl
/-- cells held that are not ready: as before -/
theorem wh_lazy_rd (h0 : 1 ≤ L.many) (h : ∀ k : Int, L.rd k → ¬ (k % (L.many : Int)) ∈ cs) (t : Nat) (k : Int) : ((L.wh cs).aft t).rd k ↔ (L.aft t).rd k := by
  rw [Ln.rd_aft (L := L.wh cs) (by exact h0), Ln.rd_aft h0]
  exact ⟨fun z d a b => (wh_rd.mp (z d a b)).1, fun z d a b => wh_rd.mpr ⟨z d a b, h _ (z d a b)⟩⟩
theorem wh_lazy_dp (h0 : 1 ≤ L.many) (h : ∀ k : Int, L.rd k → ¬ (k % (L.many : Int)) ∈ cs) (k : Int) : ∀ t : Nat, (L.wh cs).dp t k = L.dp t k
  | 0 => rfl
  | t + 1 => by
    show (L.wh cs).dp t k + _ = L.dp t k + _
    rw [wh_lazy_dp h0 h k t]
    refine congrArg (L.dp t k + ·) ?_
    by_cases z : (L.aft t).rd k
    · rw [if_pos z, if_pos ((wh_lazy_rd h0 h t k).mpr z)]
    · rw [if_neg z, if_neg (fun y => z ((wh_lazy_rd h0 h t k).mp y))]
theorem wh_lazy (h0 : 1 ≤ L.many) (h : ∀ k : Int, L.rd k → ¬ (k % (L.many : Int)) ∈ cs) (t : Nat) : ((L.wh cs).aft t).cells = (L.aft t).cells := by
  rw [aft_cells, aft_cells]
  refine List.map_congr_left fun j _ => ?_
  rw [Ln.at_aft (L := L.wh cs) (by exact h0), Ln.at_aft h0, wh_lazy_dp h0 h]
  rfl
/-- more held: no line swings that did not -/
theorem wh_swing : (L.wh cs).Swing → L.Swing := fun z k => (wh_rd.mp (z k)).1
theorem wh_swing_no (h0 : 1 ≤ L.many) {x : Int} (hx : x ∈ cs) (hr : 0 ≤ x ∧ x < (L.many : Int)) : ¬ (L.wh cs).Swing := fun z => by
  have := (wh_rd.mp (z x)).2
  rw [Int.emod_eq_of_lt hr.1 hr.2] at this
  exact this hx
end
end Pyx

/-! Pyx: all ascending lists of so many of some things (no program in sight). -/
namespace Pyx
def okN (f : List Nat) (k : Nat) : Bool := f.isEmpty || decide (f.getLastD 0 < k)
def extN (r f : List Nat) : List (List Nat) := (r.filter (okN f)).map fun k => f ++ [k]
def lotsN (r : List Nat) : Nat → List (List Nat)
  | 0 => [[]]
  | m + 1 => (lotsN r m).flatMap (extN r)
theorem lots_mem {r : List Nat} : ∀ (m : Nat) (f : List Nat), f ∈ lotsN r m ↔ f.length = m ∧ f.Pairwise (· < ·) ∧ ∀ x ∈ f, x ∈ r
  | 0, f => by
    show f ∈ [[]] ↔ _
    rw [List.mem_singleton]
    refine ⟨fun e => ?_, fun ⟨e, _⟩ => List.eq_nil_of_length_eq_zero e⟩
    subst e
    exact ⟨rfl, List.Pairwise.nil, fun x hx => nomatch hx⟩
  | m + 1, f => by
    show f ∈ (lotsN r m).flatMap (extN r) ↔ _
    rw [List.mem_flatMap]
    refine ⟨fun ⟨g, hg, hf⟩ => ?_, fun ⟨h1, h2, h3⟩ => ?_⟩
    · obtain ⟨g1, g2, g3⟩ := (lots_mem m g).mp hg
      obtain ⟨k, hk, e⟩ := List.mem_map.mp hf
      subst e
      obtain ⟨kr, ko⟩ := List.mem_filter.mp hk
      refine ⟨by rw [List.length_append, g1]; rfl, List.pairwise_append.mpr ⟨g2, List.pairwise_singleton _ _, fun x hx y hy => ?_⟩, fun x hx => ?_⟩
      · rw [List.mem_singleton.mp hy]
        unfold okN at ko
        rw [Bool.or_eq_true] at ko
        rcases ko with z | z
        · rw [List.isEmpty_iff.mp z] at hx
          cases hx
        · have z := of_decide_eq_true z
          have ne : g ≠ [] := fun e => by rw [e] at hx; cases hx
          rw [List.getLastD_eq_getLast?, List.getLast?_eq_some_getLast ne] at z
          have z : g.getLast ne < k := z
          by_cases q : x = g.getLast ne
          · omega
          · have e := List.dropLast_concat_getLast ne
            rw [← e] at hx g2
            rcases List.mem_append.mp hx with y | y
            · have := (List.pairwise_append.mp g2).2.2 x y _ (List.mem_singleton.mpr rfl)
              omega
            · exact absurd (List.mem_singleton.mp y) q
      · rcases List.mem_append.mp hx with z | z
        · exact g3 x z
        · rw [List.mem_singleton.mp z]
          exact kr
    · have ne : f ≠ [] := fun e => by rw [e] at h1; cases h1
      have e := List.dropLast_concat_getLast ne
      rw [← e] at h2 h3
      obtain ⟨p1, _, p3⟩ := List.pairwise_append.mp h2
      refine ⟨f.dropLast, (lots_mem m _).mpr ⟨by rw [List.length_dropLast, h1]; rfl, p1, fun x hx => h3 x (List.mem_append_left _ hx)⟩, List.mem_map.mpr ⟨f.getLast ne, List.mem_filter.mpr ⟨h3 _ (List.mem_append_right _ (List.mem_singleton.mpr rfl)), ?_⟩, e⟩⟩
      unfold okN
      by_cases q : f.dropLast = []
      · rw [q]
        rfl
      · rw [Bool.or_eq_true]
        refine .inr (decide_eq_true ?_)
        rw [List.getLastD_eq_getLast?, List.getLast?_eq_some_getLast q]
        exact p3 _ (List.getLast_mem q) _ (List.mem_singleton.mpr rfl)
/-! ### how many -/
def cN : Nat → Nat → Nat
  | _, 0 => 1
  | 0, _ + 1 => 0
  | n + 1, j + 1 => cN n j + cN n (j + 1)
theorem cN_zero (n : Nat) : cN n 0 = 1 := by cases n <;> rfl
theorem hockey (j : Nat) : ∀ n : Nat, ((List.range n).map fun i => cN i j).sum = cN n (j + 1)
  | 0 => rfl
  | n + 1 => by
    rw [List.range_succ, List.map_append, List.sum_append, hockey j n]
    show _ + (cN n j + 0) = cN n j + cN n (j + 1)
    omega
/-- how many of r lie behind the last one -/
def remN (r f : List Nat) : Nat := (r.filter (okN f)).length
theorem sum_rem {r : List Nat} (h : r.Pairwise (· < ·)) (j : Nat) : ∀ {s : List Nat}, s <:+ r → (s.map fun k => cN (r.filter fun x => decide (k < x)).length j).sum = ((List.range s.length).map fun i => cN i j).sum
  | [], _ => rfl
  | k :: s, hs => by
    have hs' : s <:+ r := List.IsSuffix.trans (List.suffix_cons k s) hs
    rw [List.map_cons, List.sum_cons, sum_rem h j hs', List.length_cons, List.range_succ, List.map_append, List.sum_append]
    have e : r.filter (fun x => decide (k < x)) = s := by
      obtain ⟨t, ht⟩ := hs
      subst ht
      obtain ⟨_, p2, p3⟩ := List.pairwise_append.mp h
      obtain ⟨q1, _⟩ := List.pairwise_cons.mp p2
      rw [List.filter_append, List.filter_cons, if_neg (by simp)]
      rw [List.filter_eq_nil_iff.mpr (fun x hx => by have := p3 x hx k List.mem_cons_self; simp; omega), List.nil_append]
      exact List.filter_eq_self.mpr fun x hx => decide_eq_true (q1 x hx)
    rw [e]
    show _ = _ + (cN s.length j + 0)
    omega
theorem rem_snoc {r f : List Nat} (k : Nat) : r.filter (okN (f ++ [k])) = r.filter fun x => decide (k < x) := by
  refine List.filter_congr fun x _ => ?_
  unfold okN
  rw [List.getLastD_eq_getLast?, List.getLast?_concat]
  cases f <;> rfl
theorem ext_sum {r : List Nat} (h : r.Pairwise (· < ·)) (j : Nat) (f : List Nat) : ((extN r f).map fun g => cN (remN r g) j).sum = cN (remN r f) (j + 1) := by
  unfold extN
  rw [List.map_map]
  have e : (r.filter (okN f)).map ((fun g => cN (remN r g) j) ∘ fun k => f ++ [k]) = (r.filter (okN f)).map fun k => cN (r.filter fun x => decide (k < x)).length j := by
    refine List.map_congr_left fun k _ => ?_
    show cN (remN r (f ++ [k])) j = _
    unfold remN
    rw [rem_snoc]
  have sf : r.filter (okN f) <:+ r := by
    by_cases q : f = []
    · have : r.filter (okN f) = r := List.filter_eq_self.mpr fun x _ => by rw [q]; rfl
      rw [this]
      exact List.suffix_refl _
    · have eo : ∀ x, okN f x = decide (f.getLastD 0 < x) := fun x => by
        unfold okN
        rw [List.isEmpty_eq_false_iff.mpr q, Bool.false_or]
      rw [List.filter_congr fun x _ => eo x]
      generalize f.getLastD 0 = l
      clear e eo q
      induction r with
      | nil => exact List.suffix_refl _
      | cons x r ih =>
        obtain ⟨q1, q2⟩ := List.pairwise_cons.mp h
        rw [List.filter_cons]
        by_cases z : l < x
        · rw [if_pos (decide_eq_true z), List.filter_eq_self.mpr fun y hy => decide_eq_true (by have := q1 y hy; omega)]
          exact List.suffix_refl _
        · rw [if_neg (fun y => z (of_decide_eq_true y))]
          exact List.IsSuffix.trans (ih q2) (List.suffix_cons x r)
  rw [e, sum_rem h j sf, hockey]
  rfl
theorem lots_sum {r : List Nat} (h : r.Pairwise (· < ·)) : ∀ (m j : Nat), ((lotsN r m).map fun f => cN (remN r f) j).sum = cN r.length (m + j)
  | 0, j => by
    have e : remN r [] = r.length := by
      have q : r.filter (okN []) = r := List.filter_eq_self.mpr fun x _ => rfl
      unfold remN
      rw [q]
    show cN (remN r []) j + 0 = _
    rw [e, Nat.zero_add]
    rfl
  | m + 1, j => by
    have key : ∀ l : List (List Nat), ((l.flatMap (extN r)).map fun f => cN (remN r f) j).sum = (l.map fun f => cN (remN r f) (j + 1)).sum := by
      intro l
      induction l with
      | nil => rfl
      | cons f l ih => rw [List.flatMap_cons, List.map_append, List.sum_append, ih, ext_sum h, List.map_cons, List.sum_cons]
    show (((lotsN r m).flatMap (extN r)).map fun f => cN (remN r f) j).sum = _
    rw [key, lots_sum h m (j + 1)]
    exact congrArg (cN r.length) (by omega)
theorem lots_len {r : List Nat} (h : r.Pairwise (· < ·)) (m : Nat) : (lotsN r m).length = cN r.length m := by
  have e := lots_sum h m 0
  rw [Nat.add_zero] at e
  rw [← e]
  generalize lotsN r m = l
  induction l with
  | nil => rfl
  | cons f l ih => rw [List.map_cons, List.sum_cons, cN_zero, List.length_cons, ih]; omega
theorem lots_few {r : List Nat} (h : r.Pairwise (· < ·)) (h12 : r.length ≤ 12) {m : Nat} (hm : m ≤ 12) : (lotsN r m).length ≤ 924 := by
  rw [lots_len h]
  have key : ∀ p, p < 13 → ∀ m, m < 13 → cN p m ≤ 924 := by decide +kernel
  exact key _ (by omega) _ (by omega)
end Pyx

set_option Elab.async false
set_option linter.all false
set_option maxRecDepth 100000
set_option maxHeartbeats 400000
/-! Pyx: lists of counts: sums, products; sets of cells of a path by their sizes. -/
namespace Pyx
open PySem L2
theorem Le.g {h h' : PH} {i : Nat} {o : PO} (l : Le none h h') (e : h.get i = some o) : h'.get i = some o := l.get _ _ (by intro z; cases z) e
def addP (a b : List Int) : List Int := (List.range (max a.length b.length)).map fun k => a.getD k 0 + b.getD k 0
def addAt (f : List Int) (k : Nat) (x : Int) : List Int := f.set k (f.getD k 0 + x)
def mulI (f : List Int) (k : Nat) (a : Int) (bs : List Int) : Nat → List Int
  | 0 => f
  | j + 1 => addAt (mulI f k a bs j) (k + j) (a * bs.getD j 0)
def mulO (f as bs : List Int) : Nat → List Int
  | 0 => f
  | k + 1 => mulI (mulO f as bs k) k (as.getD k 0) bs bs.length
def mulP (as bs : List Int) : List Int := mulO (List.replicate (as.length + bs.length - 1) 0) as bs as.length
theorem addAt_len {f : List Int} {k : Nat} {x : Int} : (addAt f k x).length = f.length := by
  unfold addAt
  rw [List.length_set]
theorem mulI_len {f : List Int} {k : Nat} {a : Int} {bs : List Int} : ∀ j, (mulI f k a bs j).length = f.length
  | 0 => rfl
  | j + 1 => addAt_len.trans (mulI_len j)
theorem mulO_len {f as bs : List Int} : ∀ k, (mulO f as bs k).length = f.length
  | 0 => rfl
  | k + 1 => (mulI_len _).trans (mulO_len k)
theorem mulP_len {as bs : List Int} : (mulP as bs).length = as.length + bs.length - 1 := by
  unfold mulP
  rw [mulO_len, List.length_replicate]
theorem addP_len {a b : List Int} : (addP a b).length = max a.length b.length := by
  unfold addP
  rw [List.length_map, List.length_range]
theorem addP_at {a b : List Int} (k : Nat) : (addP a b).getD k 0 = a.getD k 0 + b.getD k 0 := by
  unfold addP
  rw [List.getD_eq_getElem?_getD, List.getElem?_map]
  by_cases hk : k < max a.length b.length
  · rw [List.getElem?_range hk]
    rfl
  · rw [List.getElem?_eq_none (by rw [List.length_range]; omega)]
    have ha : a.getD k 0 = 0 := by rw [List.getD_eq_getElem?_getD, List.getElem?_eq_none (by omega)]; rfl
    have hb : b.getD k 0 = 0 := by rw [List.getD_eq_getElem?_getD, List.getElem?_eq_none (by omega)]; rfl
    rw [ha, hb]
    rfl
/-- the sum of the first ones -/
def sumN (a : List Int) : Nat → Int
  | 0 => 0
  | k + 1 => sumN a k + a.getD k 0
theorem getD_nil {k : Nat} : ([] : List Int).getD k 0 = 0 := by
  rw [List.getD_eq_getElem?_getD]
  rfl
theorem sumN_cons (x : Int) (a : List Int) : ∀ k, sumN (x :: a) (k + 1) = x + sumN a k
  | 0 => by
    show 0 + (x :: a).getD 0 0 = x + 0
    rw [List.getD_cons_zero]
    omega
  | k + 1 => by
    show sumN (x :: a) (k + 1) + (x :: a).getD (k + 1) 0 = x + (sumN a k + a.getD k 0)
    rw [sumN_cons x a k, List.getD_cons_succ]
    omega
theorem sumI_N : ∀ (a : List Int) (m : Nat), a.length ≤ m → sumI a = sumN a m
  | [], 0, _ => rfl
  | [], m + 1, h => by
    show (0 : Int) = sumN [] m + ([] : List Int).getD m 0
    rw [getD_nil, ← sumI_N [] m (by simp)]
    rfl
  | x :: a, 0, h => by simp at h
  | x :: a, m + 1, h => by
    rw [sumN_cons, ← sumI_N a m (by simpa using h)]
    rfl
theorem sumN_add {f g e : List Int} (h : ∀ k, e.getD k 0 = f.getD k 0 + g.getD k 0) : ∀ m, sumN e m = sumN f m + sumN g m
  | 0 => rfl
  | m + 1 => by
    show sumN e m + e.getD m 0 = (sumN f m + f.getD m 0) + (sumN g m + g.getD m 0)
    rw [sumN_add h m, h m]
    omega
theorem sum_addP (a b : List Int) : sumI (addP a b) = sumI a + sumI b := by
  rw [sumI_N (addP a b) (max a.length b.length) (by rw [addP_len]; omega), sumI_N a (max a.length b.length) (by omega), sumI_N b (max a.length b.length) (by omega)]
  exact sumN_add (fun k => addP_at k) _
theorem sum_set : ∀ (f : List Int) (k : Nat) (x : Int), k < f.length → sumI (f.set k x) = sumI f - f.getD k 0 + x
  | [], k, x, h => by simp at h
  | y :: f, 0, x, h => by
    show x + sumI f = (y + sumI f) - (y :: f).getD 0 0 + x
    rw [List.getD_cons_zero]
    omega
  | y :: f, k + 1, x, h => by
    show y + sumI (f.set k x) = (y + sumI f) - (y :: f).getD (k + 1) 0 + x
    rw [sum_set f k x (by simpa using h), List.getD_cons_succ]
    omega
theorem sum_addAt {f : List Int} {k : Nat} {x : Int} (h : k < f.length) : sumI (addAt f k x) = sumI f + x := by
  unfold addAt
  rw [sum_set f k _ h]
  omega
theorem sum_mulI {f : List Int} {k : Nat} {a : Int} {bs : List Int} : ∀ j, k + j ≤ f.length → sumI (mulI f k a bs j) = sumI f + a * sumN bs j
  | 0, _ => by
    show sumI f = sumI f + a * 0
    omega
  | j + 1, h => by
    show sumI (addAt (mulI f k a bs j) (k + j) (a * bs.getD j 0)) = sumI f + a * (sumN bs j + bs.getD j 0)
    rw [sum_addAt (by rw [mulI_len]; omega), sum_mulI j (by omega), Int.mul_add]
    omega
theorem sum_mulO {f as bs : List Int} : ∀ k, k + bs.length ≤ f.length + 1 → sumI (mulO f as bs k) = sumI f + sumN as k * sumI bs
  | 0, _ => by
    show sumI f = sumI f + 0 * sumI bs
    rw [Int.zero_mul]
    omega
  | k + 1, h => by
    show sumI (mulI (mulO f as bs k) k (as.getD k 0) bs bs.length) = sumI f + (sumN as k + as.getD k 0) * sumI bs
    rw [sum_mulI _ (by rw [mulO_len]; omega), sum_mulO k (by omega), ← sumI_N bs bs.length (Nat.le_refl _), Int.add_mul]
    omega
theorem sum_zeros : ∀ n, sumI (List.replicate n 0) = 0
  | 0 => rfl
  | n + 1 => by
    rw [List.replicate_succ]
    show 0 + sumI (List.replicate n 0) = 0
    rw [sum_zeros n]
    rfl
theorem sum_mulP (as bs : List Int) (hb : bs ≠ []) : sumI (mulP as bs) = sumI as * sumI bs := by
  unfold mulP
  have h1 : 0 < bs.length := by
    cases bs with
    | nil => exact absurd rfl hb
    | cons _ _ => simp
  rw [sum_mulO _ (by rw [List.length_replicate]; omega), sum_zeros, ← sumI_N as as.length (Nat.le_refl _)]
  omega
/-- sets of cells of a path, no two neighbours, by their sizes; such to which none can be added -/
def pSet : Nat → List Int
  | 0 => [1]
  | 1 => [1, 1]
  | n + 2 => addP (pSet (n + 1)) (0 :: pSet n)
def pEnd : Nat → List Int
  | 0 => [1]
  | 1 => [0, 1]
  | 2 => [0, 2]
  | n + 3 => addP (0 :: pEnd (n + 1)) (0 :: pEnd n)
theorem pSet_len : ∀ n, (pSet n).length ≤ n + 1 ∧ pSet n ≠ []
  | 0 => ⟨by decide, by decide⟩
  | 1 => ⟨by decide, by decide⟩
  | n + 2 => by
    have h1 := (pSet_len (n + 1)).1
    have h2 := (pSet_len n).1
    have e : (pSet (n + 2)).length = max (pSet (n + 1)).length ((pSet n).length + 1) := by
      show (addP (pSet (n + 1)) (0 :: pSet n)).length = _
      rw [addP_len, List.length_cons]
    refine ⟨by rw [e]; omega, fun z => ?_⟩
    rw [z] at e
    simp at e
    omega
theorem pEnd_len : ∀ n, (pEnd n).length ≤ n + 1 ∧ pEnd n ≠ []
  | 0 => ⟨by decide, by decide⟩
  | 1 => ⟨by decide, by decide⟩
  | 2 => ⟨by decide, by decide⟩
  | n + 3 => by
    have h1 := (pEnd_len (n + 1)).1
    have h2 := (pEnd_len n).1
    have e : (pEnd (n + 3)).length = max ((pEnd (n + 1)).length + 1) ((pEnd n).length + 1) := by
      show (addP (0 :: pEnd (n + 1)) (0 :: pEnd n)).length = _
      rw [addP_len, List.length_cons, List.length_cons]
    refine ⟨by rw [e]; omega, fun z => ?_⟩
    rw [z] at e
    simp at e
theorem sum_pSet (n : Nat) : sumI (pSet (n + 2)) = sumI (pSet (n + 1)) + sumI (pSet n) := by
  show sumI (addP (pSet (n + 1)) (0 :: pSet n)) = _
  rw [sum_addP]
  show _ + (0 + sumI (pSet n)) = _
  omega
theorem sum_pEnd (n : Nat) : sumI (pEnd (n + 3)) = sumI (pEnd (n + 1)) + sumI (pEnd n) := by
  show sumI (addP (0 :: pEnd (n + 1)) (0 :: pEnd n)) = _
  rw [sum_addP]
  show (0 + sumI (pEnd (n + 1))) + (0 + sumI (pEnd n)) = _
  omega
/-- counts that are no greater than so much -/
def InR (m : Int) (a : List Int) : Prop := ∀ x ∈ a, 0 ≤ x ∧ x ≤ m
theorem InR.at {m : Int} {a : List Int} (h : InR m a) (hm : 0 ≤ m) (k : Nat) : 0 ≤ a.getD k 0 ∧ a.getD k 0 ≤ m := by
  rw [List.getD_eq_getElem?_getD]
  cases e : a[k]? with
  | none => exact ⟨Int.le_refl _, hm⟩
  | some x => exact h x (List.mem_of_getElem? e)
theorem InR.add {m n : Int} {a b : List Int} (ha : InR m a) (hb : InR n b) (hm : 0 ≤ m) (hn : 0 ≤ n) : InR (m + n) (addP a b) := by
  intro x hx
  obtain ⟨k, _, rfl⟩ := List.mem_map.mp hx
  have h1 := ha.at hm k
  have h2 := hb.at hn k
  omega
theorem InR.cons0 {m : Int} {a : List Int} (ha : InR m a) (hm : 0 ≤ m) : InR m (0 :: a) := by
  intro x hx
  rcases List.mem_cons.mp hx with z | z
  · subst z
    exact ⟨Int.le_refl _, hm⟩
  · exact ha x z
theorem InR.mono {m n : Int} {a : List Int} (ha : InR m a) (h : m ≤ n) : InR n a := fun x hx => by
  have := ha x hx
  omega
def pw2 : Nat → Int
  | 0 => 1
  | n + 1 => 2 * pw2 n
theorem pw2_pos : ∀ n, 0 < pw2 n
  | 0 => by decide
  | n + 1 => by
    have := pw2_pos n
    show 0 < 2 * pw2 n
    omega
theorem pSet_in : ∀ n, InR (pw2 n) (pSet n)
  | 0 => by unfold InR; decide
  | 1 => by unfold InR; decide
  | n + 2 => by
    have h1 := pSet_in (n + 1)
    have h2 := pSet_in n
    have p1 := pw2_pos n
    have e1 : pw2 (n + 1) = 2 * pw2 n := rfl
    have e2 : pw2 (n + 2) = 2 * pw2 (n + 1) := rfl
    exact (InR.add h1 (h2.cons0 (by omega)) (by omega) (by omega)).mono (by omega)
theorem pEnd_in : ∀ n, InR (pw2 n) (pEnd n)
  | 0 => by unfold InR; decide
  | 1 => by unfold InR; decide
  | 2 => by unfold InR; decide
  | n + 3 => by
    have h1 := pEnd_in (n + 1)
    have h2 := pEnd_in n
    have p1 := pw2_pos n
    have e1 : pw2 (n + 1) = 2 * pw2 n := rfl
    have e2 : pw2 (n + 2) = 2 * pw2 (n + 1) := rfl
    have e3 : pw2 (n + 3) = 2 * pw2 (n + 2) := rfl
    exact (InR.add (h1.cons0 (by omega)) (h2.cons0 (by omega)) (by omega) (by omega)).mono (by omega)
theorem pw2_le {m n : Nat} (h : m ≤ n) : pw2 m ≤ pw2 n := by
  induction h with
  | refl => exact Int.le_refl _
  | step _ ih =>
    rename_i k _
    have := pw2_pos k
    have e : pw2 (k + 1) = 2 * pw2 k := rfl
    show pw2 m ≤ pw2 (k + 1)
    omega
end Pyx

set_option Elab.async false
set_option linter.all false
set_option maxRecDepth 100000
set_option maxHeartbeats 400000
/-! Pyx: the ready cells of a line that does not swing, run by run. -/
namespace Pyx
open PySem L2
theorem perm_nodup {α : Type} [BEq α] [LawfulBEq α] {l m : List α} (a : l.Nodup) (b : m.Nodup) (h : ∀ x, x ∈ l ↔ x ∈ m) : l.Perm m := by
  rw [List.perm_iff_count]
  intro x
  rw [a.count, b.count]
  by_cases hx : x ∈ l
  · rw [if_pos hx, if_pos ((h x).mp hx)]
  · rw [if_neg hx, if_neg (fun z => hx ((h x).mpr z))]
/-- the cells of the run that begins at k -/
def Ln.iR (L : Ln) (k : Nat) : List Nat := (List.range (L.rl L.many (k : Int))).map fun i => (k + i) % L.many
theorem iR_mem {L : Ln} {k x : Nat} : x ∈ L.iR k ↔ ∃ i, i < L.rl L.many (k : Int) ∧ x = (k + i) % L.many := by
  unfold Ln.iR
  rw [List.mem_map]
  refine ⟨fun ⟨i, h1, h2⟩ => ⟨i, List.mem_range.mp h1, h2.symm⟩, fun ⟨i, h1, h2⟩ => ⟨i, List.mem_range.mpr h1, h2.symm⟩⟩
theorem iR_len {L : Ln} {k : Nat} : (L.iR k).length = L.rl L.many (k : Int) := by
  unfold Ln.iR
  rw [List.length_map, List.length_range]
theorem cast_mod {k i n : Nat} : (((k + i) % n : Nat) : Int) = ((k : Int) - 1 + ((i + 1 : Nat) : Int)) % (n : Int) := by
  rw [show (k : Int) - 1 + ((i + 1 : Nat) : Int) = ((k + i : Nat) : Int) by omega]
  exact Int.natCast_emod _ _
theorem iR_one {L : Ln} (h0 : 1 ≤ L.many) {k k' i i' : Nat} (hk : k ∈ L.sts) (hk' : k' ∈ L.sts) (hi : i < L.rl L.many (k : Int)) (hi' : i' < L.rl L.many (k' : Int)) (e : (k + i) % L.many = (k' + i') % L.many) : k = k' ∧ i = i' := by
  have e2 : ((k : Int) - 1 + ((i + 1 : Nat) : Int)) % (L.many : Int) = ((k' : Int) - 1 + ((i' + 1 : Nat) : Int)) % (L.many : Int) := by
    rw [← cast_mod, ← cast_mod, e]
  obtain ⟨a, b⟩ := in_one hk hk' (by omega) (by omega) (by omega) (by omega) h0 e2
  exact ⟨a, by omega⟩
theorem iR_nodup {L : Ln} (h0 : 1 ≤ L.many) {k : Nat} (hk : k ∈ L.sts) : (L.iR k).Nodup := by
  unfold Ln.iR
  refine List.nodup_iff_pairwise_ne.mpr ?_
  refine List.pairwise_map.mpr ((List.pairwise_lt_range (n := L.rl L.many (k : Int))).imp_of_mem fun {a b} ha hb h z => ?_)
  have := (iR_one h0 hk hk (List.mem_range.mp ha) (List.mem_range.mp hb) z).2
  omega
theorem ins_perm {L : Ln} (h0 : 1 ≤ L.many) (hS : ¬ L.Swing) : (L.sts.flatMap L.iR).Perm L.readyN := by
  refine perm_nodup ?_ ?_ fun x => ?_
  · refine List.nodup_iff_pairwise_ne.mpr ?_
    rw [List.pairwise_flatMap]
    refine ⟨fun k hk => List.nodup_iff_pairwise_ne.mp (iR_nodup h0 hk), ?_⟩
    refine (List.nodup_iff_pairwise_ne.mp (sts_nodup (L := L))).imp_of_mem fun {a b} ha hb h x hx y hy z => ?_
    obtain ⟨i, hi, rfl⟩ := iR_mem.mp hx
    obtain ⟨j, hj, rfl⟩ := iR_mem.mp hy
    exact h (iR_one h0 ha hb hi hj z).1
  · unfold Ln.readyN
    exact List.nodup_range.filter _
  · rw [List.mem_flatMap, Ln.readyN_mem]
    constructor
    · rintro ⟨k, hk, hx⟩
      obtain ⟨i, hi, rfl⟩ := iR_mem.mp hx
      refine ⟨Nat.mod_lt _ (by omega), ?_⟩
      refine (Ln.rd_congr ?_).mp ((sts_run h0 hk).mid i hi)
      rw [Int.natCast_emod]
      rw [Int.emod_emod_of_dvd _ (Int.dvd_refl _)]
      congr 1
    · rintro ⟨hx, r⟩
      obtain ⟨f, hf, a, a1, a2, a3⟩ := strs_all h0 hS hx r
      rw [strs_sts] at hf
      obtain ⟨k, hk, rfl⟩ := List.mem_map.mp hf
      refine ⟨k, hk, iR_mem.mpr ⟨a - 1, by rw [strI_len] at a2; omega, ?_⟩⟩
      have hl : a < (L.strI (k : Int)).length := by omega
      rw [List.getElem?_eq_getElem hl, strI_get] at a3
      have e := Option.some.inj a3
      have e2 := cast_mod (k := k) (i := a - 1) (n := L.many)
      rw [show a - 1 + 1 = a by omega, e] at e2
      omega
theorem rls_sum {L : Ln} (h0 : 1 ≤ L.many) (hS : ¬ L.Swing) : L.rls.sum = L.readyN.length := by
  rw [← (ins_perm h0 hS).length_eq, List.length_flatMap]
  unfold Ln.rls
  congr 1
  exact List.map_congr_left fun k _ => iR_len.symm
/-- the cells inside, as the program lists them -/
def inn (f : List Int) : List Int := (f.drop 1).take (f.length - 2)
theorem inn_len {f : List Int} : (inn f).length = f.length - 2 := by
  unfold inn
  rw [List.length_take, List.length_drop]
  omega
theorem cut_inn {f : List Int} (h : 2 ≤ f.length) : cutP (iL f) (some 1) (some (-1)) = iL (inn f) := by
  have e0 : (iL f).length = f.length := List.length_map _
  unfold cutP
  have e1 : HT.sIx (iL f).length 0 (some 1) = 1 := by
    show (if (1 : Int) < 0 then ((1 : Int) + ((iL f).length : Int)).toNat else min (1 : Int).toNat (iL f).length) = 1
    rw [if_neg (by omega)]
    omega
  have e2 : HT.sIx (iL f).length (iL f).length (some (-1)) = f.length - 1 := by
    show (if (-1 : Int) < 0 then ((-1 : Int) + ((iL f).length : Int)).toNat else min (-1 : Int).toNat (iL f).length) = f.length - 1
    rw [if_pos (by omega)]
    omega
  rw [e1, e2]
  unfold inn iL
  rw [List.map_take, List.map_drop]
  congr 1
/-- the lengths of what is inside, in the program's order -/
def Ln.ins (L : Ln) : List (List Int) := (sortT L.strs).map inn
def Ln.inL (L : Ln) : List Nat := L.ins.map List.length
theorem inL_perm {L : Ln} : L.inL.Perm L.rls := by
  have e : L.rls = L.strs.map fun f => f.length - 2 := by
    unfold Ln.rls
    rw [strs_sts, List.map_map]
    exact List.map_congr_left fun k _ => by
      show L.rl L.many (k : Int) = (L.strI (k : Int)).length - 2
      rw [strI_len]
      omega
  rw [e]
  unfold Ln.inL Ln.ins
  rw [List.map_map]
  have e2 : (List.length ∘ inn) = fun f : List Int => f.length - 2 := by
    funext f
    exact inn_len
  rw [e2]
  exact (sortT_perm L.strs).map _
theorem inL_sum {L : Ln} (h0 : 1 ≤ L.many) (hS : ¬ L.Swing) : L.inL.sum = L.readyN.length := by
  rw [inL_perm.sum_nat]
  exact rls_sum h0 hS
theorem ready_le {L : Ln} : L.readyN.length ≤ L.many := by
  unfold Ln.readyN
  have := List.length_filter_le L.rdy (List.range L.many)
  rw [List.length_range] at this
  exact this
end Pyx

set_option Elab.async false
set_option linter.all false
set_option maxRecDepth 100000
set_option maxHeartbeats 400000
namespace Pyx
open PySem L2
local macro_rules | `(tactic| walk_at "px") => `(tactic| first
  | (with_reducible refine ok_var (v := ?_) (by with_unfolding_all exact rfl) ?_)
  | with_reducible refine os_nil ?_
  | with_reducible refine os_cons ?_
  | with_reducible refine os_pass ?_
  | with_reducible refine os_retN ?_
  | with_reducible refine os_brk ?_
  | with_reducible refine os_cont ?_
  | with_reducible refine os_ret ?_
  | with_reducible refine os_expr ?_
  | with_reducible refine os_set ?_
  | with_reducible refine os_asg ?_
  | with_reducible refine os_par ?_
  | with_reducible refine os_par3 ?_
  | with_reducible refine os_setix ?_
  | with_reducible refine os_ite ?_
  | with_reducible refine os_for ?_
  | with_reducible refine os_while ?_
  | with_reducible refine ok_val ?_
  | with_reducible refine ok_bin ?_
  | with_reducible refine ok_neg ?_
  | with_reducible refine ok_cmp ?_
  | with_reducible refine ok_chain ?_
  | with_reducible refine ok_isin ?_
  | with_reducible refine ok_and ?_
  | with_reducible refine ok_or ?_
  | with_reducible refine ok_not ?_
  | with_reducible refine ok_ite ?_
  | with_reducible refine ok_tup ?_
  | with_reducible refine ok_lst ?_
  | with_reducible refine ok_call ?_
  | with_reducible refine ok_bi ?_
  | with_reducible refine ok_isi ?_
  | with_reducible refine ok_isis ?_
  | with_reducible refine ok_ix ?_
  | with_reducible refine ok_sl ?_
  | with_reducible refine ok_oN ?_
  | with_reducible refine ok_oS ?_
  | with_reducible refine ok_nil ?_
  | with_reducible refine ok_cons ?_
  | with_reducible refine ok_bval ?_
  | with_reducible refine ok_bbl ?_
  | with_reducible refine ok_bnot ?_
  | with_reducible refine ok_band ?_
  | with_reducible refine ok_bor ?_
  | with_reducible refine ok_ifN ?_
  | with_reducible refine ok_ifS ?_
  | with_reducible refine ok_rng1 ?_
  | with_reducible refine ok_rng2 ?_
  | with_reducible refine ok_over ?_
  | with_reducible refine ok_enum ?_
  | with_reducible refine ok_add ?_
  | with_reducible refine ok_sub ?_
  | (with_reducible refine ok_lc (by with_unfolding_all exact rfl) ?_)
  | with_reducible refine ⟨_, eq_int, ?_⟩
  | with_reducible refine ⟨_, ne_int, ?_⟩
  | with_reducible refine ⟨_, lt_int', ?_⟩
  | with_reducible refine ⟨_, le_int', ?_⟩
  | with_reducible refine ⟨_, gt_int', ?_⟩
  | with_reducible refine ⟨_, ge_int', ?_⟩
  | with_reducible refine ⟨_, eq_bl, ?_⟩
  | with_reducible refine ⟨_, ne_bl, ?_⟩
  | with_reducible refine ⟨_, ty_ii, ?_⟩
  | with_reducible refine ⟨_, ty_ib, ?_⟩
  | with_reducible refine ⟨_, ty_tt, ?_⟩
  | with_reducible refine ⟨_, ty_tl, ?_⟩
  | with_reducible refine ⟨_, ty_bb, ?_⟩
  | with_reducible refine ⟨_, ty_bi, ?_⟩
  | with_reducible refine ⟨_, truth_bl, ?_⟩
  | with_reducible refine ⟨_, (rfl : PV.bl _ = PV.bl _), ?_⟩
  | with_reducible refine ⟨_, (rfl : PV.int _ = PV.int _), ?_⟩
  | (with_reducible refine And.intro (Nat.le_of_ble_eq_true (by with_unfolding_all exact rfl)) ?_)
  | refine ⟨fun _ => ?_, fun e => nomatch (e : true = false)⟩
  | refine ⟨fun e => (nomatch (e : false = true)), fun _ => ?_⟩
  | refine ⟨fun e => (nomatch (e : true = false)), fun _ => ?_⟩
  | refine ⟨fun _ => ?_, fun e => nomatch (e : false = true)⟩)
local macro_rules | `(tactic| walk_at "py") => `(tactic| first
  | (with_reducible refine ok_var (v := ?_) (by with_unfolding_all exact rfl) ?_)
  | with_reducible refine os_nil ?_
  | with_reducible refine os_cons ?_
  | with_reducible refine os_pass ?_
  | with_reducible refine os_retN ?_
  | with_reducible refine os_brk ?_
  | with_reducible refine os_cont ?_
  | with_reducible refine os_ret ?_
  | with_reducible refine os_expr ?_
  | with_reducible refine os_set ?_
  | with_reducible refine os_asg ?_
  | with_reducible refine os_par ?_
  | with_reducible refine os_par3 ?_
  | with_reducible refine os_setix ?_
  | with_reducible refine os_ite ?_
  | with_reducible refine os_for ?_
  | with_reducible refine os_while ?_
  | with_reducible refine ok_val ?_
  | with_reducible refine ok_bin ?_
  | with_reducible refine ok_neg ?_
  | with_reducible refine ok_cmp ?_
  | with_reducible refine ok_chain ?_
  | with_reducible refine ok_isin ?_
  | with_reducible refine ok_and ?_
  | with_reducible refine ok_or ?_
  | with_reducible refine ok_not ?_
  | with_reducible refine ok_ite ?_
  | with_reducible refine ok_tup ?_
  | with_reducible refine ok_call ?_
  | with_reducible refine ok_bi ?_
  | with_reducible refine ok_isi ?_
  | with_reducible refine ok_isis ?_
  | with_reducible refine ok_ix ?_
  | with_reducible refine ok_sl ?_
  | with_reducible refine ok_oN ?_
  | with_reducible refine ok_oS ?_
  | with_reducible refine ok_nil ?_
  | with_reducible refine ok_cons ?_
  | with_reducible refine ok_bval ?_
  | with_reducible refine ok_bbl ?_
  | with_reducible refine ok_bnot ?_
  | with_reducible refine ok_band ?_
  | with_reducible refine ok_bor ?_
  | with_reducible refine ok_ifN ?_
  | with_reducible refine ok_ifS ?_
  | with_reducible refine ok_rng1 ?_
  | with_reducible refine ok_rng2 ?_
  | with_reducible refine ok_over ?_
  | with_reducible refine ok_enum ?_
  | with_reducible refine ok_add ?_
  | with_reducible refine ok_sub ?_
  | (with_reducible refine ok_lc (by with_unfolding_all exact rfl) ?_)
  | with_reducible refine ⟨_, eq_int, ?_⟩
  | with_reducible refine ⟨_, ne_int, ?_⟩
  | with_reducible refine ⟨_, lt_int', ?_⟩
  | with_reducible refine ⟨_, le_int', ?_⟩
  | with_reducible refine ⟨_, gt_int', ?_⟩
  | with_reducible refine ⟨_, ge_int', ?_⟩
  | with_reducible refine ⟨_, eq_bl, ?_⟩
  | with_reducible refine ⟨_, ne_bl, ?_⟩
  | with_reducible refine ⟨_, ty_ii, ?_⟩
  | with_reducible refine ⟨_, ty_ib, ?_⟩
  | with_reducible refine ⟨_, ty_tt, ?_⟩
  | with_reducible refine ⟨_, ty_tl, ?_⟩
  | with_reducible refine ⟨_, ty_bb, ?_⟩
  | with_reducible refine ⟨_, ty_bi, ?_⟩
  | with_reducible refine ⟨_, truth_bl, ?_⟩
  | with_reducible refine ⟨_, (rfl : PV.bl _ = PV.bl _), ?_⟩
  | with_reducible refine ⟨_, (rfl : PV.int _ = PV.int _), ?_⟩
  | (with_reducible refine And.intro (Nat.le_of_ble_eq_true (by with_unfolding_all exact rfl)) ?_)
  | refine ⟨fun _ => ?_, fun e => nomatch (e : true = false)⟩
  | refine ⟨fun e => (nomatch (e : false = true)), fun _ => ?_⟩
  | refine ⟨fun e => (nomatch (e : true = false)), fun _ => ?_⟩
  | refine ⟨fun _ => ?_, fun e => nomatch (e : false = true)⟩)
local macro_rules | `(tactic| walk_at "wf") => `(tactic| first
  | assumption
  | exact Le.wf (by assumption)
  | (with_reducible refine wf_push ?_; walk_at "wf")
  | (with_reducible refine wf_set ?_; walk_at "wf"))
local macro_rules | `(tactic| walk_at "gt") => `(tactic| first
  | assumption
  | with_reducible exact get_new
  | (with_reducible refine get_old ?_; walk_at "gt")
  | (with_reducible refine Le.g (by assumption) ?_; walk_at "gt"))
local macro_rules | `(tactic| walk_at "le") => `(tactic| first
  | assumption
  | with_reducible exact Le.refl (by walk_at "wf")
  | (with_reducible refine Le.p ?_; walk_at "le")
  | (with_reducible refine Le.trans ?_ (by assumption); walk_at "le"))
section
variable {P : Prg} {ix : Nat → Nat} {d : Nat} {h : PH} {Q : PV → PH → Prop}
theorem ok_mulN {a n : Nat} {x : PV} {m : Int} (e : h.get a = some (.lst [x])) (em : m = (n : Int)) (z : n ≤ 1000) (q : Q (.ref h.n) (h.push (.lst (List.replicate n x)))) : Ok (binP .mul (.ref a) (.int m) h) Q := by
  subst em
  exact ok_mulZ e z q
theorem iv_zipL {i j : Nat} {xs ys : List PV} {k : Nat} {h : PH} (e1 : h.get i = some (.lst xs)) (e2 : h.get j = some (.lst ys)) (hl : xs.length = ys.length) : ivN (.zipL i j) k h = pick ((xs.zip ys)[k]?.map fun p => .tup [p.1, p.2]) := by
  unfold ivN
  dsimp only
  rw [seqL_lst e1, seqL_lst e2]
  dsimp only
  by_cases hk : k < xs.length
  · have hk2 : k < ys.length := by omega
    have hz : k < (xs.zip ys).length := by rw [List.length_zip]; omega
    rw [List.getElem?_eq_getElem hk, List.getElem?_eq_getElem hk2, List.getElem?_eq_getElem hz, List.getElem_zip]
    rfl
  · rw [List.getElem?_eq_none (l := xs) (by omega), List.getElem?_eq_none (l := ys) (by omega), List.getElem?_eq_none (l := xs.zip ys) (by rw [List.length_zip]; omega)]
    rfl
theorem ok_zipLL {call : Nat → List PV → PH → R PV} {n : Nat} {a b : CE} {st : PSt} {h : PH} {QI : IV → PH → Prop} (q : Ok (evE call n a st h) fun v h1 => Ok (evE call n b st h1) fun w h2 => ∃ i j xs ys, v = .ref i ∧ w = .ref j ∧ h2.get i = some (.lst xs) ∧ h2.get j = some (.lst ys) ∧ QI (.zipL i j) h2) : Ok (evI (evE call n) (.zip a b) st h) QI := by
  unfold evI
  dsimp only
  cases e1 : evE call n a st h with
  | stuck => rw [e1] at q; exact q
  | ok v h1 =>
    rw [e1] at q
    have q : Ok (evE call n b st h1) fun w h2 => ∃ i j xs ys, v = .ref i ∧ w = .ref j ∧ h2.get i = some (.lst xs) ∧ h2.get j = some (.lst ys) ∧ QI (.zipL i j) h2 := q
    dsimp only
    cases e2 : evE call n b st h1 with
    | stuck => rw [e2] at q; exact q
    | ok w h2 =>
      rw [e2] at q
      obtain ⟨i, j, xs, ys, rfl, rfl, g1, g2, q⟩ := q
      dsimp only
      rw [seqL_lst g1, seqL_lst g2]
      exact q
/-! ### new objects in heaps that are not looked into -/
theorem on_lst {call : Nat → List PV → PH → R PV} {n : Nat} {st : PSt} {es : List CE} (q : Ok (evL (evE call n) es st h) fun vs h1 => (Wf h1 ∧ vs.length ≤ 100000) ∧ ∀ i h2, Le none h1 h2 → h1.n ≤ i → h2.get i = some (.lst vs) → Q (.ref i) h2) : Ok (evE call (n + 1) (.lst es) st h) Q :=
  ok_lst (q.mono fun vs h1 ⟨⟨w, z⟩, k⟩ => ⟨z, k _ _ (Le.push w) (Nat.le_refl _) get_new⟩)
theorem on_catL {a b : Nat} {xs ys : List PV} (ha : h.get a = some (.lst xs)) (hb : h.get b = some (.lst ys)) (w : Wf h) (z : (xs ++ ys).length ≤ 100000) (q : ∀ i h', Le none h h' → h.n ≤ i → h'.get i = some (.lst (xs ++ ys)) → Q (.ref i) h') : Ok (binP .add (.ref a) (.ref b) h) Q :=
  ok_catL ha hb z (q _ _ (Le.push w) (Nat.le_refl _) get_new)
theorem on_mulN {a n : Nat} {x : PV} {m : Int} (e : h.get a = some (.lst [x])) (w : Wf h) (em : m = (n : Int)) (z : n ≤ 1000) (q : ∀ i h', Le none h h' → h.n ≤ i → h'.get i = some (.lst (List.replicate n x)) → Q (.ref i) h') : Ok (binP .mul (.ref a) (.int m) h) Q :=
  ok_mulN e em z (q _ _ (Le.push w) (Nat.le_refl _) get_new)
theorem f_added (H : Has P ix 54 cf_added) {a b : Nat} {xs ys : List Int} (ga : h.get a = some (.lst (iL xs))) (gb : h.get b = some (.lst (iL ys))) (zx : xs.length ≤ 500) (zy : ys.length ≤ 500) (w : Wf h)
    (q : ∀ i h', Le none h h' → h.n ≤ i → h'.get i = some (.lst (iL (addP xs ys))) → Q (.ref i) h') : Ok (callP P 1000 (d + 1) (ix 54) [.ref a, .ref b] h) Q := by
  refine ok_def H rfl ?_
  repeat walk_at "py"
  refine ok_len (xs := iL xs) (seqOf_lst (by walk_at "gt")) ?_
  repeat walk_at "py"
  refine ok_len (xs := iL ys) (seqOf_lst (by walk_at "gt")) ?_
  repeat walk_at "py"
  rw [List.length_map, List.length_map]
  refine ok_max2 ?_
  have em : (if ((ys.length : Nat) : Int) > ((xs.length : Nat) : Int) then ((ys.length : Nat) : Int) else ((xs.length : Nat) : Int)) = ((max xs.length ys.length : Nat) : Int) := by
    split <;> omega
  rw [em]
  generalize hm : max xs.length ys.length = m
  repeat walk_at "py"
  refine on_lst ?_
  repeat walk_at "py"
  refine ⟨⟨w, by decide⟩, fun i1 h1 l1 n1 g1 => ?_⟩
  repeat walk_at "py"
  refine ok_len (xs := iL xs) (seqOf_lst (by walk_at "gt")) ?_
  rw [List.length_map]
  repeat walk_at "py"
  refine on_mulN (n := m - xs.length) g1 l1.wf (by omega) (by omega) fun i2 h2 l2 n2 g2 => ?_
  refine on_catL (xs := iL xs) (by walk_at "gt") g2 l2.wf (by rw [List.length_append, List.length_map, List.length_replicate]; omega) fun i3 h3 l3 n3 g3 => ?_
  repeat walk_at "py"
  refine on_lst ?_
  repeat walk_at "py"
  refine ⟨⟨l3.wf, by decide⟩, fun i4 h4 l4 n4 g4 => ?_⟩
  repeat walk_at "py"
  refine ok_len (xs := iL ys) (seqOf_lst (by walk_at "gt")) ?_
  rw [List.length_map]
  repeat walk_at "py"
  refine on_mulN (n := m - ys.length) g4 l4.wf (by omega) (by omega) fun i5 h5 l5 n5 g5 => ?_
  refine on_catL (xs := iL ys) (by walk_at "gt") g5 l5.wf (by rw [List.length_append, List.length_map, List.length_replicate]; omega) fun i6 h6 l6 n6 g6 => ?_
  repeat walk_at "py"
  refine ok_zipLL ?_
  repeat walk_at "py"
  have k3 : h6.get i3 = some (.lst (iL xs ++ List.replicate (m - xs.length) (.int 0))) := by walk_at "gt"
  refine ⟨i3, i6, _, _, rfl, rfl, k3, g6, ?_⟩
  have hl : (iL xs ++ List.replicate (m - xs.length) (PV.int 0)).length = (iL ys ++ List.replicate (m - ys.length) (PV.int 0)).length := by
    rw [List.length_append, List.length_append, List.length_map, List.length_map, List.length_replicate, List.length_replicate]
    omega
  have zl : ((iL xs ++ List.replicate (m - xs.length) (PV.int 0)).zip (iL ys ++ List.replicate (m - ys.length) (PV.int 0))).length = m := by
    rw [List.length_zip, ← hl, List.length_append, List.length_map, List.length_replicate]
    omega
  have za : ∀ (zs : List Int) (k : Nat), k < m → zs.length ≤ m → (iL zs ++ List.replicate (m - zs.length) (PV.int 0))[k]? = some (.int (zs.getD k 0)) := fun zs k hk hz => by
    rw [List.getD_eq_getElem?_getD]
    by_cases h1 : k < zs.length
    · rw [List.getElem?_append_left (by rw [List.length_map]; exact h1), List.getElem?_map, List.getElem?_eq_getElem h1]
      rfl
    · rw [List.getElem?_append_right (by rw [List.length_map]; omega), List.getElem?_replicate, if_pos (by rw [List.length_map]; omega), List.getElem?_eq_none (by omega)]
      rfl
  refine ok_lcI none (((iL xs ++ List.replicate (m - xs.length) (PV.int 0)).zip (iL ys ++ List.replicate (m - ys.length) (PV.int 0))).map fun p => .tup [p.1, p.2]) h6 l6.wf (fun i e => by cases e)
    (fun k h' l => by rw [iv_zipL (l.get _ _ (by intro z; cases z) k3) (l.get _ _ (by intro z; cases z) g6) hl, List.getElem?_map]) (by rw [List.length_map, zl]; omega) (fun k acc => acc = iL ((List.range k).map fun j => xs.getD j 0 + ys.getD j 0)) rfl
    (fun k v acc h7 e7 i7 l7 => ?_) (fun acc h7 i7 _ l7 g7 => ?_) (by rw [List.length_map, zl]; omega)
  · have hk : k < m := by
      have := (List.getElem?_eq_some_iff.mp e7).1
      rw [List.length_map, zl] at this
      exact this
    have ev : v = .tup [.int (xs.getD k 0), .int (ys.getD k 0)] := by
      rw [List.getElem?_map, List.zip_eq_zipWith, List.getElem?_zipWith, za xs k hk (by omega), za ys k hk (by omega)] at e7
      cases e7
      rfl
    subst ev
    refine ⟨_, rfl, ?_⟩
    repeat walk_at "py"
    refine ⟨Le.refl l7.wf, fun e => (nomatch (e : true = false)), fun _ => ?_⟩
    repeat walk_at "py"
    refine ⟨Le.refl l7.wf, ?_⟩
    rw [i7, List.range_succ, List.map_append, ← iL_app]
    rfl
  · rw [List.length_map, zl, ← hm] at i7
    have e9 : acc = iL (addP xs ys) := i7
    subst e9
    exact q _ _ (by walk_at "le") (by have := l1.n; have := l2.n; have := l3.n; have := l4.n; have := l5.n; have := l6.n; omega) g7
theorem ix_neg {a k m : Nat} {xs : List PV} {v : PV} {i : Int} (e : h.get a = some (.lst xs)) (hl : xs.length = m) (ei : i = -(k : Int)) (h1 : 1 ≤ k) (h2 : k ≤ m) (g : xs[m - k]? = some v) : ixP (.ref a) (.int i) h = some v := by
  unfold ixP
  dsimp only
  rw [seqOf_lst e]
  dsimp only
  unfold atI
  have e1 : ixN xs.length i = some (m - k) := by
    unfold ixN
    rw [hl, if_neg (by omega), if_pos (by omega)]
    congr 1
    omega
  rw [e1]
  exact g
theorem os_augix {call : Nat → List PV → PH → R PV} {n : Nat} {st : PSt} {h : PH} {N B C : PSt → PH → Prop} {T : PV → PH → Prop} {o i e : CE} {op : Bop} (q : Ok (evE call n o st h) fun a h1 => Ok (evE call n i st h1) fun k h2 => ∃ x, ixP a k h2 = some (.int x) ∧ Ok (evE call n e st h2) fun v h3 => ∃ y z h4, v = .int y ∧ augI op x y = some z ∧ setP a k (.int z) h3 = some h4 ∧ N st h4) :
    OkS (evS call (n + 1) (.augix o i op e) st h) N T B C := by
  show OkS (xAugix n (evE call n) (evS call n) o i op e st h) N T B C
  unfold xAugix
  cases e1 : evE call n o st h with
  | stuck => rw [e1] at q; exact q
  | ok a h1 =>
    rw [e1] at q
    have q : Ok (evE call n i st h1) fun k h2 => ∃ x, ixP a k h2 = some (.int x) ∧ Ok (evE call n e st h2) fun v h3 => ∃ y z h4, v = .int y ∧ augI op x y = some z ∧ setP a k (.int z) h3 = some h4 ∧ N st h4 := q
    dsimp only
    cases e2 : evE call n i st h1 with
    | stuck => rw [e2] at q; exact q
    | ok k h2 =>
      rw [e2] at q
      obtain ⟨x, g1, q⟩ := q
      dsimp only
      rw [g1]
      dsimp only
      cases e3 : evE call n e st h2 with
      | stuck => rw [e3] at q; exact q
      | ok v h3 =>
        rw [e3] at q
        obtain ⟨y, z, h4, rfl, g2, g3, q⟩ := q
        dsimp only
        rw [g2]
        dsimp only
        rw [g3]
        exact q
theorem iv_enumL {a k : Nat} {xs : List PV} (e : h.get a = some (.lst xs)) : ivN (.enumL a) k h = pick (xs[k]?.map fun v => .tup [.int k, v]) := by
  unfold ivN
  dsimp only
  rw [seqL_lst e]
  dsimp only
  cases xs[k]? <;> rfl
theorem iL_at {ns : List Int} {k : Nat} (hk : k < ns.length) : (iL ns)[k]? = some (.int (ns.getD k 0)) := by
  rw [List.getElem?_map, List.getD_eq_getElem?_getD, List.getElem?_eq_getElem hk]
  rfl
theorem f_multiplied (H : Has P ix 55 cf_multiplied) {a b : Nat} {xs ys : List Int} (ga : h.get a = some (.lst (iL xs))) (gb : h.get b = some (.lst (iL ys))) (zx : xs.length ≤ 400) (zy : ys.length ≤ 400) (h1 : 1 ≤ ys.length) (hw : ∀ k, wide (ys.getD k 0) = true) (w : Wf h)
    (q : ∀ i h', Le none h h' → h.n ≤ i → h'.get i = some (.lst (iL (mulP xs ys))) → Q (.ref i) h') : Ok (callP P 1000 (d + 1) (ix 55) [.ref a, .ref b] h) Q := by
  refine ok_def H rfl ?_
  repeat walk_at "py"
  refine on_lst ?_
  repeat walk_at "py"
  refine ⟨⟨w, by decide⟩, fun i1 h1 l1 n1 g1 => ?_⟩
  repeat walk_at "py"
  refine ok_len (xs := iL xs) (seqOf_lst (by walk_at "gt")) ?_
  repeat walk_at "py"
  refine ok_len (xs := iL ys) (seqOf_lst (by walk_at "gt")) ?_
  rw [List.length_map, List.length_map]
  repeat walk_at "py"
  refine on_mulN (n := xs.length + ys.length - 1) g1 l1.wf (by omega) (by omega) fun F h2 l2 n2 g2 => ?_
  repeat walk_at "py"
  have ga2 : h2.get a = some (.lst (iL xs)) := by walk_at "gt"
  have gb2 : h2.get b = some (.lst (iL ys)) := by walk_at "gt"
  refine .inl ⟨a, iL xs, rfl, seqL_lst ga2, ?_⟩
  have nF : ∀ {j : Nat} {o : PO}, h.get j = some o → j ≠ F := fun {j o} e z => by
    have := get_lt e
    have := l1.n
    omega
  have hF0 : h.n ≤ F := Nat.le_trans l1.n n2
  have la : Le none h h2 := l1.trans l2
  have z0 : List.replicate (xs.length + ys.length - 1) (PV.int 0) = iL (mulO (List.replicate (xs.length + ys.length - 1) 0) xs ys 0) := by
    show _ = iL (List.replicate (xs.length + ys.length - 1) 0)
    rw [iL, List.map_replicate]
  rw [z0] at g2
  generalize hz : List.replicate (xs.length + ys.length - 1) (0 : Int) = Z at g2
  have lz : Z.length = xs.length + ys.length - 1 := by rw [← hz, List.length_replicate]
  refine os_forL (fun k st h' => k ≤ xs.length ∧ Le none h h' ∧ h'.get F = some (.lst (iL (mulO Z xs ys k))) ∧ ∃ s3 s4 s5 s6, st = [some (.ref a), some (.ref b), some (.ref F), s3, s4, s5, s6]) xs.length (fun k st h' ⟨j1, j2, j3, s3, s4, s5, s6, j4⟩ => ⟨j1, ?_⟩) _ 0 _ _ (by omega) ⟨Nat.zero_le _, la, g2, none, none, none, none, rfl⟩
  subst j4
  rw [iv_enumL (j2.g ga)]
  by_cases hk : k < xs.length
  · rw [iL_at hk]
    refine .inr ⟨_, _, rfl, rfl, ?_⟩
    repeat walk_at "py"
    refine .inl ⟨b, iL ys, rfl, seqL_lst (j2.g gb), ?_⟩
    refine os_forL (fun j st h'' => j ≤ ys.length ∧ Le none h h'' ∧ h''.get F = some (.lst (iL (mulI (mulO Z xs ys k) k (xs.getD k 0) ys j))) ∧ ∃ s5 s6, st = [some (.ref a), some (.ref b), some (.ref F), some (.int k), some (.int (xs.getD k 0)), s5, s6]) ys.length (fun j st h'' ⟨i1, i2, i3, s5, s6, i4⟩ => ⟨i1, ?_⟩) _ 0 _ _ (by omega) ⟨Nat.zero_le _, j2, j3, _, _, rfl⟩
    subst i4
    rw [iv_enumL (i2.g gb)]
    by_cases hj : j < ys.length
    · rw [iL_at hj]
      refine .inr ⟨_, _, rfl, rfl, ?_⟩
      refine os_cons (os_augix ?_)
      repeat walk_at "py"
      have lm : (mulI (mulO Z xs ys k) k (xs.getD k 0) ys j).length = xs.length + ys.length - 1 := by rw [mulI_len, mulO_len, lz]
      rw [show (k : Int) + (j : Nat) = ((k + j : Nat) : Int) by omega]
      refine ⟨_, ix_of_nat (seqOf_lst i3) (iL_at (by omega)), ?_⟩
      repeat walk_at "py"
      refine ok_mulR (hw j) ?_
      refine ⟨_, _, _, rfl, rfl, set_lst i3 (by rw [List.length_map, lm]; omega), ?_⟩
      repeat walk_at "py"
      refine ⟨hj, Le.set i2 hF0 i3, ?_, _, _, rfl⟩
      rw [get_at_set i2.wf i3]
      show some (PO.lst _) = some (PO.lst (iL (addAt _ _ _)))
      unfold addAt
      rw [iL, iL, List.map_set]
    · rw [List.getElem?_eq_none (by rw [List.length_map]; omega)]
      refine .inl ⟨rfl, ?_⟩
      repeat walk_at "py"
      have ej : j = ys.length := by omega
      subst ej
      exact ⟨hk, i2, i3, _, _, _, _, rfl⟩
  · rw [List.getElem?_eq_none (by rw [List.length_map]; omega)]
    refine .inl ⟨rfl, ?_⟩
    repeat walk_at "py"
    have ek : k = xs.length := by omega
    subst ek
    refine q _ _ j2 hF0 ?_
    rw [j3, ← hz]
    rfl
end
end Pyx

set_option Elab.async false
set_option linter.all false
set_option maxRecDepth 100000
set_option maxHeartbeats 400000
namespace Pyx
open PySem L2
local macro_rules | `(tactic| walk_at "px") => `(tactic| first
  | (with_reducible refine ok_var (v := ?_) (by with_unfolding_all exact rfl) ?_)
  | with_reducible refine os_nil ?_
  | with_reducible refine os_cons ?_
  | with_reducible refine os_pass ?_
  | with_reducible refine os_retN ?_
  | with_reducible refine os_brk ?_
  | with_reducible refine os_cont ?_
  | with_reducible refine os_ret ?_
  | with_reducible refine os_expr ?_
  | with_reducible refine os_set ?_
  | with_reducible refine os_asg ?_
  | with_reducible refine os_par ?_
  | with_reducible refine os_par3 ?_
  | with_reducible refine os_setix ?_
  | with_reducible refine os_ite ?_
  | with_reducible refine os_for ?_
  | with_reducible refine os_while ?_
  | with_reducible refine ok_val ?_
  | with_reducible refine ok_bin ?_
  | with_reducible refine ok_neg ?_
  | with_reducible refine ok_cmp ?_
  | with_reducible refine ok_chain ?_
  | with_reducible refine ok_isin ?_
  | with_reducible refine ok_and ?_
  | with_reducible refine ok_or ?_
  | with_reducible refine ok_not ?_
  | with_reducible refine ok_ite ?_
  | with_reducible refine ok_tup ?_
  | with_reducible refine ok_lst ?_
  | with_reducible refine ok_call ?_
  | with_reducible refine ok_bi ?_
  | with_reducible refine ok_isi ?_
  | with_reducible refine ok_isis ?_
  | with_reducible refine ok_ix ?_
  | with_reducible refine ok_sl ?_
  | with_reducible refine ok_oN ?_
  | with_reducible refine ok_oS ?_
  | with_reducible refine ok_nil ?_
  | with_reducible refine ok_cons ?_
  | with_reducible refine ok_bval ?_
  | with_reducible refine ok_bbl ?_
  | with_reducible refine ok_bnot ?_
  | with_reducible refine ok_band ?_
  | with_reducible refine ok_bor ?_
  | with_reducible refine ok_ifN ?_
  | with_reducible refine ok_ifS ?_
  | with_reducible refine ok_rng1 ?_
  | with_reducible refine ok_rng2 ?_
  | with_reducible refine ok_over ?_
  | with_reducible refine ok_enum ?_
  | with_reducible refine ok_add ?_
  | with_reducible refine ok_sub ?_
  | (with_reducible refine ok_lc (by with_unfolding_all exact rfl) ?_)
  | with_reducible refine ⟨_, eq_int, ?_⟩
  | with_reducible refine ⟨_, ne_int, ?_⟩
  | with_reducible refine ⟨_, lt_int', ?_⟩
  | with_reducible refine ⟨_, le_int', ?_⟩
  | with_reducible refine ⟨_, gt_int', ?_⟩
  | with_reducible refine ⟨_, ge_int', ?_⟩
  | with_reducible refine ⟨_, eq_bl, ?_⟩
  | with_reducible refine ⟨_, ne_bl, ?_⟩
  | with_reducible refine ⟨_, ty_ii, ?_⟩
  | with_reducible refine ⟨_, ty_ib, ?_⟩
  | with_reducible refine ⟨_, ty_tt, ?_⟩
  | with_reducible refine ⟨_, ty_tl, ?_⟩
  | with_reducible refine ⟨_, ty_bb, ?_⟩
  | with_reducible refine ⟨_, ty_bi, ?_⟩
  | with_reducible refine ⟨_, truth_bl, ?_⟩
  | with_reducible refine ⟨_, (rfl : PV.bl _ = PV.bl _), ?_⟩
  | with_reducible refine ⟨_, (rfl : PV.int _ = PV.int _), ?_⟩
  | (with_reducible refine And.intro (Nat.le_of_ble_eq_true (by with_unfolding_all exact rfl)) ?_)
  | refine ⟨fun _ => ?_, fun e => nomatch (e : true = false)⟩
  | refine ⟨fun e => (nomatch (e : false = true)), fun _ => ?_⟩
  | refine ⟨fun e => (nomatch (e : true = false)), fun _ => ?_⟩
  | refine ⟨fun _ => ?_, fun e => nomatch (e : false = true)⟩)
local macro_rules | `(tactic| walk_at "py") => `(tactic| first
  | (with_reducible refine ok_var (v := ?_) (by with_unfolding_all exact rfl) ?_)
  | with_reducible refine os_nil ?_
  | with_reducible refine os_cons ?_
  | with_reducible refine os_pass ?_
  | with_reducible refine os_retN ?_
  | with_reducible refine os_brk ?_
  | with_reducible refine os_cont ?_
  | with_reducible refine os_ret ?_
  | with_reducible refine os_expr ?_
  | with_reducible refine os_set ?_
  | with_reducible refine os_asg ?_
  | with_reducible refine os_par ?_
  | with_reducible refine os_par3 ?_
  | with_reducible refine os_setix ?_
  | with_reducible refine os_ite ?_
  | with_reducible refine os_for ?_
  | with_reducible refine os_while ?_
  | with_reducible refine ok_val ?_
  | with_reducible refine ok_bin ?_
  | with_reducible refine ok_neg ?_
  | with_reducible refine ok_cmp ?_
  | with_reducible refine ok_chain ?_
  | with_reducible refine ok_isin ?_
  | with_reducible refine ok_and ?_
  | with_reducible refine ok_or ?_
  | with_reducible refine ok_not ?_
  | with_reducible refine ok_ite ?_
  | with_reducible refine ok_tup ?_
  | with_reducible refine ok_call ?_
  | with_reducible refine ok_bi ?_
  | with_reducible refine ok_isi ?_
  | with_reducible refine ok_isis ?_
  | with_reducible refine ok_ix ?_
  | with_reducible refine ok_sl ?_
  | with_reducible refine ok_oN ?_
  | with_reducible refine ok_oS ?_
  | with_reducible refine ok_nil ?_
  | with_reducible refine ok_cons ?_
  | with_reducible refine ok_bval ?_
  | with_reducible refine ok_bbl ?_
  | with_reducible refine ok_bnot ?_
  | with_reducible refine ok_band ?_
  | with_reducible refine ok_bor ?_
  | with_reducible refine ok_ifN ?_
  | with_reducible refine ok_ifS ?_
  | with_reducible refine ok_rng1 ?_
  | with_reducible refine ok_rng2 ?_
  | with_reducible refine ok_over ?_
  | with_reducible refine ok_enum ?_
  | with_reducible refine ok_add ?_
  | with_reducible refine ok_sub ?_
  | (with_reducible refine ok_lc (by with_unfolding_all exact rfl) ?_)
  | with_reducible refine ⟨_, eq_int, ?_⟩
  | with_reducible refine ⟨_, ne_int, ?_⟩
  | with_reducible refine ⟨_, lt_int', ?_⟩
  | with_reducible refine ⟨_, le_int', ?_⟩
  | with_reducible refine ⟨_, gt_int', ?_⟩
  | with_reducible refine ⟨_, ge_int', ?_⟩
  | with_reducible refine ⟨_, eq_bl, ?_⟩
  | with_reducible refine ⟨_, ne_bl, ?_⟩
  | with_reducible refine ⟨_, ty_ii, ?_⟩
  | with_reducible refine ⟨_, ty_ib, ?_⟩
  | with_reducible refine ⟨_, ty_tt, ?_⟩
  | with_reducible refine ⟨_, ty_tl, ?_⟩
  | with_reducible refine ⟨_, ty_bb, ?_⟩
  | with_reducible refine ⟨_, ty_bi, ?_⟩
  | with_reducible refine ⟨_, truth_bl, ?_⟩
  | with_reducible refine ⟨_, (rfl : PV.bl _ = PV.bl _), ?_⟩
  | with_reducible refine ⟨_, (rfl : PV.int _ = PV.int _), ?_⟩
  | (with_reducible refine And.intro (Nat.le_of_ble_eq_true (by with_unfolding_all exact rfl)) ?_)
  | refine ⟨fun _ => ?_, fun e => nomatch (e : true = false)⟩
  | refine ⟨fun e => (nomatch (e : false = true)), fun _ => ?_⟩
  | refine ⟨fun e => (nomatch (e : true = false)), fun _ => ?_⟩
  | refine ⟨fun _ => ?_, fun e => nomatch (e : false = true)⟩)
local macro_rules | `(tactic| walk_at "wf") => `(tactic| first
  | assumption
  | exact Le.wf (by assumption)
  | (with_reducible refine wf_push ?_; walk_at "wf")
  | (with_reducible refine wf_set ?_; walk_at "wf"))
local macro_rules | `(tactic| walk_at "gt") => `(tactic| first
  | assumption
  | with_reducible exact get_new
  | (with_reducible refine get_old ?_; walk_at "gt")
  | (with_reducible refine Le.g (by assumption) ?_; walk_at "gt"))
local macro_rules | `(tactic| walk_at "le") => `(tactic| first
  | assumption
  | with_reducible exact Le.refl (by walk_at "wf")
  | (with_reducible refine Le.p ?_; walk_at "le")
  | (with_reducible refine Le.trans ?_ (by assumption); walk_at "le"))
section
variable {P : Prg} {ix : Nat → Nat} {d : Nat} {h : PH} {Q : PV → PH → Prop}
/-- rows of lists of counts -/
def Rows (h0 h : PH) (R : Nat) (g : Nat → List Int) (m : Nat) (rs : List Nat) : Prop := rs.length = m ∧ h.get R = some (.lst (rs.map PV.ref)) ∧ ∀ j, j < m → ∃ r, rs[j]? = some r ∧ r ≠ R ∧ h0.n ≤ r ∧ h.get r = some (.lst (iL (g j)))
theorem Rows.le {h0 h1 h2 : PH} {R m : Nat} {g : Nat → List Int} {rs : List Nat} (a : Rows h0 h1 R g m rs) (l : Le none h1 h2) : Rows h0 h2 R g m rs := ⟨a.1, l.g a.2.1, fun j hj => let ⟨r, e1, e2, e3, e4⟩ := a.2.2 j hj; ⟨r, e1, e2, e3, l.g e4⟩⟩
/-- one row more -/
theorem Rows.more {h0 h1 : PH} {R m i : Nat} {g : Nat → List Int} {rs : List Nat} (a : Rows h0 h1 R g m rs) (w : Wf h1) (ni : i ≠ R) (hi : h0.n ≤ i) (gi : h1.get i = some (.lst (iL (g m)))) : Rows h0 (h1.set R (.lst (rs.map PV.ref ++ [.ref i]))) R g (m + 1) (rs ++ [i]) := by
  refine ⟨by rw [List.length_append, a.1]; rfl, ?_, fun j hj => ?_⟩
  · rw [get_at_set w a.2.1, List.map_append]
    rfl
  · by_cases hm : j < m
    · obtain ⟨r, e1, e2, e3, e4⟩ := a.2.2 j hm
      refine ⟨r, ?_, e2, e3, get_of_set w a.2.1 e4 e2⟩
      rw [List.getElem?_append_left (by rw [a.1]; exact hm)]
      exact e1
    · have e : j = m := by omega
      subst e
      refine ⟨i, ?_, ni, hi, get_of_set w a.2.1 gi ni⟩
      rw [List.getElem?_append_right (by rw [a.1]; omega), a.1, Nat.sub_self]
      rfl
theorem Rows.last {h0 h1 : PH} {R m k : Nat} {g : Nat → List Int} {rs : List Nat} {i : Int} (a : Rows h0 h1 R g m rs) (ei : i = -(k : Int)) (h1' : 1 ≤ k) (h2 : k ≤ m) : ∃ r, ixP (.ref R) (.int i) h1 = some (.ref r) ∧ h1.get r = some (.lst (iL (g (m - k)))) := by
  obtain ⟨r, e1, e2, e3, e4⟩ := a.2.2 (m - k) (by omega)
  refine ⟨r, ix_neg a.2.1 (by rw [List.length_map, a.1]) ei h1' h2 ?_, e4⟩
  rw [List.getElem?_map, e1]
  rfl
theorem f_path_sets (H54 : Has P ix 54 cf_added) (H : Has P ix 56 cf_path_sets) {n : Nat} (hn : n ≤ 100) (w : Wf h) (q : ∀ i h', Le none h h' → h.n ≤ i → h'.get i = some (.lst (iL (pSet n))) → Q (.ref i) h') : Ok (callP P 1000 (d + 2) (ix 56) [.int n] h) Q := by
  refine ok_def H rfl ?_
  repeat walk_at "py"
  refine on_lst ?_
  repeat walk_at "py"
  refine on_lst ?_
  repeat walk_at "py"
  refine ⟨⟨w, by decide⟩, fun i1 h1 l1 n1 g1 => ?_⟩
  repeat walk_at "py"
  refine on_lst ?_
  repeat walk_at "py"
  refine ⟨⟨l1.wf, by decide⟩, fun i2 h2 l2 n2 g2 => ?_⟩
  repeat walk_at "py"
  refine ⟨⟨l2.wf, by simp⟩, fun R h3 l3 n3 g3 => ?_⟩
  have m1 := l1.n
  have m2 := l2.n
  have m3 := l3.n
  have q1 := get_lt g1
  have q2 := get_lt g2
  have la : Le none h h3 := by walk_at "le"
  have hR : h.n ≤ R := by omega
  have r0 : Rows h h3 R pSet 2 [i1, i2] := ⟨rfl, g3, fun j hj => by
    match j, hj with
    | 0, _ => exact ⟨i1, rfl, by omega, n1, l3.g (l2.g g1)⟩
    | 1, _ => exact ⟨i2, rfl, by omega, by omega, l3.g g2⟩⟩
  repeat walk_at "py"
  refine os_whL (fun k st h' => ∃ m rs, k = n + 1 - m ∧ 2 ≤ m ∧ (m ≤ n + 1 ∨ m = 2) ∧ Le none h h' ∧ Rows h h' R pSet m rs ∧ st = [some (.int n), some (.ref R)]) (fun k st h' ⟨m, rs, ek, e2, e3, l4, rw4, e4⟩ => ?_) _ (n + 1 - 2) _ _ (by omega) ⟨2, _, rfl, Nat.le_refl _, .inr rfl, la, r0, rfl⟩
  subst e4
  repeat walk_at "py"
  refine ok_len (seqOf_lst rw4.2.1) ?_
  rw [List.length_map, rw4.1]
  repeat walk_at "py"
  refine ⟨fun e => ?_, fun e => ?_⟩
  · have e := of_decide_eq_false e
    repeat walk_at "py"
    obtain ⟨r, x1, x2, x3, x4⟩ := rw4.2.2 n (by omega)
    refine ⟨_, ix_of_nat (seqOf_lst rw4.2.1) (by rw [List.getElem?_map, x1]; rfl), ?_⟩
    exact q _ _ l4 x3 x4
  · have e := of_decide_eq_true e
    refine ⟨by omega, ?_⟩
    refine os_cons (os_expr (ok_mt (ok_var rfl ⟨⟨_, seqL_lst rw4.2.1⟩, ?_⟩)))
    repeat walk_at "py"
    obtain ⟨ra, a1, a2⟩ := rw4.last (k := 1) (i := -1) rfl (by omega) (by omega)
    refine ⟨_, a1, ?_⟩
    repeat walk_at "py"
    refine on_lst ?_
    repeat walk_at "py"
    refine ⟨⟨l4.wf, by decide⟩, fun i5 h5 l5 n5 g5 => ?_⟩
    repeat walk_at "py"
    obtain ⟨rb, b1, b2⟩ := (rw4.le l5).last (k := 2) (i := -2) rfl (by omega) (by omega)
    refine ⟨_, b1, ?_⟩
    have z1 := (pSet_len (m - 1)).1
    have z2 := (pSet_len (m - 2)).1
    refine on_catL (xs := [.int 0]) (ys := iL (pSet (m - 2))) g5 b2 l5.wf (by rw [List.length_append, List.length_map]; simp only [List.length_cons, List.length_nil]; omega) fun i6 h6 l6 n6 g6 => ?_
    repeat walk_at "py"
    refine f_added (xs := pSet (m - 1)) (ys := 0 :: pSet (m - 2)) H54 (by walk_at "gt") g6 (by omega) (by rw [List.length_cons]; omega) l6.wf fun i7 h7 l7 n7 g7 => ?_
    repeat walk_at "py"
    have rw7 := ((rw4.le l5).le l6).le l7
    have zm : rs.length ≤ 102 := by rw [rw4.1]; omega
    refine ok_append rw7.2.1 (by rw [List.length_map]; omega) ?_
    repeat walk_at "py"
    have p4 := get_lt rw4.2.1
    have p5 := l5.n
    have p6 := l6.n
    have em : addP (pSet (m - 1)) (0 :: pSet (m - 2)) = pSet m := by
      obtain ⟨j, rfl⟩ : ∃ j, m = j + 2 := ⟨m - 2, by omega⟩
      rfl
    rw [em] at g7
    have ml := l4.n
    have l8 := ((l4.trans l5).trans l6).trans l7
    exact ⟨m + 1, _, by omega, by omega, .inl (by omega), Le.set l8 hR rw7.2.1, rw7.more l7.wf (by omega) (by omega) g7, rfl⟩
theorem f_path_ends (H54 : Has P ix 54 cf_added) (H : Has P ix 57 cf_path_ends) {n : Nat} (hn : n ≤ 100) (w : Wf h) (q : ∀ i h', Le none h h' → h.n ≤ i → h'.get i = some (.lst (iL (pEnd n))) → Q (.ref i) h') : Ok (callP P 1000 (d + 2) (ix 57) [.int n] h) Q := by
  refine ok_def H rfl ?_
  repeat walk_at "py"
  refine on_lst ?_
  repeat walk_at "py"
  refine on_lst ?_
  repeat walk_at "py"
  refine ⟨⟨w, by decide⟩, fun i1 h1 l1 n1 g1 => ?_⟩
  repeat walk_at "py"
  refine on_lst ?_
  repeat walk_at "py"
  refine ⟨⟨l1.wf, by decide⟩, fun i2 h2 l2 n2 g2 => ?_⟩
  repeat walk_at "py"
  refine on_lst ?_
  repeat walk_at "py"
  refine ⟨⟨l2.wf, by decide⟩, fun i0 h0 l0 n0 g0 => ?_⟩
  repeat walk_at "py"
  refine ⟨⟨l0.wf, by simp⟩, fun R h3 l3 n3 g3 => ?_⟩
  have m1 := l1.n
  have m2 := l2.n
  have m0 := l0.n
  have m3 := l3.n
  have q1 := get_lt g1
  have q2 := get_lt g2
  have q0 := get_lt g0
  have la : Le none h h3 := by walk_at "le"
  have hR : h.n ≤ R := by omega
  have r0 : Rows h h3 R pEnd 3 [i1, i2, i0] := ⟨rfl, g3, fun j hj => by
    match j, hj with
    | 0, _ => exact ⟨i1, rfl, by omega, n1, l3.g (l0.g (l2.g g1))⟩
    | 1, _ => exact ⟨i2, rfl, by omega, by omega, l3.g (l0.g g2)⟩
    | 2, _ => exact ⟨i0, rfl, by omega, by omega, l3.g g0⟩⟩
  repeat walk_at "py"
  refine os_whL (fun k st h' => ∃ m rs, k = n + 1 - m ∧ 3 ≤ m ∧ (m ≤ n + 1 ∨ m = 3) ∧ Le none h h' ∧ Rows h h' R pEnd m rs ∧ st = [some (.int n), some (.ref R)]) (fun k st h' ⟨m, rs, ek, e2, e3, l4, rw4, e4⟩ => ?_) _ (n + 1 - 3) _ _ (by omega) ⟨3, _, rfl, Nat.le_refl _, .inr rfl, la, r0, rfl⟩
  subst e4
  repeat walk_at "py"
  refine ok_len (seqOf_lst rw4.2.1) ?_
  rw [List.length_map, rw4.1]
  repeat walk_at "py"
  refine ⟨fun e => ?_, fun e => ?_⟩
  · have e := of_decide_eq_false e
    repeat walk_at "py"
    obtain ⟨r, x1, x2, x3, x4⟩ := rw4.2.2 n (by omega)
    refine ⟨_, ix_of_nat (seqOf_lst rw4.2.1) (by rw [List.getElem?_map, x1]; rfl), ?_⟩
    exact q _ _ l4 x3 x4
  · have e := of_decide_eq_true e
    refine ⟨by omega, ?_⟩
    refine os_cons (os_expr (ok_mt (ok_var rfl ⟨⟨_, seqL_lst rw4.2.1⟩, ?_⟩)))
    repeat walk_at "py"
    refine on_lst ?_
    repeat walk_at "py"
    refine ⟨⟨l4.wf, by decide⟩, fun i5 h5 l5 n5 g5 => ?_⟩
    repeat walk_at "py"
    obtain ⟨rb, b1, b2⟩ := (rw4.le l5).last (k := 2) (i := -2) rfl (by omega) (by omega)
    refine ⟨_, b1, ?_⟩
    have z1 := (pEnd_len (m - 2)).1
    have z2 := (pEnd_len (m - 3)).1
    refine on_catL (xs := [.int 0]) (ys := iL (pEnd (m - 2))) g5 b2 l5.wf (by rw [List.length_append, List.length_map]; simp only [List.length_cons, List.length_nil]; omega) fun i6 h6 l6 n6 g6 => ?_
    repeat walk_at "py"
    refine on_lst ?_
    repeat walk_at "py"
    refine ⟨⟨l6.wf, by decide⟩, fun j5 k5 y5 t5 c5 => ?_⟩
    repeat walk_at "py"
    obtain ⟨rc, d1, d2⟩ := (((rw4.le l5).le l6).le y5).last (k := 3) (i := -3) rfl (by omega) (by omega)
    refine ⟨_, d1, ?_⟩
    refine on_catL (xs := [.int 0]) (ys := iL (pEnd (m - 3))) c5 d2 y5.wf (by rw [List.length_append, List.length_map]; simp only [List.length_cons, List.length_nil]; omega) fun j6 k6 y6 t6 c6 => ?_
    repeat walk_at "py"
    refine f_added (xs := 0 :: pEnd (m - 2)) (ys := 0 :: pEnd (m - 3)) H54 (y6.g (y5.g g6)) c6 (by rw [List.length_cons]; omega) (by rw [List.length_cons]; omega) y6.wf fun i7 h7 l7 n7 g7 => ?_
    repeat walk_at "py"
    have rw7 := ((((rw4.le l5).le l6).le y5).le y6).le l7
    have zm : rs.length ≤ 103 := by rw [rw4.1]; omega
    refine ok_append rw7.2.1 (by rw [List.length_map]; omega) ?_
    repeat walk_at "py"
    have p4 := get_lt rw4.2.1
    have p5 := l5.n
    have p6 := l6.n
    have o5 := y5.n
    have o6 := y6.n
    have em : addP (0 :: pEnd (m - 2)) (0 :: pEnd (m - 3)) = pEnd m := by
      obtain ⟨j, rfl⟩ : ∃ j, m = j + 3 := ⟨m - 3, by omega⟩
      rfl
    rw [em] at g7
    have ml := l4.n
    have l8 := ((((l4.trans l5).trans l6).trans y5).trans y6).trans l7
    exact ⟨m + 1, _, by omega, by omega, .inl (by omega), Le.set l8 hR rw7.2.1, rw7.more l7.wf (by omega) (by omega) g7, rfl⟩
end
end Pyx

set_option Elab.async false
set_option linter.all false
set_option maxRecDepth 100000
set_option maxHeartbeats 400000
namespace Pyx
open PySem L2
local macro_rules | `(tactic| walk_at "px") => `(tactic| first
  | (with_reducible refine ok_var (v := ?_) (by with_unfolding_all exact rfl) ?_)
  | with_reducible refine os_nil ?_
  | with_reducible refine os_cons ?_
  | with_reducible refine os_pass ?_
  | with_reducible refine os_retN ?_
  | with_reducible refine os_brk ?_
  | with_reducible refine os_cont ?_
  | with_reducible refine os_ret ?_
  | with_reducible refine os_expr ?_
  | with_reducible refine os_set ?_
  | with_reducible refine os_asg ?_
  | with_reducible refine os_par ?_
  | with_reducible refine os_par3 ?_
  | with_reducible refine os_setix ?_
  | with_reducible refine os_ite ?_
  | with_reducible refine os_for ?_
  | with_reducible refine os_while ?_
  | with_reducible refine ok_val ?_
  | with_reducible refine ok_bin ?_
  | with_reducible refine ok_neg ?_
  | with_reducible refine ok_cmp ?_
  | with_reducible refine ok_chain ?_
  | with_reducible refine ok_isin ?_
  | with_reducible refine ok_and ?_
  | with_reducible refine ok_or ?_
  | with_reducible refine ok_not ?_
  | with_reducible refine ok_ite ?_
  | with_reducible refine ok_tup ?_
  | with_reducible refine ok_lst ?_
  | with_reducible refine ok_call ?_
  | with_reducible refine ok_bi ?_
  | with_reducible refine ok_isi ?_
  | with_reducible refine ok_isis ?_
  | with_reducible refine ok_ix ?_
  | with_reducible refine ok_sl ?_
  | with_reducible refine ok_oN ?_
  | with_reducible refine ok_oS ?_
  | with_reducible refine ok_nil ?_
  | with_reducible refine ok_cons ?_
  | with_reducible refine ok_bval ?_
  | with_reducible refine ok_bbl ?_
  | with_reducible refine ok_bnot ?_
  | with_reducible refine ok_band ?_
  | with_reducible refine ok_bor ?_
  | with_reducible refine ok_ifN ?_
  | with_reducible refine ok_ifS ?_
  | with_reducible refine ok_rng1 ?_
  | with_reducible refine ok_rng2 ?_
  | with_reducible refine ok_over ?_
  | with_reducible refine ok_enum ?_
  | with_reducible refine ok_add ?_
  | with_reducible refine ok_sub ?_
  | (with_reducible refine ok_lc (by with_unfolding_all exact rfl) ?_)
  | with_reducible refine ⟨_, eq_int, ?_⟩
  | with_reducible refine ⟨_, ne_int, ?_⟩
  | with_reducible refine ⟨_, lt_int', ?_⟩
  | with_reducible refine ⟨_, le_int', ?_⟩
  | with_reducible refine ⟨_, gt_int', ?_⟩
  | with_reducible refine ⟨_, ge_int', ?_⟩
  | with_reducible refine ⟨_, eq_bl, ?_⟩
  | with_reducible refine ⟨_, ne_bl, ?_⟩
  | with_reducible refine ⟨_, ty_ii, ?_⟩
  | with_reducible refine ⟨_, ty_ib, ?_⟩
  | with_reducible refine ⟨_, ty_tt, ?_⟩
  | with_reducible refine ⟨_, ty_tl, ?_⟩
  | with_reducible refine ⟨_, ty_bb, ?_⟩
  | with_reducible refine ⟨_, ty_bi, ?_⟩
  | with_reducible refine ⟨_, truth_bl, ?_⟩
  | with_reducible refine ⟨_, (rfl : PV.bl _ = PV.bl _), ?_⟩
  | with_reducible refine ⟨_, (rfl : PV.int _ = PV.int _), ?_⟩
  | (with_reducible refine And.intro (Nat.le_of_ble_eq_true (by with_unfolding_all exact rfl)) ?_)
  | refine ⟨fun _ => ?_, fun e => nomatch (e : true = false)⟩
  | refine ⟨fun e => (nomatch (e : false = true)), fun _ => ?_⟩
  | refine ⟨fun e => (nomatch (e : true = false)), fun _ => ?_⟩
  | refine ⟨fun _ => ?_, fun e => nomatch (e : false = true)⟩)
local macro_rules | `(tactic| walk_at "py") => `(tactic| first
  | (with_reducible refine ok_var (v := ?_) (by with_unfolding_all exact rfl) ?_)
  | with_reducible refine os_nil ?_
  | with_reducible refine os_cons ?_
  | with_reducible refine os_pass ?_
  | with_reducible refine os_retN ?_
  | with_reducible refine os_brk ?_
  | with_reducible refine os_cont ?_
  | with_reducible refine os_ret ?_
  | with_reducible refine os_expr ?_
  | with_reducible refine os_set ?_
  | with_reducible refine os_asg ?_
  | with_reducible refine os_par ?_
  | with_reducible refine os_par3 ?_
  | with_reducible refine os_setix ?_
  | with_reducible refine os_ite ?_
  | with_reducible refine os_for ?_
  | with_reducible refine os_while ?_
  | with_reducible refine ok_val ?_
  | with_reducible refine ok_bin ?_
  | with_reducible refine ok_neg ?_
  | with_reducible refine ok_cmp ?_
  | with_reducible refine ok_chain ?_
  | with_reducible refine ok_isin ?_
  | with_reducible refine ok_and ?_
  | with_reducible refine ok_or ?_
  | with_reducible refine ok_not ?_
  | with_reducible refine ok_ite ?_
  | with_reducible refine ok_tup ?_
  | with_reducible refine ok_call ?_
  | with_reducible refine ok_bi ?_
  | with_reducible refine ok_isi ?_
  | with_reducible refine ok_isis ?_
  | with_reducible refine ok_ix ?_
  | with_reducible refine ok_sl ?_
  | with_reducible refine ok_oN ?_
  | with_reducible refine ok_oS ?_
  | with_reducible refine ok_nil ?_
  | with_reducible refine ok_cons ?_
  | with_reducible refine ok_bval ?_
  | with_reducible refine ok_bbl ?_
  | with_reducible refine ok_bnot ?_
  | with_reducible refine ok_band ?_
  | with_reducible refine ok_bor ?_
  | with_reducible refine ok_ifN ?_
  | with_reducible refine ok_ifS ?_
  | with_reducible refine ok_rng1 ?_
  | with_reducible refine ok_rng2 ?_
  | with_reducible refine ok_over ?_
  | with_reducible refine ok_enum ?_
  | with_reducible refine ok_add ?_
  | with_reducible refine ok_sub ?_
  | (with_reducible refine ok_lc (by with_unfolding_all exact rfl) ?_)
  | with_reducible refine ⟨_, eq_int, ?_⟩
  | with_reducible refine ⟨_, ne_int, ?_⟩
  | with_reducible refine ⟨_, lt_int', ?_⟩
  | with_reducible refine ⟨_, le_int', ?_⟩
  | with_reducible refine ⟨_, gt_int', ?_⟩
  | with_reducible refine ⟨_, ge_int', ?_⟩
  | with_reducible refine ⟨_, eq_bl, ?_⟩
  | with_reducible refine ⟨_, ne_bl, ?_⟩
  | with_reducible refine ⟨_, ty_ii, ?_⟩
  | with_reducible refine ⟨_, ty_ib, ?_⟩
  | with_reducible refine ⟨_, ty_tt, ?_⟩
  | with_reducible refine ⟨_, ty_tl, ?_⟩
  | with_reducible refine ⟨_, ty_bb, ?_⟩
  | with_reducible refine ⟨_, ty_bi, ?_⟩
  | with_reducible refine ⟨_, truth_bl, ?_⟩
  | with_reducible refine ⟨_, (rfl : PV.bl _ = PV.bl _), ?_⟩
  | with_reducible refine ⟨_, (rfl : PV.int _ = PV.int _), ?_⟩
  | (with_reducible refine And.intro (Nat.le_of_ble_eq_true (by with_unfolding_all exact rfl)) ?_)
  | refine ⟨fun _ => ?_, fun e => nomatch (e : true = false)⟩
  | refine ⟨fun e => (nomatch (e : false = true)), fun _ => ?_⟩
  | refine ⟨fun e => (nomatch (e : true = false)), fun _ => ?_⟩
  | refine ⟨fun _ => ?_, fun e => nomatch (e : false = true)⟩)
local macro_rules | `(tactic| walk_at "wf") => `(tactic| first
  | assumption
  | exact Le.wf (by assumption)
  | (with_reducible refine wf_push ?_; walk_at "wf")
  | (with_reducible refine wf_set ?_; walk_at "wf"))
local macro_rules | `(tactic| walk_at "gt") => `(tactic| first
  | assumption
  | with_reducible exact get_new
  | (with_reducible refine get_old ?_; walk_at "gt")
  | (with_reducible refine Le.g (by assumption) ?_; walk_at "gt"))
local macro_rules | `(tactic| walk_at "le") => `(tactic| first
  | assumption
  | with_reducible exact Le.refl (by walk_at "wf")
  | (with_reducible refine Le.p ?_; walk_at "le")
  | (with_reducible refine Le.trans ?_ (by assumption); walk_at "le"))
/-- the product of counts over runs of these lengths -/
def byT (g : Nat → List Int) (ls : List Nat) : List Int := ls.foldl (fun f m => mulP f (g m)) [1]
theorem byT_len {g : Nat → List Int} (hg : ∀ n, 1 ≤ (g n).length ∧ (g n).length ≤ n + 1) : ∀ (ls : List Nat) (f : List Int), 1 ≤ f.length → 1 ≤ (ls.foldl (fun f m => mulP f (g m)) f).length ∧ (ls.foldl (fun f m => mulP f (g m)) f).length ≤ f.length + ls.sum
  | [], f, hf => by
    rw [List.foldl_nil, List.sum_nil]
    omega
  | m :: ls, f, hf => by
    rw [List.foldl_cons, List.sum_cons]
    obtain ⟨g1, g2⟩ := hg m
    have e := mulP_len (as := f) (bs := g m)
    have := byT_len hg ls (mulP f (g m)) (by omega)
    omega
theorem byT_sum {g : Nat → List Int} (hg : ∀ n, g n ≠ []) : ∀ (ls : List Nat) (f : List Int), sumI (ls.foldl (fun f m => mulP f (g m)) f) = sumI f * (ls.map fun m => sumI (g m)).foldl (fun a b => a * b) 1
  | [], f => by
    rw [List.foldl_nil, List.map_nil, List.foldl_nil, Int.mul_one]
  | m :: ls, f => by
    rw [List.foldl_cons, byT_sum hg ls, sum_mulP _ _ (hg m), List.map_cons, List.foldl_cons, Int.one_mul]
    have key : ∀ (l : List Int) (a : Int), l.foldl (fun a b => a * b) a = a * l.foldl (fun a b => a * b) 1 := by
      intro l
      induction l with
      | nil => intro a; rw [List.foldl_nil, List.foldl_nil, Int.mul_one]
      | cons x l ih =>
        intro a
        rw [List.foldl_cons, List.foldl_cons, ih (a * x), ih (1 * x), Int.one_mul, Int.mul_assoc]
    rw [key _ (sumI (g m)), Int.mul_assoc]
/-- a list of lists of ints -/
def LLc (h : PH) (i : Nat) (fs : List (List Int)) : Prop := ∃ rs : List Nat, h.get i = some (.lst (rs.map PV.ref)) ∧ rs.length = fs.length ∧ ∀ (j : Nat) (f : List Int), fs[j]? = some f → ∃ a, rs[j]? = some a ∧ h.get a = some (.lst (iL f))
theorem LLc.le {h1 h2 : PH} {i : Nat} {fs : List (List Int)} (a : LLc h1 i fs) (l : Le none h1 h2) : LLc h2 i fs := let ⟨rs, e1, e2, e3⟩ := a; ⟨rs, l.g e1, e2, fun j f e => let ⟨b, c1, c2⟩ := e3 j f e; ⟨b, c1, l.g c2⟩⟩
theorem strs_in {L : Ln} (G : Good1 L) {f : List Int} (h : f ∈ sortT L.strs) : 2 ≤ f.length ∧ f.length ≤ 42 := by
  obtain ⟨k, hk, _, rfl⟩ := strs_mem ((sortT_perm L.strs).mem_iff.mp h)
  rw [strI_len]
  have := Ln.rl_le (L := L) L.many (k : Int)
  have := G.most
  omega
theorem ins_few {L : Ln} (G : Good1 L) : L.ins.length ≤ 40 := by
  unfold Ln.ins
  rw [List.length_map, (sortT_perm _).length_eq]
  exact strs_few G
section
variable {P : Prg} {ix : Nat → Nat} {d : Nat} {h : PH} {Q : PV → PH → Prop}
theorem f_insides (H4 : Has P ix 4 cf_held_in) (H5 : Has P ix 5 cf_flanks) (H6 : Has P ix 6 cf_is_flanked) (H7 : Has P ix 7 cf_ready_in) (H13 : Has P ix 13 cf_stretches_in) (H : Has P ix 48 cf_insides) {L : Ln} (G : Good1 L) (w : Wf h)
    (q : ∀ i h', Le none h h' → h.n ≤ i → LLc h' i L.ins → Q (.ref i) h') : Ok (callP P 1000 (d + 5) (ix 48) [L.v] h) Q := by
  have few := strs_few G
  refine ok_def H rfl ?_
  repeat walk_at "py"
  refine f_stretches_in H4 H5 H6 H7 H13 G w fun s h1 l1 hs g1 => ?_
  refine .inl ⟨_, _, rfl, seqL_lst g1, ?_⟩
  have ll : ((sortT L.strs).map tupI).length ≤ 40 := by rw [List.length_map, (sortT_perm _).length_eq]; exact few
  refine ok_lcH ((sortT L.strs).map tupI) h1 l1.wf (fun k h' l => iv_lst (p := none) g1 (by intro z; cases z) k h' l) (by omega) (fun k acc h' => ∃ rs : List Nat, acc = rs.map PV.ref ∧ rs.length = k ∧ (∀ a ∈ rs, a ≠ h1.n) ∧ ∀ (j : Nat) (f : List Int), j < k → L.ins[j]? = some f → ∃ a, rs[j]? = some a ∧ h'.get a = some (.lst (iL f))) ⟨[], rfl, rfl, (fun a e => nomatch e), fun j f e => by omega⟩
    (fun k acc h2 o u ⟨rs, i1, i2, i3, i4⟩ w2 g2 => ⟨rs, i1, i2, i3, fun j f e e2 => ?_⟩) (fun k v acc h2 e2 ⟨rs, i1, i2, i3, i4⟩ hn l2 => ?_) (fun acc h2 ⟨rs, i1, i2, i3, i4⟩ _ l2 g2 => ?_) (by omega)
  · obtain ⟨a, a1, a2⟩ := i4 j f e e2
    exact ⟨a, a1, get_of_set w2 g2 a2 (i3 a (List.mem_of_getElem? a1))⟩
  · rw [List.getElem?_map] at e2
    obtain ⟨f, ef, rfl⟩ := Option.map_eq_some_iff.mp e2
    obtain ⟨f2, f42⟩ := strs_in G (List.mem_of_getElem? ef)
    refine ⟨_, rfl, ?_⟩
    repeat walk_at "py"
    refine ⟨Le.refl l2.wf, fun e => (nomatch (e : true = false)), fun _ => ?_⟩
    repeat walk_at "py"
    have cl := cut_inn f2
    refine ok_slT (by rw [List.length_map]; omega) ?_
    repeat walk_at "py"
    have cln : (cutP (iL f) (some 1) (some (-1))).length ≤ 100000 := by rw [cl, List.length_map, inn_len]; omega
    refine ok_listOf (xs := cutP (iL f) (some 1) (some (-1))) (by rfl) cln ?_
    refine ⟨Le.push l2.wf, rs ++ [h2.n], by rw [i1, List.map_append]; rfl, by rw [List.length_append, i2]; rfl, fun a ha => ?_, fun j g hj e => ?_⟩
    · rcases List.mem_append.mp ha with z | z
      · exact i3 a z
      · rw [List.mem_singleton] at z
        omega
    · by_cases q : j < k
      · obtain ⟨a, a1, a2⟩ := i4 j g q e
        refine ⟨a, ?_, get_old a2⟩
        rw [List.getElem?_append_left (by omega)]
        exact a1
      · have ej : j = k := by omega
        subst ej
        have eg : g = inn f := by
          unfold Ln.ins at e
          rw [List.getElem?_map, ef] at e
          exact (Option.some.inj e).symm
        subst eg
        refine ⟨h2.n, ?_, ?_⟩
        · rw [List.getElem?_append_right (by omega), i2, Nat.sub_self]
          rfl
        · rw [get_new, cl]
  · refine q _ _ (l1.trans l2) (by have := l1.n; omega) ⟨rs, by rw [g2, i1], ?_, fun j f e => i4 j f ?_ e⟩
    · rw [i2]
      unfold Ln.ins
      rw [List.length_map, List.length_map]
    · have := (List.getElem?_eq_some_iff.mp e).1
      unfold Ln.ins at this
      rw [List.length_map] at this ⊢
      exact this
theorem ok_callv {call : Nat → List PV → PH → R PV} {n : Nat} {st : PSt} {h : PH} {Q : PV → PH → Prop} {i k : Nat} {es : List CE} (e0 : st[i]? = some (some (.fn k))) (q : Ok (evL (evE call n) es st h) fun vs h1 => Ok (call k vs h1) Q) : Ok (evE call (n + 1) (.callv i es) st h) Q := by
  show Ok (eCallV call (evE call n) i es st h) Q
  unfold eCallV
  rw [e0]
  dsimp only
  cases e1 : evL (evE call n) es st h with
  | stuck => rw [e1] at q; exact q
  | ok vs h1 => rw [e1] at q; exact q
/-- a def that lists counts for a path -/
def PathS (P : Prg) (d kp : Nat) (g : Nat → List Int) : Prop := ∀ {n : Nat}, n ≤ 40 → ∀ {h : PH} {Q : PV → PH → Prop}, Wf h → (∀ i h', Le none h h' → h.n ≤ i → h'.get i = some (.lst (iL (g n))) → Q (.ref i) h') → Ok (callP P 1000 d kp [.int (n : Int)] h) Q
theorem sum_ge {ls : List Nat} {m : Nat} (h : m ∈ ls) : m ≤ ls.sum := by
  induction ls with
  | nil => cases h
  | cons a ls ih =>
    rw [List.sum_cons]
    rcases List.mem_cons.mp h with z | z
    · omega
    · have := ih z
      omega
theorem f_by_turns (H4 : Has P ix 4 cf_held_in) (H5 : Has P ix 5 cf_flanks) (H6 : Has P ix 6 cf_is_flanked) (H7 : Has P ix 7 cf_ready_in) (H11 : Has P ix 11 cf_swings_in) (H13 : Has P ix 13 cf_stretches_in) (H48 : Has P ix 48 cf_insides) (H55 : Has P ix 55 cf_multiplied) (H : Has P ix 60 cf_by_turns)
    {L : Ln} (G : Good1 L) (s : L.swB = false) {kp kr : Nat} {g : Nat → List Int} (hp : PathS P (d + 5) kp g) (hg : ∀ n, 1 ≤ (g n).length ∧ (g n).length ≤ n + 1) (hw : ∀ n, n ≤ 40 → ∀ k, wide ((g n).getD k 0) = true) (w : Wf h)
    (q : ∀ i h', Le none h h' → h.n ≤ i → h'.get i = some (.lst (iL (byT g L.inL))) → Q (.ref i) h') : Ok (callP P 1000 (d + 6) (ix 60) [L.v, .fn kp, .fn kr] h) Q := by
  have h40 := G.most
  have hS : ¬ L.Swing := fun z => by rw [(Ln.swB_is G).mpr z] at s; cases s
  have sm : L.inL.sum ≤ 40 := by
    rw [inL_sum G.one hS]
    exact Nat.le_trans ready_le h40
  refine ok_def H rfl ?_
  repeat walk_at "py"
  refine f_swings_in H4 H5 H6 H7 H11 G w fun h1 l1 => ?_
  rw [s]
  repeat walk_at "py"
  refine on_lst ?_
  repeat walk_at "py"
  refine ⟨⟨l1.wf, by decide⟩, fun i2 h2 l2 n2 g2 => ?_⟩
  repeat walk_at "py"
  refine f_insides H4 H5 H6 H7 H13 H48 G l2.wf fun i3 h3 l3 n3 ⟨rs, g3, e3, k3⟩ => ?_
  refine .inl ⟨_, _, rfl, seqL_lst g3, ?_⟩
  have few := ins_few G
  have la : Le none h h3 := by walk_at "le"
  have hn := l1.n
  have hn2 := l2.n
  refine os_forL (fun k st h' => k ≤ L.ins.length ∧ Le none h3 h' ∧ ∃ F s4, h.n ≤ F ∧ h'.get F = some (.lst (iL (byT g (L.inL.take k)))) ∧ st = [some L.v, some (.fn kp), some (.fn kr), some (.ref F), s4]) L.ins.length (fun k st h' ⟨j1, j2, F, s4, j3, j4, j5⟩ => ⟨j1, ?_⟩) _ 0 _ _ (by omega) ⟨Nat.zero_le _, Le.refl l3.wf, i2, none, by omega, l3.g g2, rfl⟩
  subst j5
  rw [iv_lst (p := none) g3 (by intro z; cases z) k h' j2]
  by_cases hk : k < L.ins.length
  · obtain ⟨a, a1, a2⟩ := k3 k _ (List.getElem?_eq_getElem hk)
    rw [List.getElem?_map, a1]
    refine .inr ⟨_, _, rfl, rfl, ?_⟩
    repeat walk_at "py"
    refine ok_callv (k := kp) rfl ?_
    repeat walk_at "py"
    refine ok_len (seqOf_lst (j2.g a2)) ?_
    rw [List.length_map]
    repeat walk_at "py"
    have hm : L.inL[k]? = some (L.ins[k].length) := by
      unfold Ln.inL
      rw [List.getElem?_map, List.getElem?_eq_getElem hk]
      rfl
    generalize L.ins[k].length = m at hm
    have hm40 : m ≤ 40 := Nat.le_trans (sum_ge (List.mem_of_getElem? hm)) sm
    refine hp hm40 j2.wf fun i5 h5 l5 n5 g5 => ?_
    repeat walk_at "py"
    obtain ⟨y1, y2⟩ := hg m
    have ts : (L.inL.take k).sum ≤ 40 := by
      have e := List.sum_append (l₁ := L.inL.take k) (l₂ := L.inL.drop k)
      rw [List.take_append_drop] at e
      omega
    have bl := byT_len hg (L.inL.take k) [1] (by decide)
    have bl1 : (byT g (L.inL.take k)).length ≤ 41 := by
      have := bl.2
      have e1 : ([1] : List Int).length = 1 := rfl
      unfold byT
      omega
    refine f_multiplied (xs := byT g (L.inL.take k)) (ys := g m) H55 (l5.g j4) g5 (by omega) (by omega) y1 (hw m hm40) l5.wf fun i6 h6 l6 n6 g6 => ?_
    repeat walk_at "py"
    refine ⟨by omega, (j2.trans l5).trans l6, i6, _, by have := la.n; have := j2.n; have := l5.n; omega, ?_, rfl⟩
    rw [g6]
    have e : byT g (L.inL.take (k + 1)) = mulP (byT g (L.inL.take k)) (g m) := by
      unfold byT
      rw [List.take_add_one, hm, List.foldl_append]
      rfl
    rw [e]
  · rw [List.getElem?_eq_none (by rw [List.length_map]; omega)]
    refine .inl ⟨rfl, ?_⟩
    repeat walk_at "py"
    have ek : L.inL.take k = L.inL := by
      refine List.take_of_length_le ?_
      unfold Ln.inL
      rw [List.length_map]
      omega
    rw [ek] at j4
    exact q _ _ (la.trans j2) j3 j4
theorem f_by_turnsS (H4 : Has P ix 4 cf_held_in) (H5 : Has P ix 5 cf_flanks) (H6 : Has P ix 6 cf_is_flanked) (H7 : Has P ix 7 cf_ready_in) (H11 : Has P ix 11 cf_swings_in) (H : Has P ix 60 cf_by_turns)
    {L : Ln} (G : Good1 L) (s : L.swB = true) {kp kr : Nat} {g : List Int} (hp : ∀ {h : PH} {Q : PV → PH → Prop}, Wf h → (∀ i h', Le none h h' → h.n ≤ i → h'.get i = some (.lst (iL g)) → Q (.ref i) h') → Ok (callP P 1000 (d + 5) kr [.int (L.many : Nat)] h) Q) (w : Wf h)
    (q : ∀ i h', Le none h h' → h.n ≤ i → h'.get i = some (.lst (iL g)) → Q (.ref i) h') : Ok (callP P 1000 (d + 6) (ix 60) [L.v, .fn kp, .fn kr] h) Q := by
  have h40 := G.most
  refine ok_def H rfl ?_
  repeat walk_at "py"
  refine f_swings_in H4 H5 H6 H7 H11 G w fun h1 l1 => ?_
  rw [s]
  repeat walk_at "py"
  refine ok_callv (k := kr) rfl ?_
  repeat walk_at "py"
  refine ⟨_, rfl, ?_⟩
  repeat walk_at "py"
  refine ok_len (xs := iL L.cells) (by rfl) ?_
  rw [List.length_map]
  repeat walk_at "py"
  exact hp l1.wf fun i h2 l2 n2 g2 => q i h2 (l1.trans l2) (by have := l1.n; omega) g2
theorem ok_sumL {a : Nat} {is : List Int} (e : h.get a = some (.lst (iL is))) (q : Q (.int (sumI is)) h) : Ok (biP .sum [.ref a] h) Q := by
  unfold biP intsOf
  dsimp only
  rw [seqOf_lst e]
  dsimp only
  rw [intsP_ints]
  exact q
theorem ok_sumT {is : List Int} (q : Q (.int (sumI is)) h) : Ok (biP .sum [.tup (iL is)] h) Q := by
  unfold biP intsOf
  dsimp only
  rw [show seqOf (.tup (iL is)) h = some (iL is) from rfl]
  dsimp only
  rw [intsP_ints]
  exact q
theorem on_sortedT {is : List Int} (w : Wf h) (z : is.length ≤ 100000) (q : ∀ i h', Le none h h' → h.n ≤ i → h'.get i = some (.lst (iL (sortI is))) → Q (.ref i) h') : Ok (biP .sorted [.tup (iL is)] h) Q := by
  unfold biP
  dsimp only
  rw [show setOf (.tup (iL is)) h = none from rfl]
  dsimp only
  unfold intsOf
  rw [show seqOf (.tup (iL is)) h = some (iL is) from rfl]
  dsimp only
  rw [intsP_ints]
  dsimp only
  unfold okL small
  have hl : (iL (sortI is)).length ≤ 100000 := by
    rw [List.length_map, (sortI_perm _).length_eq]
    exact z
  rw [Nat.ble_eq_true_of_le hl]
  exact q _ _ (Le.push w) (Nat.le_refl _) get_new
theorem wide_in {m : Int} {a : List Int} (h : InR m a) (h0 : 0 ≤ m) (h1 : m < 18446744073709551616) (k : Nat) : wide (a.getD k 0) = true := by
  have := h.at h0 k
  exact wide_of (by omega) (by omega)
theorem pw40 : pw2 40 < 18446744073709551616 := by decide
theorem pEnd_wide {n : Nat} (h : n ≤ 40) (k : Nat) : wide ((pEnd n).getD k 0) = true := wide_in (pEnd_in n) (by have := pw2_pos n; omega) (by have := pw2_le h; have := pw40; omega) k
theorem pSet_wide {n : Nat} (h : n ≤ 40) (k : Nat) : wide ((pSet n).getD k 0) = true := wide_in (pSet_in n) (by have := pw2_pos n; omega) (by have := pw2_le h; have := pw40; omega) k
theorem one_le {a : List Int} (h : a ≠ []) : 1 ≤ a.length := by
  cases a with
  | nil => exact absurd rfl h
  | cons _ _ => simp
theorem pEnd_one (n : Nat) : 1 ≤ (pEnd n).length ∧ (pEnd n).length ≤ n + 1 := ⟨one_le (pEnd_len n).2, (pEnd_len n).1⟩
theorem pSet_one (n : Nat) : 1 ≤ (pSet n).length ∧ (pSet n).length ≤ n + 1 := ⟨one_le (pSet_len n).2, (pSet_len n).1⟩
theorem path_pEnd (H54 : Has P ix 54 cf_added) (H57 : Has P ix 57 cf_path_ends) : PathS P (d + 2) (ix 57) pEnd := fun hn _ _ w q => f_path_ends H54 H57 (by omega) w q
theorem path_pSet (H54 : Has P ix 54 cf_added) (H56 : Has P ix 56 cf_path_sets) : PathS P (d + 2) (ix 56) pSet := fun hn _ _ w q => f_path_sets H54 H56 (by omega) w q
/-- how many ends a line has that does not swing -/
def Ln.endN (L : Ln) : Int := sumI (byT pEnd L.inL)
def Ln.comeN (L : Ln) : Int := sumI (byT pSet L.inL)
theorem f_end_count (H0 : Has P ix 0 cf_is_in) (H2 : Has P ix 2 cf_is_cells) (H1 : Has P ix 1 cf_need_line) (H4 : Has P ix 4 cf_held_in) (H5 : Has P ix 5 cf_flanks) (H6 : Has P ix 6 cf_is_flanked) (H7 : Has P ix 7 cf_ready_in) (H11 : Has P ix 11 cf_swings_in) (H13 : Has P ix 13 cf_stretches_in) (H48 : Has P ix 48 cf_insides) (H54 : Has P ix 54 cf_added) (H55 : Has P ix 55 cf_multiplied) (H57 : Has P ix 57 cf_path_ends) (H60 : Has P ix 60 cf_by_turns) (H : Has P ix 65 cf_end_count)
    {L : Ln} (G : Good1 L) (s : L.swB = false) (w : Wf h) (q : ∀ h', Le none h h' → Q (.int L.endN) h') : Ok (callP P 1000 (d + 7) (ix 65) [L.v] h) Q := by
  refine ok_def H rfl ?_
  repeat walk_at "py"
  refine f_need_line H0 H2 H1 G w fun h1 l1 => ?_
  repeat walk_at "py"
  refine f_by_turns H4 H5 H6 H7 H11 H13 H48 H55 H60 G s (path_pEnd H54 H57) pEnd_one (fun n hn k => pEnd_wide hn k) l1.wf fun i h2 l2 n2 g2 => ?_
  repeat walk_at "py"
  exact ok_sumL g2 (q _ (l1.trans l2))
theorem f_come_count (H0 : Has P ix 0 cf_is_in) (H2 : Has P ix 2 cf_is_cells) (H1 : Has P ix 1 cf_need_line) (H4 : Has P ix 4 cf_held_in) (H5 : Has P ix 5 cf_flanks) (H6 : Has P ix 6 cf_is_flanked) (H7 : Has P ix 7 cf_ready_in) (H11 : Has P ix 11 cf_swings_in) (H13 : Has P ix 13 cf_stretches_in) (H48 : Has P ix 48 cf_insides) (H54 : Has P ix 54 cf_added) (H55 : Has P ix 55 cf_multiplied) (H56 : Has P ix 56 cf_path_sets) (H60 : Has P ix 60 cf_by_turns) (H : Has P ix 64 cf_come_count)
    {L : Ln} (G : Good1 L) (s : L.swB = false) (w : Wf h) (q : ∀ h', Le none h h' → Q (.int L.comeN) h') : Ok (callP P 1000 (d + 7) (ix 64) [L.v] h) Q := by
  refine ok_def H rfl ?_
  repeat walk_at "py"
  refine f_need_line H0 H2 H1 G w fun h1 l1 => ?_
  repeat walk_at "py"
  refine f_by_turns H4 H5 H6 H7 H11 H13 H48 H55 H60 G s (path_pSet H54 H56) pSet_one (fun n hn k => pSet_wide hn k) l1.wf fun i h2 l2 n2 g2 => ?_
  repeat walk_at "py"
  exact ok_sumL g2 (q _ (l1.trans l2))
theorem swB_ring {L : Ln} (s : L.swB = true) : L.ring = true := by
  unfold Ln.swB at s
  rw [Bool.and_eq_true] at s
  exact s.1
end
end Pyx

set_option Elab.async false
set_option linter.all false
set_option maxRecDepth 100000
set_option maxHeartbeats 400000
namespace Pyx
open PySem L2
local macro_rules | `(tactic| walk_at "px") => `(tactic| first
  | (with_reducible refine ok_var (v := ?_) (by with_unfolding_all exact rfl) ?_)
  | with_reducible refine os_nil ?_
  | with_reducible refine os_cons ?_
  | with_reducible refine os_pass ?_
  | with_reducible refine os_retN ?_
  | with_reducible refine os_brk ?_
  | with_reducible refine os_cont ?_
  | with_reducible refine os_ret ?_
  | with_reducible refine os_expr ?_
  | with_reducible refine os_set ?_
  | with_reducible refine os_asg ?_
  | with_reducible refine os_par ?_
  | with_reducible refine os_par3 ?_
  | with_reducible refine os_setix ?_
  | with_reducible refine os_ite ?_
  | with_reducible refine os_for ?_
  | with_reducible refine os_while ?_
  | with_reducible refine ok_val ?_
  | with_reducible refine ok_bin ?_
  | with_reducible refine ok_neg ?_
  | with_reducible refine ok_cmp ?_
  | with_reducible refine ok_chain ?_
  | with_reducible refine ok_isin ?_
  | with_reducible refine ok_and ?_
  | with_reducible refine ok_or ?_
  | with_reducible refine ok_not ?_
  | with_reducible refine ok_ite ?_
  | with_reducible refine ok_tup ?_
  | with_reducible refine ok_lst ?_
  | with_reducible refine ok_call ?_
  | with_reducible refine ok_bi ?_
  | with_reducible refine ok_isi ?_
  | with_reducible refine ok_isis ?_
  | with_reducible refine ok_ix ?_
  | with_reducible refine ok_sl ?_
  | with_reducible refine ok_oN ?_
  | with_reducible refine ok_oS ?_
  | with_reducible refine ok_nil ?_
  | with_reducible refine ok_cons ?_
  | with_reducible refine ok_bval ?_
  | with_reducible refine ok_bbl ?_
  | with_reducible refine ok_bnot ?_
  | with_reducible refine ok_band ?_
  | with_reducible refine ok_bor ?_
  | with_reducible refine ok_ifN ?_
  | with_reducible refine ok_ifS ?_
  | with_reducible refine ok_rng1 ?_
  | with_reducible refine ok_rng2 ?_
  | with_reducible refine ok_over ?_
  | with_reducible refine ok_enum ?_
  | with_reducible refine ok_add ?_
  | with_reducible refine ok_sub ?_
  | (with_reducible refine ok_lc (by with_unfolding_all exact rfl) ?_)
  | with_reducible refine ⟨_, eq_int, ?_⟩
  | with_reducible refine ⟨_, ne_int, ?_⟩
  | with_reducible refine ⟨_, lt_int', ?_⟩
  | with_reducible refine ⟨_, le_int', ?_⟩
  | with_reducible refine ⟨_, gt_int', ?_⟩
  | with_reducible refine ⟨_, ge_int', ?_⟩
  | with_reducible refine ⟨_, eq_bl, ?_⟩
  | with_reducible refine ⟨_, ne_bl, ?_⟩
  | with_reducible refine ⟨_, ty_ii, ?_⟩
  | with_reducible refine ⟨_, ty_ib, ?_⟩
  | with_reducible refine ⟨_, ty_tt, ?_⟩
  | with_reducible refine ⟨_, ty_tl, ?_⟩
  | with_reducible refine ⟨_, ty_bb, ?_⟩
  | with_reducible refine ⟨_, ty_bi, ?_⟩
  | with_reducible refine ⟨_, truth_bl, ?_⟩
  | with_reducible refine ⟨_, (rfl : PV.bl _ = PV.bl _), ?_⟩
  | with_reducible refine ⟨_, (rfl : PV.int _ = PV.int _), ?_⟩
  | (with_reducible refine And.intro (Nat.le_of_ble_eq_true (by with_unfolding_all exact rfl)) ?_)
  | refine ⟨fun _ => ?_, fun e => nomatch (e : true = false)⟩
  | refine ⟨fun e => (nomatch (e : false = true)), fun _ => ?_⟩
  | refine ⟨fun e => (nomatch (e : true = false)), fun _ => ?_⟩
  | refine ⟨fun _ => ?_, fun e => nomatch (e : false = true)⟩)
local macro_rules | `(tactic| walk_at "py") => `(tactic| first
  | (with_reducible refine ok_var (v := ?_) (by with_unfolding_all exact rfl) ?_)
  | with_reducible refine os_nil ?_
  | with_reducible refine os_cons ?_
  | with_reducible refine os_pass ?_
  | with_reducible refine os_retN ?_
  | with_reducible refine os_brk ?_
  | with_reducible refine os_cont ?_
  | with_reducible refine os_ret ?_
  | with_reducible refine os_expr ?_
  | with_reducible refine os_set ?_
  | with_reducible refine os_asg ?_
  | with_reducible refine os_par ?_
  | with_reducible refine os_par3 ?_
  | with_reducible refine os_setix ?_
  | with_reducible refine os_ite ?_
  | with_reducible refine os_for ?_
  | with_reducible refine os_while ?_
  | with_reducible refine ok_val ?_
  | with_reducible refine ok_bin ?_
  | with_reducible refine ok_neg ?_
  | with_reducible refine ok_cmp ?_
  | with_reducible refine ok_chain ?_
  | with_reducible refine ok_isin ?_
  | with_reducible refine ok_and ?_
  | with_reducible refine ok_or ?_
  | with_reducible refine ok_not ?_
  | with_reducible refine ok_ite ?_
  | with_reducible refine ok_tup ?_
  | with_reducible refine ok_call ?_
  | with_reducible refine ok_bi ?_
  | with_reducible refine ok_isi ?_
  | with_reducible refine ok_isis ?_
  | with_reducible refine ok_ix ?_
  | with_reducible refine ok_sl ?_
  | with_reducible refine ok_oN ?_
  | with_reducible refine ok_oS ?_
  | with_reducible refine ok_nil ?_
  | with_reducible refine ok_cons ?_
  | with_reducible refine ok_bval ?_
  | with_reducible refine ok_bbl ?_
  | with_reducible refine ok_bnot ?_
  | with_reducible refine ok_band ?_
  | with_reducible refine ok_bor ?_
  | with_reducible refine ok_ifN ?_
  | with_reducible refine ok_ifS ?_
  | with_reducible refine ok_rng1 ?_
  | with_reducible refine ok_rng2 ?_
  | with_reducible refine ok_over ?_
  | with_reducible refine ok_enum ?_
  | with_reducible refine ok_add ?_
  | with_reducible refine ok_sub ?_
  | (with_reducible refine ok_lc (by with_unfolding_all exact rfl) ?_)
  | with_reducible refine ⟨_, eq_int, ?_⟩
  | with_reducible refine ⟨_, ne_int, ?_⟩
  | with_reducible refine ⟨_, lt_int', ?_⟩
  | with_reducible refine ⟨_, le_int', ?_⟩
  | with_reducible refine ⟨_, gt_int', ?_⟩
  | with_reducible refine ⟨_, ge_int', ?_⟩
  | with_reducible refine ⟨_, eq_bl, ?_⟩
  | with_reducible refine ⟨_, ne_bl, ?_⟩
  | with_reducible refine ⟨_, ty_ii, ?_⟩
  | with_reducible refine ⟨_, ty_ib, ?_⟩
  | with_reducible refine ⟨_, ty_tt, ?_⟩
  | with_reducible refine ⟨_, ty_tl, ?_⟩
  | with_reducible refine ⟨_, ty_bb, ?_⟩
  | with_reducible refine ⟨_, ty_bi, ?_⟩
  | with_reducible refine ⟨_, truth_bl, ?_⟩
  | with_reducible refine ⟨_, (rfl : PV.bl _ = PV.bl _), ?_⟩
  | with_reducible refine ⟨_, (rfl : PV.int _ = PV.int _), ?_⟩
  | (with_reducible refine And.intro (Nat.le_of_ble_eq_true (by with_unfolding_all exact rfl)) ?_)
  | refine ⟨fun _ => ?_, fun e => nomatch (e : true = false)⟩
  | refine ⟨fun e => (nomatch (e : false = true)), fun _ => ?_⟩
  | refine ⟨fun e => (nomatch (e : true = false)), fun _ => ?_⟩
  | refine ⟨fun _ => ?_, fun e => nomatch (e : false = true)⟩)
local macro_rules | `(tactic| walk_at "wf") => `(tactic| first
  | assumption
  | exact Le.wf (by assumption)
  | (with_reducible refine wf_push ?_; walk_at "wf")
  | (with_reducible refine wf_set ?_; walk_at "wf"))
local macro_rules | `(tactic| walk_at "gt") => `(tactic| first
  | assumption
  | with_reducible exact get_new
  | (with_reducible refine get_old ?_; walk_at "gt")
  | (with_reducible refine Le.g (by assumption) ?_; walk_at "gt"))
local macro_rules | `(tactic| walk_at "le") => `(tactic| first
  | assumption
  | with_reducible exact Le.refl (by walk_at "wf")
  | (with_reducible refine Le.p ?_; walk_at "le")
  | (with_reducible refine Le.trans ?_ (by assumption); walk_at "le"))
/-! ### colours that come one at a time -/
def Ln.lfN (L : Ln) (k : Nat) : Nat := (((k : Int) - 1) % (L.many : Int)).toNat
def Ln.rtN (L : Ln) (k : Nat) : Nat := (((k : Int) + 1) % (L.many : Int)).toNat
theorem lfN_is {L : Ln} (h0 : 1 ≤ L.many) (k : Nat) : ((k : Int) - 1) % (L.many : Int) = ((L.lfN k : Nat) : Int) := (Int.toNat_of_nonneg (Int.emod_nonneg _ (by omega))).symm
theorem rtN_is {L : Ln} (h0 : 1 ≤ L.many) (k : Nat) : ((k : Int) + 1) % (L.many : Int) = ((L.rtN k : Nat) : Int) := (Int.toNat_of_nonneg (Int.emod_nonneg _ (by omega))).symm
/-- the cells with other colours -/
def Ln.chd (L : Ln) (cs : List Int) : List Nat := (List.range L.many).filter fun k => decide (¬ cs.getD k 0 = L.at k)
def Ln.okc (L : Ln) (cs : List Int) (k : Nat) : Bool := decide (cs.getD k 0 = L.at k) || (decide (k ∈ L.readyN) && decide (cs.getD k 0 = L.at ((k : Int) - 1)))
/-- no two neighbours -/
def Ln.ap (L : Ln) (ks : List Nat) : Bool := ks.all fun k => !decide (L.lfN k ∈ ks)
/-- the colours can come -/
def Ln.tcB (L : Ln) (cs : List Int) : Bool := (List.range L.many).all (L.okc cs) && L.ap (L.chd cs)
/-- none can be added -/
def Ln.full (L : Ln) (ks : List Nat) : Bool := L.readyN.all fun k => decide (k ∈ ks) || (decide (L.lfN k ∈ ks) || decide (L.rtN k ∈ ks))
def factN : Nat → Int
  | 0 => 1
  | n + 1 => factN n * ((n : Int) + 1)
section
variable {P : Prg} {ix : Nat → Nat} {d : Nat} {h : PH} {Q : PV → PH → Prop}
theorem cs_at {cs : List Int} {k : Nat} (hk : k < cs.length) : ixP (.tup (iL cs)) (.int (k : Int)) h = some (.int (cs.getD k 0)) := ix_of_nat (by rfl) (iL_at hk)
theorem chd_step {L : Ln} {cs : List Int} (k : Nat) : nL ((List.range (k + 1)).filter fun k => decide (¬ cs.getD k 0 = L.at k)) = nL ((List.range k).filter fun k => decide (¬ cs.getD k 0 = L.at k)) ++ (if cs.getD k 0 = L.at k then [] else [.int (k : Int)]) := by
  unfold nL
  rw [filter_step (fun k => decide (¬ cs.getD k 0 = L.at k)) (fun k => PV.int ((k : Nat) : Int)) k]
  by_cases e : cs.getD k 0 = L.at k
  · rw [if_pos e, if_neg (by simpa using e)]
  · rw [if_neg e, if_pos (by simpa using e)]
theorem f_turned_cells (H4 : Has P ix 4 cf_held_in) (H5 : Has P ix 5 cf_flanks) (H6 : Has P ix 6 cf_is_flanked) (H7 : Has P ix 7 cf_ready_in) (H : Has P ix 49 cf_turned_cells) {L : Ln} (G : Good1 L) {cs : List Int} (hl : cs.length = L.many) (w : Wf h)
    (q : ∀ v h', Le none h h' → ((L.tcB cs = false ∧ v = .non) ∨ (L.tcB cs = true ∧ ∃ i, v = .ref i ∧ h.n ≤ i ∧ h'.get i = some (.lst (nL (L.chd cs))))) → Q v h') : Ok (callP P 1000 (d + 4) (ix 49) [L.v, .tup (iL cs)] h) Q := by
  have h40 := G.most
  have h1 := G.one
  refine ok_def H rfl ?_
  repeat walk_at "py"
  refine f_ready_in H4 H5 H6 H7 G w fun r h1 l1 hr g1 => ?_
  rw [ready_nL] at g1
  repeat walk_at "py"
  refine ⟨_, rfl, ?_⟩
  repeat walk_at "py"
  refine ok_len (xs := iL L.cells) (by rfl) ?_
  rw [List.length_map, show L.cells.length = L.many from rfl]
  repeat walk_at "py"
  refine on_lst ?_
  repeat walk_at "py"
  refine ⟨⟨l1.wf, by decide⟩, fun F h2 l2 n2 g2 => ?_⟩
  repeat walk_at "py"
  refine ⟨⟨by omega, by omega⟩, ?_⟩
  rw [Int.toNat_natCast]
  have la : Le none h h2 := l1.trans l2
  have hF : h1.n ≤ F := n2
  have hrF : r ≠ F := fun z => by have := get_lt g1; omega
  have m1 := l1.n
  refine os_forL (fun k st h' => k ≤ L.many ∧ Le none h1 h' ∧ h'.get F = some (.lst (nL ((List.range k).filter fun k => decide (¬ cs.getD k 0 = L.at k)))) ∧ (∀ j, j < k → L.okc cs j = true) ∧ ∃ s5, st = [some L.v, some (.tup (iL cs)), some (.ref r), some (.int (L.many : Nat)), some (.ref F), s5]) L.many (fun k st h' ⟨j1, j2, j3, j4, s5, j5⟩ => ⟨j1, ?_⟩) _ 0 _ _ (by omega) ⟨Nat.zero_le _, l2, g2, fun j hj => by omega, none, rfl⟩
  subst j5
  rw [iv_rng]
  by_cases hk : k < L.many
  · have e : (rng 0 L.many)[k]? = some (.int (k : Nat)) := by
      unfold rng
      rw [List.getElem?_map, List.getElem?_range hk]
      show some (PV.int (0 + (k : Nat))) = _
      rw [Int.zero_add]
    rw [e]
    refine .inr ⟨_, _, rfl, rfl, ?_⟩
    repeat walk_at "py"
    refine ⟨_, cs_at (by omega), ?_⟩
    repeat walk_at "py"
    refine ⟨_, rfl, ?_⟩
    repeat walk_at "py"
    refine ⟨_, at_small hk, ?_⟩
    by_cases ec : cs.getD k 0 = L.at k
    · refine ⟨_, ne_intE ec, ?_⟩
      repeat walk_at "py"
      refine ⟨hk, j2, ?_, fun j hj => ?_, _, rfl⟩
      · rw [chd_step, if_pos ec, List.append_nil]
        exact j3
      · by_cases z : j < k
        · exact j4 j z
        · have ej : j = k := by omega
          subst ej
          unfold Ln.okc
          rw [decide_eq_true ec]
          rfl
    · refine ⟨_, ne_intN ec, ?_⟩
      repeat walk_at "py"
      refine ⟨_, in_nL (seqOf_lst (j2.g g1)), ?_⟩
      have bad : (List.range L.many).all (L.okc cs) = true → k ∈ L.readyN ∧ cs.getD k 0 = L.at ((k : Int) - 1) := fun z => by
        have := List.all_eq_true.mp z k (List.mem_range.mpr hk)
        unfold Ln.okc at this
        rw [decide_eq_false ec, Bool.false_or, Bool.and_eq_true, decide_eq_true_eq, decide_eq_true_eq] at this
        exact this
      by_cases er : k ∈ L.readyN
      · rw [decide_eq_true er]
        repeat walk_at "py"
        refine ⟨_, cs_at (by omega), ?_⟩
        repeat walk_at "py"
        refine ⟨_, rfl, ?_⟩
        repeat walk_at "py"
        refine ⟨_, at_pred hk, ?_⟩
        by_cases eb : cs.getD k 0 = L.at ((k : Int) - 1)
        · refine ⟨_, ne_intE eb, ?_⟩
          repeat walk_at "py"
          refine ok_mt (ok_var rfl ⟨⟨_, seqL_lst j3⟩, ?_⟩)
          repeat walk_at "py"
          have fl : ((List.range k).filter fun k => decide (¬ cs.getD k 0 = L.at k)).length ≤ k := by
            have := List.length_filter_le (fun k => decide (¬ cs.getD k 0 = L.at k)) (List.range k)
            rw [List.length_range] at this
            exact this
          refine ok_append j3 (by rw [nL_len]; omega) ?_
          repeat walk_at "py"
          refine ⟨hk, Le.set j2 hF j3, ?_, fun j hj => ?_, _, rfl⟩
          · rw [get_at_set j2.wf j3, chd_step, if_neg ec]
          · by_cases z : j < k
            · exact j4 j z
            · have ej : j = k := by omega
              subst ej
              unfold Ln.okc
              rw [decide_eq_false ec, decide_eq_true er, decide_eq_true eb]
              rfl
        · refine ⟨_, ne_intN eb, ?_⟩
          repeat walk_at "py"
          refine q _ _ (l1.trans j2) (.inl ⟨?_, rfl⟩)
          unfold Ln.tcB
          cases z : (List.range L.many).all (L.okc cs) with
          | false => rfl
          | true => exact absurd (bad z).2 eb
      · rw [decide_eq_false er]
        repeat walk_at "py"
        refine q _ _ (l1.trans j2) (.inl ⟨?_, rfl⟩)
        unfold Ln.tcB
        cases z : (List.range L.many).all (L.okc cs) with
        | false => rfl
        | true => exact absurd (bad z).1 er
  · have ek : k = L.many := by omega
    subst ek
    have e : (rng 0 L.many)[L.many]? = none := List.getElem?_eq_none (by rw [rng_len]; omega)
    rw [e]
    refine .inl ⟨rfl, ?_⟩
    have all : (List.range L.many).all (L.okc cs) = true := List.all_eq_true.mpr fun j hj => j4 j (List.mem_range.mp hj)
    have j3 : h'.get F = some (.lst (nL (L.chd cs))) := j3
    repeat walk_at "py"
    refine .inl ⟨F, _, rfl, seqL_lst j3, ?_⟩
    have cl : (L.chd cs).length ≤ L.many := by
      have := List.length_filter_le (fun k => decide (¬ cs.getD k 0 = L.at k)) (List.range L.many)
      rw [List.length_range] at this
      exact this
    refine os_forL (fun k st h'' => k ≤ (L.chd cs).length ∧ Le none h' h'' ∧ (∀ x ∈ (L.chd cs).take k, ¬ L.lfN x ∈ L.chd cs) ∧ ∃ s5, st = [some L.v, some (.tup (iL cs)), some (.ref r), some (.int (L.many : Nat)), some (.ref F), s5]) (L.chd cs).length (fun k st h'' ⟨i1, i2, i3, s5, i4⟩ => ⟨i1, ?_⟩) _ 0 _ _ (by omega) ⟨Nat.zero_le _, Le.refl j2.wf, fun x hx => by simp at hx, _, rfl⟩
    subst i4
    rw [iv_lst (p := none) j3 (by intro z; cases z) k h'' i2]
    unfold nL
    rw [List.getElem?_map]
    cases ek : (L.chd cs)[k]? with
    | none =>
      refine .inl ⟨rfl, ?_⟩
      have all2 : L.ap (L.chd cs) = true := List.all_eq_true.mpr fun x hx => by
        rw [List.take_of_length_le (List.getElem?_eq_none_iff.mp ek)] at i3
        rw [decide_eq_false (i3 x hx)]
        rfl
      repeat walk_at "py"
      refine q _ _ ((l1.trans j2).trans i2) (.inr ⟨by unfold Ln.tcB; rw [all, all2]; rfl, F, rfl, by omega, i2.g j3⟩)
    | some x =>
      refine .inr ⟨_, _, rfl, rfl, ?_⟩
      repeat walk_at "py"
      refine f_flanks H5 (by omega) ?_
      rw [lfN_is G.one]
      repeat walk_at "py"
      refine ⟨_, rfl, ?_⟩
      repeat walk_at "py"
      refine ⟨_, in_nL (seqOf_lst (i2.g j3)), ?_⟩
      by_cases ex : L.lfN x ∈ L.chd cs
      · rw [decide_eq_true ex]
        repeat walk_at "py"
        refine q _ _ ((l1.trans j2).trans i2) (.inl ⟨?_, rfl⟩)
        unfold Ln.tcB
        rw [all, Bool.true_and]
        cases z : L.ap (L.chd cs) with
        | false => rfl
        | true =>
          have := List.all_eq_true.mp z x (List.mem_of_getElem? ek)
          rw [decide_eq_true ex] at this
          cases this
      · rw [decide_eq_false ex]
        repeat walk_at "py"
        refine ⟨(List.getElem?_eq_some_iff.mp ek).1, i2, fun y hy => ?_, _, rfl⟩
        rw [List.take_add_one, ek] at hy
        rcases List.mem_append.mp hy with z | z
        · exact i3 y z
        · have : y = x := by simpa using z
          subst this
          exact ex
theorem f_is_full (H4 : Has P ix 4 cf_held_in) (H5 : Has P ix 5 cf_flanks) (H6 : Has P ix 6 cf_is_flanked) (H7 : Has P ix 7 cf_ready_in) (H : Has P ix 50 cf_is_full) {L : Ln} (G : Good1 L) {F : Nat} {ks : List Nat} (gF : h.get F = some (.lst (nL ks))) (w : Wf h)
    (q : ∀ h', Le none h h' → Q (.bl (L.full ks)) h') : Ok (callP P 1000 (d + 4) (ix 50) [L.v, .ref F] h) Q := by
  have h40 := G.most
  have h1 := G.one
  refine ok_def H rfl ?_
  repeat walk_at "py"
  refine ⟨_, rfl, ?_⟩
  repeat walk_at "py"
  refine ok_len (xs := iL L.cells) (by rfl) ?_
  rw [List.length_map, show L.cells.length = L.many from rfl]
  repeat walk_at "py"
  refine f_ready_in H4 H5 H6 H7 G w fun r h1 l1 hr g1 => ?_
  rw [ready_nL] at g1
  refine .inl ⟨r, _, rfl, seqL_lst g1, ?_⟩
  have rl : L.readyN.length ≤ L.many := ready_le
  refine os_forL (fun k st h' => k ≤ L.readyN.length ∧ Le none h1 h' ∧ (∀ x ∈ L.readyN.take k, (decide (x ∈ ks) || (decide (L.lfN x ∈ ks) || decide (L.rtN x ∈ ks))) = true) ∧ ∃ s3 s4 s5, st = [some L.v, some (.ref F), some (.int (L.many : Nat)), s3, s4, s5]) L.readyN.length (fun k st h' ⟨i1, i2, i3, s3, s4, s5, i4⟩ => ⟨i1, ?_⟩) _ 0 _ _ (by omega) ⟨Nat.zero_le _, Le.refl l1.wf, fun x hx => by simp at hx, _, _, _, rfl⟩
  subst i4
  rw [iv_lst (p := none) g1 (by intro z; cases z) k h' i2]
  unfold nL
  rw [List.getElem?_map]
  cases ek : L.readyN[k]? with
  | none =>
    refine .inl ⟨rfl, ?_⟩
    repeat walk_at "py"
    have e : L.full ks = true := List.all_eq_true.mpr fun x hx => by
      rw [List.take_of_length_le (List.getElem?_eq_none_iff.mp ek)] at i3
      exact i3 x hx
    have := q _ (l1.trans i2)
    rw [e] at this
    exact this
  | some x =>
    refine .inr ⟨_, _, rfl, rfl, ?_⟩
    repeat walk_at "py"
    refine f_flanks H5 (by omega) ?_
    rw [lfN_is G.one, rtN_is G.one]
    refine ⟨_, rfl, ?_⟩
    repeat walk_at "py"
    have step : (decide (x ∈ ks) || (decide (L.lfN x ∈ ks) || decide (L.rtN x ∈ ks))) = true → ∀ y ∈ L.readyN.take (k + 1), (decide (y ∈ ks) || (decide (L.lfN y ∈ ks) || decide (L.rtN y ∈ ks))) = true := fun e y hy => by
      rw [List.take_add_one, ek] at hy
      rcases List.mem_append.mp hy with z | z
      · exact i3 y z
      · have : y = x := by simpa using z
        subst this
        exact e
    have kl := (List.getElem?_eq_some_iff.mp ek).1
    have sF := seqOf_lst (i2.g (l1.g gF))
    refine ⟨_, in_nL sF, ?_⟩
    by_cases e1 : x ∈ ks
    · rw [decide_eq_true e1]
      repeat walk_at "py"
      exact ⟨kl, i2, step (by rw [decide_eq_true e1]; rfl), _, _, _, rfl⟩
    · rw [decide_eq_false e1]
      repeat walk_at "py"
      refine ⟨_, in_nL sF, ?_⟩
      by_cases e2 : L.lfN x ∈ ks
      · rw [decide_eq_true e2]
        repeat walk_at "py"
        exact ⟨kl, i2, step (by rw [decide_eq_true e2, decide_eq_false e1]; rfl), _, _, _, rfl⟩
      · rw [decide_eq_false e2]
        repeat walk_at "py"
        refine ⟨_, in_nL sF, ?_⟩
        by_cases e3 : L.rtN x ∈ ks
        · rw [decide_eq_true e3]
          repeat walk_at "py"
          exact ⟨kl, i2, step (by rw [decide_eq_true e3, decide_eq_false e1, decide_eq_false e2]; rfl), _, _, _, rfl⟩
        · rw [decide_eq_false e3]
          repeat walk_at "py"
          have e : L.full ks = false := by
            cases z : L.full ks with
            | false => rfl
            | true =>
              have := List.all_eq_true.mp z x (List.mem_of_getElem? ek)
              rw [decide_eq_false e1, decide_eq_false e2, decide_eq_false e3] at this
              cases this
          have := q _ (l1.trans i2)
          rw [e] at this
          exact this
end
end Pyx

set_option Elab.async false
set_option linter.all false
set_option maxRecDepth 100000
set_option maxHeartbeats 400000
namespace Pyx
open PySem L2
local macro_rules | `(tactic| walk_at "px") => `(tactic| first
  | (with_reducible refine ok_var (v := ?_) (by with_unfolding_all exact rfl) ?_)
  | with_reducible refine os_nil ?_
  | with_reducible refine os_cons ?_
  | with_reducible refine os_pass ?_
  | with_reducible refine os_retN ?_
  | with_reducible refine os_brk ?_
  | with_reducible refine os_cont ?_
  | with_reducible refine os_ret ?_
  | with_reducible refine os_expr ?_
  | with_reducible refine os_set ?_
  | with_reducible refine os_asg ?_
  | with_reducible refine os_par ?_
  | with_reducible refine os_par3 ?_
  | with_reducible refine os_setix ?_
  | with_reducible refine os_ite ?_
  | with_reducible refine os_for ?_
  | with_reducible refine os_while ?_
  | with_reducible refine ok_val ?_
  | with_reducible refine ok_bin ?_
  | with_reducible refine ok_neg ?_
  | with_reducible refine ok_cmp ?_
  | with_reducible refine ok_chain ?_
  | with_reducible refine ok_isin ?_
  | with_reducible refine ok_and ?_
  | with_reducible refine ok_or ?_
  | with_reducible refine ok_not ?_
  | with_reducible refine ok_ite ?_
  | with_reducible refine ok_tup ?_
  | with_reducible refine ok_lst ?_
  | with_reducible refine ok_call ?_
  | with_reducible refine ok_bi ?_
  | with_reducible refine ok_isi ?_
  | with_reducible refine ok_isis ?_
  | with_reducible refine ok_ix ?_
  | with_reducible refine ok_sl ?_
  | with_reducible refine ok_oN ?_
  | with_reducible refine ok_oS ?_
  | with_reducible refine ok_nil ?_
  | with_reducible refine ok_cons ?_
  | with_reducible refine ok_bval ?_
  | with_reducible refine ok_bbl ?_
  | with_reducible refine ok_bnot ?_
  | with_reducible refine ok_band ?_
  | with_reducible refine ok_bor ?_
  | with_reducible refine ok_ifN ?_
  | with_reducible refine ok_ifS ?_
  | with_reducible refine ok_rng1 ?_
  | with_reducible refine ok_rng2 ?_
  | with_reducible refine ok_over ?_
  | with_reducible refine ok_enum ?_
  | with_reducible refine ok_add ?_
  | with_reducible refine ok_sub ?_
  | (with_reducible refine ok_lc (by with_unfolding_all exact rfl) ?_)
  | with_reducible refine ⟨_, eq_int, ?_⟩
  | with_reducible refine ⟨_, ne_int, ?_⟩
  | with_reducible refine ⟨_, lt_int', ?_⟩
  | with_reducible refine ⟨_, le_int', ?_⟩
  | with_reducible refine ⟨_, gt_int', ?_⟩
  | with_reducible refine ⟨_, ge_int', ?_⟩
  | with_reducible refine ⟨_, eq_bl, ?_⟩
  | with_reducible refine ⟨_, ne_bl, ?_⟩
  | with_reducible refine ⟨_, ty_ii, ?_⟩
  | with_reducible refine ⟨_, ty_ib, ?_⟩
  | with_reducible refine ⟨_, ty_tt, ?_⟩
  | with_reducible refine ⟨_, ty_tl, ?_⟩
  | with_reducible refine ⟨_, ty_bb, ?_⟩
  | with_reducible refine ⟨_, ty_bi, ?_⟩
  | with_reducible refine ⟨_, truth_bl, ?_⟩
  | with_reducible refine ⟨_, (rfl : PV.bl _ = PV.bl _), ?_⟩
  | with_reducible refine ⟨_, (rfl : PV.int _ = PV.int _), ?_⟩
  | (with_reducible refine And.intro (Nat.le_of_ble_eq_true (by with_unfolding_all exact rfl)) ?_)
  | refine ⟨fun _ => ?_, fun e => nomatch (e : true = false)⟩
  | refine ⟨fun e => (nomatch (e : false = true)), fun _ => ?_⟩
  | refine ⟨fun e => (nomatch (e : true = false)), fun _ => ?_⟩
  | refine ⟨fun _ => ?_, fun e => nomatch (e : false = true)⟩)
local macro_rules | `(tactic| walk_at "py") => `(tactic| first
  | (with_reducible refine ok_var (v := ?_) (by with_unfolding_all exact rfl) ?_)
  | with_reducible refine os_nil ?_
  | with_reducible refine os_cons ?_
  | with_reducible refine os_pass ?_
  | with_reducible refine os_retN ?_
  | with_reducible refine os_brk ?_
  | with_reducible refine os_cont ?_
  | with_reducible refine os_ret ?_
  | with_reducible refine os_expr ?_
  | with_reducible refine os_set ?_
  | with_reducible refine os_asg ?_
  | with_reducible refine os_par ?_
  | with_reducible refine os_par3 ?_
  | with_reducible refine os_setix ?_
  | with_reducible refine os_ite ?_
  | with_reducible refine os_for ?_
  | with_reducible refine os_while ?_
  | with_reducible refine ok_val ?_
  | with_reducible refine ok_bin ?_
  | with_reducible refine ok_neg ?_
  | with_reducible refine ok_cmp ?_
  | with_reducible refine ok_chain ?_
  | with_reducible refine ok_isin ?_
  | with_reducible refine ok_and ?_
  | with_reducible refine ok_or ?_
  | with_reducible refine ok_not ?_
  | with_reducible refine ok_ite ?_
  | with_reducible refine ok_tup ?_
  | with_reducible refine ok_call ?_
  | with_reducible refine ok_bi ?_
  | with_reducible refine ok_isi ?_
  | with_reducible refine ok_isis ?_
  | with_reducible refine ok_ix ?_
  | with_reducible refine ok_sl ?_
  | with_reducible refine ok_oN ?_
  | with_reducible refine ok_oS ?_
  | with_reducible refine ok_nil ?_
  | with_reducible refine ok_cons ?_
  | with_reducible refine ok_bval ?_
  | with_reducible refine ok_bbl ?_
  | with_reducible refine ok_bnot ?_
  | with_reducible refine ok_band ?_
  | with_reducible refine ok_bor ?_
  | with_reducible refine ok_ifN ?_
  | with_reducible refine ok_ifS ?_
  | with_reducible refine ok_rng1 ?_
  | with_reducible refine ok_rng2 ?_
  | with_reducible refine ok_over ?_
  | with_reducible refine ok_enum ?_
  | with_reducible refine ok_add ?_
  | with_reducible refine ok_sub ?_
  | (with_reducible refine ok_lc (by with_unfolding_all exact rfl) ?_)
  | with_reducible refine ⟨_, eq_int, ?_⟩
  | with_reducible refine ⟨_, ne_int, ?_⟩
  | with_reducible refine ⟨_, lt_int', ?_⟩
  | with_reducible refine ⟨_, le_int', ?_⟩
  | with_reducible refine ⟨_, gt_int', ?_⟩
  | with_reducible refine ⟨_, ge_int', ?_⟩
  | with_reducible refine ⟨_, eq_bl, ?_⟩
  | with_reducible refine ⟨_, ne_bl, ?_⟩
  | with_reducible refine ⟨_, ty_ii, ?_⟩
  | with_reducible refine ⟨_, ty_ib, ?_⟩
  | with_reducible refine ⟨_, ty_tt, ?_⟩
  | with_reducible refine ⟨_, ty_tl, ?_⟩
  | with_reducible refine ⟨_, ty_bb, ?_⟩
  | with_reducible refine ⟨_, ty_bi, ?_⟩
  | with_reducible refine ⟨_, truth_bl, ?_⟩
  | with_reducible refine ⟨_, (rfl : PV.bl _ = PV.bl _), ?_⟩
  | with_reducible refine ⟨_, (rfl : PV.int _ = PV.int _), ?_⟩
  | (with_reducible refine And.intro (Nat.le_of_ble_eq_true (by with_unfolding_all exact rfl)) ?_)
  | refine ⟨fun _ => ?_, fun e => nomatch (e : true = false)⟩
  | refine ⟨fun e => (nomatch (e : false = true)), fun _ => ?_⟩
  | refine ⟨fun e => (nomatch (e : true = false)), fun _ => ?_⟩
  | refine ⟨fun _ => ?_, fun e => nomatch (e : false = true)⟩)
local macro_rules | `(tactic| walk_at "wf") => `(tactic| first
  | assumption
  | exact Le.wf (by assumption)
  | (with_reducible refine wf_push ?_; walk_at "wf")
  | (with_reducible refine wf_set ?_; walk_at "wf"))
local macro_rules | `(tactic| walk_at "gt") => `(tactic| first
  | assumption
  | with_reducible exact get_new
  | (with_reducible refine get_old ?_; walk_at "gt")
  | (with_reducible refine Le.g (by assumption) ?_; walk_at "gt"))
local macro_rules | `(tactic| walk_at "le") => `(tactic| first
  | assumption
  | with_reducible exact Le.refl (by walk_at "wf")
  | (with_reducible refine Le.p ?_; walk_at "le")
  | (with_reducible refine Le.trans ?_ (by assumption); walk_at "le"))
section
variable {P : Prg} {ix : Nat → Nat} {d : Nat} {h : PH} {Q : PV → PH → Prop}
/-- colours of all cells -/
def Cols (L : Ln) (cs : List Int) : Prop := cs.length = L.many ∧ ∀ c ∈ cs, 0 ≤ c ∧ c ≤ 9
theorem f_is_colours (H0 : Has P ix 0 cf_is_in) (H : Has P ix 46 cf_is_colours) {L : Ln} (G : Good1 L) {cs : List Int} (hc : Cols L cs) (w : Wf h) (q : ∀ h', Le none h h' → Q (.bl true) h') : Ok (callP P 1000 (d + 2) (ix 46) [L.v, .tup (iL cs)] h) Q := by
  have h40 := G.most
  obtain ⟨hl, hc⟩ := hc
  refine ok_def H rfl ?_
  repeat walk_at "py"
  refine ok_len (xs := iL cs) (by rfl) ?_
  repeat walk_at "py"
  refine ⟨_, rfl, ?_⟩
  repeat walk_at "py"
  refine ok_len (xs := iL L.cells) (by rfl) ?_
  rw [List.length_map, List.length_map, show L.cells.length = L.many from rfl, hl]
  refine ⟨_, ne_intE rfl, ?_⟩
  repeat walk_at "py"
  refine .inr ⟨_, rfl, ?_⟩
  have ll : (iL cs).length ≤ 40 := by rw [List.length_map]; omega
  refine ok_lcI none (iL cs) h w (fun i e => by cases e) (fun k h' _ => iv_tup k h') (by omega) (fun k acc => acc = []) rfl (fun k v acc h1 e1 i1 l1 => ?_) (fun acc h1 i1 _ l1 g1 => ?_) (by omega)
  · rw [List.getElem?_map] at e1
    obtain ⟨c, ec, rfl⟩ := Option.map_eq_some_iff.mp e1
    obtain ⟨c1, c2⟩ := hc c (List.mem_of_getElem? ec)
    refine ⟨_, rfl, ?_⟩
    repeat walk_at "py"
    refine f_is_in H0 c1 c2 ?_
    repeat walk_at "py"
    exact ⟨Le.refl l1.wf, fun _ => i1, fun e => nomatch e⟩
  · subst i1
    repeat walk_at "py"
    refine on_lst ?_
    repeat walk_at "py"
    refine ⟨⟨l1.wf, by decide⟩, fun i2 h2 l2 n2 g2 => ?_⟩
    refine ⟨_, eq_lstE (ns := []) (ms := []) (l2.g g1) g2 rfl, ?_⟩
    exact q _ (l1.trans l2)
theorem f_need_colours (H0 : Has P ix 0 cf_is_in) (H2 : Has P ix 2 cf_is_cells) (H1 : Has P ix 1 cf_need_line) (H46 : Has P ix 46 cf_is_colours) (H : Has P ix 47 cf_need_colours_of) {L : Ln} (G : Good1 L) {cs : List Int} (hc : Cols L cs) (w : Wf h) (q : ∀ h', Le none h h' → Q .non h') : Ok (callP P 1000 (d + 4) (ix 47) [L.v, .tup (iL cs)] h) Q := by
  refine ok_def H rfl ?_
  repeat walk_at "py"
  refine f_need_line H0 H2 H1 G w fun h1 l1 => ?_
  repeat walk_at "py"
  refine f_is_colours H0 H46 G hc l1.wf fun h2 l2 => ?_
  repeat walk_at "py"
  exact q _ (l1.trans l2)
theorem nis_ref {i : Nat} : cmpP .nis (.ref i) .non h = some true := rfl
theorem nis_non : cmpP .nis .non .non h = some false := rfl
theorem is_ref {i : Nat} : cmpP .is (.ref i) .non h = some false := rfl
theorem is_non : cmpP .is .non .non h = some true := rfl
theorem f_can_come (H0 : Has P ix 0 cf_is_in) (H2 : Has P ix 2 cf_is_cells) (H1 : Has P ix 1 cf_need_line) (H4 : Has P ix 4 cf_held_in) (H5 : Has P ix 5 cf_flanks) (H6 : Has P ix 6 cf_is_flanked) (H7 : Has P ix 7 cf_ready_in) (H46 : Has P ix 46 cf_is_colours) (H47 : Has P ix 47 cf_need_colours_of) (H49 : Has P ix 49 cf_turned_cells) (H : Has P ix 51 cf_can_come)
    {L : Ln} (G : Good1 L) {cs : List Int} (hc : Cols L cs) (w : Wf h) (q : ∀ h', Le none h h' → Q (.bl (L.tcB cs)) h') : Ok (callP P 1000 (d + 5) (ix 51) [L.v, .tup (iL cs)] h) Q := by
  refine ok_def H rfl ?_
  repeat walk_at "py"
  refine f_need_colours H0 H2 H1 H46 H47 G hc w fun h1 l1 => ?_
  repeat walk_at "py"
  refine f_turned_cells H4 H5 H6 H7 H49 G hc.1 l1.wf fun v h2 l2 z => ?_
  repeat walk_at "py"
  have q := q _ (l1.trans l2)
  rcases z with ⟨z, rfl⟩ | ⟨z, i, rfl, _, _⟩
  · rw [z] at q
    exact ⟨_, nis_non, q⟩
  · rw [z] at q
    exact ⟨_, nis_ref, q⟩
theorem f_is_end_in (H4 : Has P ix 4 cf_held_in) (H5 : Has P ix 5 cf_flanks) (H6 : Has P ix 6 cf_is_flanked) (H7 : Has P ix 7 cf_ready_in) (H49 : Has P ix 49 cf_turned_cells) (H50 : Has P ix 50 cf_is_full) (H : Has P ix 52 cf_is_end_in)
    {L : Ln} (G : Good1 L) {cs : List Int} (hc : Cols L cs) (w : Wf h) (q : ∀ h', Le none h h' → Q (.bl (L.tcB cs && L.full (L.chd cs))) h') : Ok (callP P 1000 (d + 5) (ix 52) [L.v, .tup (iL cs)] h) Q := by
  refine ok_def H rfl ?_
  repeat walk_at "py"
  refine f_turned_cells H4 H5 H6 H7 H49 G hc.1 w fun v h2 l2 z => ?_
  repeat walk_at "py"
  rcases z with ⟨z, rfl⟩ | ⟨z, i, rfl, _, gi⟩
  · have q := q _ l2
    rw [z] at q
    refine ⟨_, nis_non, ?_⟩
    repeat walk_at "py"
    exact q
  · refine ⟨_, nis_ref, ?_⟩
    repeat walk_at "py"
    refine f_is_full H4 H5 H6 H7 H50 G gi l2.wf fun h3 l3 => ?_
    have q := q _ (l2.trans l3)
    rw [z, Bool.true_and] at q
    exact q
theorem f_is_end (H0 : Has P ix 0 cf_is_in) (H2 : Has P ix 2 cf_is_cells) (H1 : Has P ix 1 cf_need_line) (H4 : Has P ix 4 cf_held_in) (H5 : Has P ix 5 cf_flanks) (H6 : Has P ix 6 cf_is_flanked) (H7 : Has P ix 7 cf_ready_in) (H46 : Has P ix 46 cf_is_colours) (H47 : Has P ix 47 cf_need_colours_of) (H49 : Has P ix 49 cf_turned_cells) (H50 : Has P ix 50 cf_is_full) (H52 : Has P ix 52 cf_is_end_in) (H : Has P ix 53 cf_is_end)
    {L : Ln} (G : Good1 L) {cs : List Int} (hc : Cols L cs) (w : Wf h) (q : ∀ h', Le none h h' → Q (.bl (L.tcB cs && L.full (L.chd cs))) h') : Ok (callP P 1000 (d + 6) (ix 53) [L.v, .tup (iL cs)] h) Q := by
  refine ok_def H rfl ?_
  repeat walk_at "py"
  refine f_need_colours H0 H2 H1 H46 H47 G hc w fun h1 l1 => ?_
  repeat walk_at "py"
  exact f_is_end_in H4 H5 H6 H7 H49 H50 H52 G hc l1.wf fun h2 l2 => q _ (l1.trans l2)
theorem f_turns_between (H0 : Has P ix 0 cf_is_in) (H2 : Has P ix 2 cf_is_cells) (H1 : Has P ix 1 cf_need_line) (H4 : Has P ix 4 cf_held_in) (H5 : Has P ix 5 cf_flanks) (H6 : Has P ix 6 cf_is_flanked) (H7 : Has P ix 7 cf_ready_in) (H46 : Has P ix 46 cf_is_colours) (H47 : Has P ix 47 cf_need_colours_of) (H49 : Has P ix 49 cf_turned_cells) (H : Has P ix 76 cf_turns_between)
    {L : Ln} (G : Good1 L) {cs : List Int} (hc : Cols L cs) (w : Wf h) (q : ∀ h', Le none h h' → Q (if L.tcB cs = true then .int ((L.chd cs).length : Nat) else .non) h') : Ok (callP P 1000 (d + 5) (ix 76) [L.v, .tup (iL cs)] h) Q := by
  refine ok_def H rfl ?_
  repeat walk_at "py"
  refine f_need_colours H0 H2 H1 H46 H47 G hc w fun h1 l1 => ?_
  repeat walk_at "py"
  refine f_turned_cells H4 H5 H6 H7 H49 G hc.1 l1.wf fun v h2 l2 z => ?_
  repeat walk_at "py"
  have q := q _ (l1.trans l2)
  rcases z with ⟨z, rfl⟩ | ⟨z, i, rfl, _, gi⟩
  · rw [if_neg (by rw [z]; exact Bool.false_ne_true)] at q
    refine ⟨_, is_non, ?_⟩
    repeat walk_at "py"
    exact q
  · rw [if_pos z] at q
    refine ⟨_, is_ref, ?_⟩
    repeat walk_at "py"
    refine ok_len (seqOf_lst gi) ?_
    rw [nL_len]
    exact q
theorem f_factorial (H : Has P ix 71 cf_factorial) {n : Nat} (hn : n ≤ 100) (q : Q (.int (factN n)) h) : Ok (callP P 1000 (d + 1) (ix 71) [.int (n : Int)] h) Q := by
  refine ok_def H rfl ?_
  repeat walk_at "py"
  refine ⟨⟨by omega, by omega, by omega, by omega⟩, ?_⟩
  rw [show ((n : Int) + 1 - 2).toNat = n - 1 by omega]
  refine os_forL (fun k st h' => k ≤ n - 1 ∧ h' = h ∧ ∃ s2, st = [some (.int n), some (.int (factN (k + 1))), s2]) (n - 1) (fun k st h' ⟨j1, j2, s2, j3⟩ => ⟨j1, ?_⟩) _ 0 _ _ (by omega) ⟨Nat.zero_le _, rfl, none, rfl⟩
  subst j3
  subst j2
  rw [iv_rng]
  by_cases hk : k < n - 1
  · have e : (rng 2 (n - 1))[k]? = some (.int (2 + (k : Nat))) := by
      unfold rng
      rw [List.getElem?_map, List.getElem?_range hk]
      rfl
    rw [e]
    refine .inr ⟨_, _, rfl, rfl, ?_⟩
    refine os_cons (os_aug (x := factN (k + 1)) rfl ?_)
    repeat walk_at "py"
    have hw : wide (2 + (k : Int)) = true := wide_of (by omega) (by omega)
    refine ⟨_, factN (k + 2), rfl, ?_, ?_⟩
    · unfold augI
      dsimp only
      rw [hw, Bool.or_true]
      show some (factN (k + 1) * (2 + (k : Int))) = some (factN (k + 1) * (((k + 1 : Nat) : Int) + 1))
      rw [show (2 : Int) + (k : Int) = ((k + 1 : Nat) : Int) + 1 by omega]
    · exact os_nil ⟨by omega, rfl, _, rfl⟩
  · rw [List.getElem?_eq_none (by rw [rng_len]; omega)]
    refine .inl ⟨rfl, ?_⟩
    repeat walk_at "py"
    have e : factN (k + 1) = factN n := by
      by_cases hn0 : n = 0
      · subst hn0
        have : k = 0 := by omega
        subst this
        rfl
      · rw [show k + 1 = n by omega]
    rw [e]
    exact q
theorem f_ways_to (H0 : Has P ix 0 cf_is_in) (H2 : Has P ix 2 cf_is_cells) (H1 : Has P ix 1 cf_need_line) (H4 : Has P ix 4 cf_held_in) (H5 : Has P ix 5 cf_flanks) (H6 : Has P ix 6 cf_is_flanked) (H7 : Has P ix 7 cf_ready_in) (H46 : Has P ix 46 cf_is_colours) (H47 : Has P ix 47 cf_need_colours_of) (H49 : Has P ix 49 cf_turned_cells) (H71 : Has P ix 71 cf_factorial) (H : Has P ix 72 cf_ways_to)
    {L : Ln} (G : Good1 L) {cs : List Int} (hc : Cols L cs) (w : Wf h) (q : ∀ h', Le none h h' → Q (.int (if L.tcB cs = true then factN (L.chd cs).length else 0)) h') : Ok (callP P 1000 (d + 5) (ix 72) [L.v, .tup (iL cs)] h) Q := by
  have h40 := G.most
  refine ok_def H rfl ?_
  repeat walk_at "py"
  refine f_need_colours H0 H2 H1 H46 H47 G hc w fun h1 l1 => ?_
  repeat walk_at "py"
  refine f_turned_cells H4 H5 H6 H7 H49 G hc.1 l1.wf fun v h2 l2 z => ?_
  repeat walk_at "py"
  have q := q _ (l1.trans l2)
  rcases z with ⟨z, rfl⟩ | ⟨z, i, rfl, _, gi⟩
  · rw [if_neg (by rw [z]; exact Bool.false_ne_true)] at q
    refine ⟨_, is_non, ?_⟩
    repeat walk_at "py"
    exact q
  · rw [if_pos z] at q
    refine ⟨_, is_ref, ?_⟩
    repeat walk_at "py"
    refine ok_len (seqOf_lst gi) ?_
    rw [nL_len]
    repeat walk_at "py"
    have cl : (L.chd cs).length ≤ L.many := by
      have := List.length_filter_le (fun k => decide (¬ cs.getD k 0 = L.at k)) (List.range L.many)
      rw [List.length_range] at this
      exact this
    exact f_factorial H71 (by omega) q
end
end Pyx

set_option Elab.async false
set_option linter.all false
set_option maxRecDepth 100000
set_option maxHeartbeats 400000
/-! Pyx: a step of ready cells no two of which are neighbours. -/
namespace Pyx
open PySem L2
theorem cell_at {L : Ln} {k : Nat} (hk : k < L.many) : L.cells.getD k 0 = L.at (k : Int) := by
  rw [at_cells hk, List.getD_eq_getElem?_getD, List.getElem?_eq_getElem hk]
  rfl
theorem stp_getD {L : Ln} (h0 : 1 ≤ L.many) {k : Nat} (hk : k < L.many) : L.stp.cells.getD k 0 = if L.rd k then L.at ((k : Int) - 1) else L.at k := by
  rw [cell_at (by rw [Ln.stp_many]; exact hk), Ln.stp_at h0]
theorem rd_ne {L : Ln} {k : Int} (r : L.rd k) : ¬ L.at (k - 1) = L.at k := fun z => r.2.2 (r.2.1.symm.trans z)
theorem chd_stp {L : Ln} (h0 : 1 ≤ L.many) : L.chd L.stp.cells = L.readyN := by
  unfold Ln.chd Ln.readyN
  refine List.filter_congr fun k hk => ?_
  have hk := List.mem_range.mp hk
  rw [stp_getD h0 hk]
  by_cases r : L.rd k
  · rw [if_pos r, (Ln.rdy_rd hk).mpr r, decide_eq_true (rd_ne r)]
  · rw [if_neg r, decide_eq_false (by simp)]
    cases z : L.rdy k with
    | false => rfl
    | true => exact absurd ((Ln.rdy_rd hk).mp z) r
theorem tcB_stp {L : Ln} (h0 : 1 ≤ L.many) : L.tcB L.stp.cells = L.ap L.readyN := by
  unfold Ln.tcB
  rw [chd_stp h0]
  have e : (List.range L.many).all (L.okc L.stp.cells) = true := List.all_eq_true.mpr fun k hk => by
    have hk := List.mem_range.mp hk
    unfold Ln.okc
    rw [stp_getD h0 hk]
    by_cases r : L.rd k
    · rw [if_pos r, decide_eq_true (Ln.readyN_mem.mpr ⟨hk, r⟩), decide_eq_true rfl]
      simp
    · rw [if_neg r, decide_eq_true rfl]
      rfl
  rw [e, Bool.true_and]
theorem full_ready {L : Ln} : L.full L.readyN = true := List.all_eq_true.mpr fun k hk => by
  rw [decide_eq_true hk]
  rfl
/-- the ready cells whose next neighbours are ready -/
def Ln.nearN (L : Ln) : List Nat := L.readyN.filter fun k => decide (L.rd ((k : Int) + 1))
theorem lfN_lt {L : Ln} (h0 : 1 ≤ L.many) (k : Nat) : L.lfN k < L.many := by
  have e := lfN_is h0 k
  have := Int.emod_lt_of_pos ((k : Int) - 1) (show (0 : Int) < L.many by omega)
  omega
theorem rtN_lt {L : Ln} (h0 : 1 ≤ L.many) (k : Nat) : L.rtN k < L.many := by
  have e := rtN_is h0 k
  have := Int.emod_lt_of_pos ((k : Int) + 1) (show (0 : Int) < L.many by omega)
  omega
theorem lfN_rd {L : Ln} (h0 : 1 ≤ L.many) (k : Nat) : L.lfN k ∈ L.readyN ↔ L.rd ((k : Int) - 1) := by
  rw [Ln.readyN_mem, ← lfN_is h0]
  rw [Ln.rd_congr (Int.emod_emod_of_dvd ((k : Int) - 1) (Int.dvd_refl (L.many : Int)))]
  exact ⟨fun z => z.2, fun z => ⟨lfN_lt h0 k, z⟩⟩
theorem rtN_rd {L : Ln} (h0 : 1 ≤ L.many) (k : Nat) : L.rtN k ∈ L.readyN ↔ L.rd ((k : Int) + 1) := by
  rw [Ln.readyN_mem, ← rtN_is h0]
  rw [Ln.rd_congr (Int.emod_emod_of_dvd ((k : Int) + 1) (Int.dvd_refl (L.many : Int)))]
  exact ⟨fun z => z.2, fun z => ⟨rtN_lt h0 k, z⟩⟩
theorem rd_nat {L : Ln} (h0 : 1 ≤ L.many) {k : Int} (r : L.rd k) : ∃ j : Nat, j ∈ L.readyN ∧ (j : Int) = k % (L.many : Int) := by
  have e : ((((k % (L.many : Int)).toNat : Nat)) : Int) = k % (L.many : Int) := Int.toNat_of_nonneg (Int.emod_nonneg _ (by omega))
  have := Int.emod_lt_of_pos k (show (0 : Int) < L.many by omega)
  refine ⟨(k % (L.many : Int)).toNat, Ln.readyN_mem.mpr ⟨by omega, ?_⟩, e⟩
  rw [e]
  exact (Ln.rd_congr (Int.emod_emod_of_dvd k (Int.dvd_refl _))).mpr r
theorem ap_is {L : Ln} (h0 : 1 ≤ L.many) : L.ap L.readyN = true ↔ ∀ k : Int, L.rd k → ¬ L.rd (k + 1) := by
  unfold Ln.ap
  rw [List.all_eq_true]
  constructor
  · intro h k r r1
    obtain ⟨j, hj, ej⟩ := rd_nat h0 r1
    have := h j hj
    rw [Bool.not_eq_true', decide_eq_false_iff_not, lfN_rd h0] at this
    refine this ((Ln.rd_congr ?_).mpr r)
    rw [ej, Int.emod_sub_emod]
    congr 1
    omega
  · intro h k hk
    rw [Bool.not_eq_true', decide_eq_false_iff_not, lfN_rd h0]
    intro r
    have := h _ r
    rw [show (k : Int) - 1 + 1 = k by omega] at this
    exact this (Ln.readyN_mem.mp hk).2
theorem near_is {L : Ln} (h0 : 1 ≤ L.many) : L.nearN = [] ↔ ∀ k : Int, L.rd k → ¬ L.rd (k + 1) := by
  unfold Ln.nearN
  rw [List.filter_eq_nil_iff]
  constructor
  · intro h k r r1
    obtain ⟨j, hj, ej⟩ := rd_nat h0 r
    refine h j hj (decide_eq_true ((Ln.rd_congr ?_).mpr r1))
    rw [ej, Int.emod_add_emod]
  · intro h k hk
    rw [decide_eq_true_eq]
    exact h _ (Ln.readyN_mem.mp hk).2
section
variable {L : Ln} (h0 : 1 ≤ L.many) (A : ∀ k : Int, L.rd k → ¬ L.rd (k + 1))
include h0 A
theorem ap_noswing : ¬ L.Swing := fun z => A 0 (z 0) (z _)
theorem ap_stp (k : Int) : ¬ L.stp.rd k := fun z => by
  obtain ⟨_, r1, r2⟩ := (Ln.rd_stp h0 k).mp z
  exact A k r1 r2
theorem ap_aft : ∀ t : Nat, L.aft (t + 1) = L.stp
  | 0 => rfl
  | t + 1 => by
    show (L.aft (t + 1)).stp = L.stp
    rw [ap_aft t]
    have e : L.stp.readyN = [] := by
      cases z : L.stp.readyN with
      | nil => rfl
      | cons j r =>
        have : j ∈ L.stp.readyN := by rw [z]; exact List.mem_cons_self
        exact absurd (Ln.readyN_mem.mp this).2 (ap_stp h0 A _)
    refine Ln.ext' ?_ rfl rfl
    show L.stp.turn L.stp.readyN = L.stp.cells
    rw [e]
    exact turn_nil
theorem ap_many : L.aft L.many = L.stp := by
  obtain ⟨t, e⟩ : ∃ t, L.many = t + 1 := ⟨L.many - 1, by omega⟩
  have := ap_aft h0 A t
  rw [← e] at this
  exact this
theorem ap_top : L.top = if L.readyN = [] then 0 else 1 := by
  by_cases e : L.readyN = []
  · rw [if_pos e]
    refine top_is (T := 0) h0 (ap_noswing h0 A) (fun k r => ?_) fun t ht => by omega
    obtain ⟨j, hj, _⟩ := rd_nat h0 (show L.rd k from r)
    rw [e] at hj
    cases hj
  · rw [if_neg e]
    refine top_is (T := 1) h0 (ap_noswing h0 A) (ap_stp h0 A) fun t ht => ?_
    have : t = 0 := by omega
    subst this
    obtain ⟨j, hj⟩ := List.exists_mem_of_ne_nil _ e
    exact ⟨_, (Ln.readyN_mem.mp hj).2⟩
theorem ap_rls : ∀ m ∈ L.rls, m = 1 := fun m hm => by
  unfold Ln.rls at hm
  obtain ⟨k, hk, rfl⟩ := List.mem_map.mp hm
  have R := sts_run h0 hk
  obtain ⟨_, r, _⟩ := sts_mem.mp hk
  by_cases h2 : 2 ≤ L.rl L.many (k : Int)
  · exact absurd (R.mid 1 (by omega)) (A _ r)
  · by_cases h1 : L.rl L.many (k : Int) = 0
    · have := R.post
      rw [h1] at this
      exact absurd (by rw [show (k : Int) + ((0 : Nat) : Int) = k by omega]; exact r) this
    · omega
theorem ap_inL : ∀ m ∈ L.inL, m = 1 := fun m hm => ap_rls h0 A m (inL_perm.mem_iff.mp hm)
theorem ap_end : L.endN = 1 := by
  unfold Ln.endN byT
  rw [byT_sum (fun n => (pEnd_len n).2)]
  have e : (L.inL.map fun m => sumI (pEnd m)) = List.replicate L.inL.length 1 := by
    refine List.eq_replicate_iff.mpr ⟨List.length_map _, fun x hx => ?_⟩
    obtain ⟨m, hm, rfl⟩ := List.mem_map.mp hx
    rw [ap_inL h0 A m hm]
    rfl
  rw [e]
  have key : ∀ n : Nat, (List.replicate n (1 : Int)).foldl (fun a b => a * b) 1 = 1 := fun n => by
    induction n with
    | zero => rfl
    | succ n ih => rw [List.replicate_succ, List.foldl_cons]; exact ih
  rw [key]
  rfl
theorem ap_strs : ∀ f ∈ sortT L.strs, f.length = 3 := fun f hf => by
  have hf := (sortT_perm L.strs).mem_iff.mp hf
  rw [strs_sts] at hf
  obtain ⟨k, hk, rfl⟩ := List.mem_map.mp hf
  rw [strI_len, ap_rls h0 A _ (List.mem_map.mpr ⟨k, hk, rfl⟩)]
end
end Pyx

set_option Elab.async false
set_option linter.all false
set_option maxRecDepth 100000
set_option maxHeartbeats 400000
/-! Pyx: free alternating rows: one run; counts by recurrences. -/
namespace Pyx
open PySem L2
theorem heldI_row {n : Nat} {held : List Int} (h2 : 2 ≤ n) (hs : held.Pairwise (· < ·)) (hi : ∀ k ∈ held, 1 ≤ k ∧ k + 1 < (n : Int)) : (rowL n held).heldI = 0 :: (held ++ [(n : Int) - 1]) := by
  have s2 : (0 :: (held ++ [(n : Int) - 1])).Pairwise (· < ·) := by
    refine List.pairwise_cons.mpr ⟨fun x hx => ?_, List.pairwise_append.mpr ⟨hs, List.pairwise_singleton _ _, fun x hx y hy => ?_⟩⟩
    · rcases List.mem_append.mp hx with z | z
      · have := hi x z
        omega
      · rw [List.mem_singleton.mp z]
        omega
    · rw [List.mem_singleton.mp hy]
      have := hi x hx
      omega
  refine PySem.W.ksm_same ((List.perm_ext_iff_of_nodup (heldI_srt.imp fun h => by omega) (s2.imp fun h => by omega)).mpr fun x => ?_) (heldI_srt.imp fun h => by omega) (s2.imp fun h => by omega)
  rw [heldI_mem, rowL_many, List.mem_cons, List.mem_append, List.mem_singleton]
  refine ⟨fun z => ?_, fun z => ?_⟩
  · rcases z with z | ⟨_, z | z⟩
    · exact .inr (.inl z)
    · exact .inl z
    · exact .inr (.inr z)
  · rcases z with z | z | z
    · exact .inr ⟨rfl, .inl z⟩
    · exact .inl z
    · exact .inr ⟨rfl, .inr z⟩
theorem rls_free {n : Nat} (h3 : 3 ≤ n) (G : Good1 (rowL n [])) : (rowL n []).rls = [n - 2] := by
  rw [rls_gaps G rfl (fun k hk => rowL_rd (by rw [rowL_many] at hk; exact hk)), heldI_row (by omega) List.Pairwise.nil (fun k hk => nomatch hk)]
  show ([((n : Int) - 1 - 0 - 1).toNat]).filter (fun m => decide (m ≠ 0)) = _
  rw [show ((n : Int) - 1 - 0 - 1).toNat = n - 2 by omega, List.filter_cons, if_pos (by rw [decide_eq_true_eq]; omega)]
  rfl
theorem inL_free {n : Nat} (h3 : 3 ≤ n) (G : Good1 (rowL n [])) : (rowL n []).inL = [n - 2] := by
  have p := inL_perm (L := rowL n [])
  rw [rls_free h3 G] at p
  exact List.perm_singleton.mp p
def fibN : Nat → Int
  | 0 => 0
  | 1 => 1
  | n + 2 => fibN (n + 1) + fibN n
def padN : Nat → Int
  | 0 => 0
  | 1 => 1
  | 2 => 1
  | n + 3 => padN (n + 1) + padN n
def lucN : Nat → Int
  | 0 => 2
  | 1 => 1
  | n + 2 => lucN (n + 1) + lucN n
def perN : Nat → Int
  | 0 => 3
  | 1 => 0
  | 2 => 2
  | n + 3 => perN (n + 1) + perN n
theorem set_fib : ∀ n, sumI (pSet n) = fibN (n + 2)
  | 0 => rfl
  | 1 => rfl
  | n + 2 => by
    rw [sum_pSet, set_fib (n + 1), set_fib n]
    rfl
theorem end_pad : ∀ n, sumI (pEnd n) = padN (n + 2)
  | 0 => rfl
  | 1 => rfl
  | 2 => rfl
  | n + 3 => by
    rw [sum_pEnd, end_pad (n + 1), end_pad n]
    rfl
theorem luc_fib : ∀ n, lucN (n + 3) = fibN (n + 4) + fibN (n + 2)
  | 0 => rfl
  | 1 => rfl
  | n + 2 => by
    show lucN (n + 4) + lucN (n + 3) = (fibN (n + 5) + fibN (n + 4)) + (fibN (n + 3) + fibN (n + 2))
    have a : lucN (n + 4) = fibN (n + 5) + fibN (n + 3) := luc_fib (n + 1)
    have b := luc_fib n
    omega
/-- sets of a ring's cells; such to which none can be added -/
def rSet (n : Nat) : List Int := addP (pSet (n - 1)) (0 :: pSet (n - 3))
def rEnd : Nat → List Int
  | 0 => []
  | 1 => []
  | 2 => []
  | 3 => [0, 3]
  | 4 => [0, 0, 2]
  | 5 => [0, 0, 5]
  | n + 6 => addP (0 :: rEnd (n + 4)) (0 :: rEnd (n + 3))
theorem sum_rSet {n : Nat} (h : 3 ≤ n) : sumI (rSet n) = lucN n := by
  obtain ⟨m, rfl⟩ : ∃ m, n = m + 3 := ⟨n - 3, by omega⟩
  unfold rSet
  rw [sum_addP, show m + 3 - 1 = m + 2 by omega, show m + 3 - 3 = m by omega, luc_fib, set_fib]
  show fibN (m + 4) + (0 + sumI (pSet m)) = _
  rw [set_fib]
  omega
theorem sum_rEnd : ∀ n, sumI (rEnd (n + 3)) = perN (n + 3)
  | 0 => rfl
  | 1 => rfl
  | 2 => rfl
  | n + 3 => by
    show sumI (addP (0 :: rEnd (n + 4)) (0 :: rEnd (n + 3))) = perN (n + 4) + perN (n + 3)
    rw [sum_addP]
    show (0 + sumI (rEnd (n + 4))) + (0 + sumI (rEnd (n + 3))) = _
    have a : sumI (rEnd (n + 4)) = perN (n + 4) := sum_rEnd (n + 1)
    have b := sum_rEnd n
    omega
theorem rEnd_len : ∀ n, (rEnd n).length ≤ n
  | 0 => by decide
  | 1 => by decide
  | 2 => by decide
  | 3 => by decide
  | 4 => by decide
  | 5 => by decide
  | n + 6 => by
    show (addP (0 :: rEnd (n + 4)) (0 :: rEnd (n + 3))).length ≤ n + 6
    rw [addP_len, List.length_cons, List.length_cons]
    have := rEnd_len (n + 4)
    have := rEnd_len (n + 3)
    omega
theorem getD_zero {a : List Int} {k : Nat} (h : a.length ≤ k) : a.getD k 0 = 0 := by
  rw [List.getD_eq_getElem?_getD, List.getElem?_eq_none h]
  rfl
theorem sumN_take {a : List Int} {m : Nat} : ∀ k, k ≤ m → sumN (a.take m) k = sumN a k
  | 0, _ => rfl
  | k + 1, h => by
    show sumN (a.take m) k + (a.take m).getD k 0 = sumN a k + a.getD k 0
    rw [sumN_take k (by omega), List.getD_eq_getElem?_getD, List.getD_eq_getElem?_getD, List.getElem?_take, if_pos (by omega)]
theorem sumN_rest {a : List Int} {m : Nat} (h : ∀ j, m ≤ j → a.getD j 0 = 0) : ∀ k, sumN a (m + k) = sumN a m
  | 0 => rfl
  | k + 1 => by
    show sumN a (m + k) + a.getD (m + k) 0 = sumN a m
    rw [sumN_rest h k, h _ (by omega)]
    omega
theorem sum_take {a : List Int} {m : Nat} (h : ∀ j, m ≤ j → a.getD j 0 = 0) : sumI (a.take m) = sumI a := by
  rw [sumI_N _ m (by rw [List.length_take]; omega), sumN_take m (Nat.le_refl _), sumI_N a (m + a.length) (by omega), sumN_rest h]
theorem sum_some {a : List Int} (h : sumI a ≠ 0) : ∃ j, a.getD j 0 ≠ 0 := Classical.byContradiction fun z => h (by
  have e := sum_take (a := a) (m := 0) fun j _ => Classical.byContradiction fun y => z ⟨j, y⟩
  rw [List.take_zero] at e
  exact e.symm)
end Pyx

set_option Elab.async false
set_option linter.all false
set_option maxRecDepth 100000
set_option maxHeartbeats 400000
namespace Pyx
open PySem L2
local macro_rules | `(tactic| walk_at "px") => `(tactic| first
  | (with_reducible refine ok_var (v := ?_) (by with_unfolding_all exact rfl) ?_)
  | with_reducible refine os_nil ?_
  | with_reducible refine os_cons ?_
  | with_reducible refine os_pass ?_
  | with_reducible refine os_retN ?_
  | with_reducible refine os_brk ?_
  | with_reducible refine os_cont ?_
  | with_reducible refine os_ret ?_
  | with_reducible refine os_expr ?_
  | with_reducible refine os_set ?_
  | with_reducible refine os_asg ?_
  | with_reducible refine os_par ?_
  | with_reducible refine os_par3 ?_
  | with_reducible refine os_setix ?_
  | with_reducible refine os_ite ?_
  | with_reducible refine os_for ?_
  | with_reducible refine os_while ?_
  | with_reducible refine ok_val ?_
  | with_reducible refine ok_bin ?_
  | with_reducible refine ok_neg ?_
  | with_reducible refine ok_cmp ?_
  | with_reducible refine ok_chain ?_
  | with_reducible refine ok_isin ?_
  | with_reducible refine ok_and ?_
  | with_reducible refine ok_or ?_
  | with_reducible refine ok_not ?_
  | with_reducible refine ok_ite ?_
  | with_reducible refine ok_tup ?_
  | with_reducible refine ok_lst ?_
  | with_reducible refine ok_call ?_
  | with_reducible refine ok_bi ?_
  | with_reducible refine ok_isi ?_
  | with_reducible refine ok_isis ?_
  | with_reducible refine ok_ix ?_
  | with_reducible refine ok_sl ?_
  | with_reducible refine ok_oN ?_
  | with_reducible refine ok_oS ?_
  | with_reducible refine ok_nil ?_
  | with_reducible refine ok_cons ?_
  | with_reducible refine ok_bval ?_
  | with_reducible refine ok_bbl ?_
  | with_reducible refine ok_bnot ?_
  | with_reducible refine ok_band ?_
  | with_reducible refine ok_bor ?_
  | with_reducible refine ok_ifN ?_
  | with_reducible refine ok_ifS ?_
  | with_reducible refine ok_rng1 ?_
  | with_reducible refine ok_rng2 ?_
  | with_reducible refine ok_over ?_
  | with_reducible refine ok_enum ?_
  | with_reducible refine ok_add ?_
  | with_reducible refine ok_sub ?_
  | (with_reducible refine ok_lc (by with_unfolding_all exact rfl) ?_)
  | with_reducible refine ⟨_, eq_int, ?_⟩
  | with_reducible refine ⟨_, ne_int, ?_⟩
  | with_reducible refine ⟨_, lt_int', ?_⟩
  | with_reducible refine ⟨_, le_int', ?_⟩
  | with_reducible refine ⟨_, gt_int', ?_⟩
  | with_reducible refine ⟨_, ge_int', ?_⟩
  | with_reducible refine ⟨_, eq_bl, ?_⟩
  | with_reducible refine ⟨_, ne_bl, ?_⟩
  | with_reducible refine ⟨_, ty_ii, ?_⟩
  | with_reducible refine ⟨_, ty_ib, ?_⟩
  | with_reducible refine ⟨_, ty_tt, ?_⟩
  | with_reducible refine ⟨_, ty_tl, ?_⟩
  | with_reducible refine ⟨_, ty_bb, ?_⟩
  | with_reducible refine ⟨_, ty_bi, ?_⟩
  | with_reducible refine ⟨_, truth_bl, ?_⟩
  | with_reducible refine ⟨_, (rfl : PV.bl _ = PV.bl _), ?_⟩
  | with_reducible refine ⟨_, (rfl : PV.int _ = PV.int _), ?_⟩
  | (with_reducible refine And.intro (Nat.le_of_ble_eq_true (by with_unfolding_all exact rfl)) ?_)
  | refine ⟨fun _ => ?_, fun e => nomatch (e : true = false)⟩
  | refine ⟨fun e => (nomatch (e : false = true)), fun _ => ?_⟩
  | refine ⟨fun e => (nomatch (e : true = false)), fun _ => ?_⟩
  | refine ⟨fun _ => ?_, fun e => nomatch (e : false = true)⟩)
local macro_rules | `(tactic| walk_at "py") => `(tactic| first
  | (with_reducible refine ok_var (v := ?_) (by with_unfolding_all exact rfl) ?_)
  | with_reducible refine os_nil ?_
  | with_reducible refine os_cons ?_
  | with_reducible refine os_pass ?_
  | with_reducible refine os_retN ?_
  | with_reducible refine os_brk ?_
  | with_reducible refine os_cont ?_
  | with_reducible refine os_ret ?_
  | with_reducible refine os_expr ?_
  | with_reducible refine os_set ?_
  | with_reducible refine os_asg ?_
  | with_reducible refine os_par ?_
  | with_reducible refine os_par3 ?_
  | with_reducible refine os_setix ?_
  | with_reducible refine os_ite ?_
  | with_reducible refine os_for ?_
  | with_reducible refine os_while ?_
  | with_reducible refine ok_val ?_
  | with_reducible refine ok_bin ?_
  | with_reducible refine ok_neg ?_
  | with_reducible refine ok_cmp ?_
  | with_reducible refine ok_chain ?_
  | with_reducible refine ok_isin ?_
  | with_reducible refine ok_and ?_
  | with_reducible refine ok_or ?_
  | with_reducible refine ok_not ?_
  | with_reducible refine ok_ite ?_
  | with_reducible refine ok_tup ?_
  | with_reducible refine ok_call ?_
  | with_reducible refine ok_bi ?_
  | with_reducible refine ok_isi ?_
  | with_reducible refine ok_isis ?_
  | with_reducible refine ok_ix ?_
  | with_reducible refine ok_sl ?_
  | with_reducible refine ok_oN ?_
  | with_reducible refine ok_oS ?_
  | with_reducible refine ok_nil ?_
  | with_reducible refine ok_cons ?_
  | with_reducible refine ok_bval ?_
  | with_reducible refine ok_bbl ?_
  | with_reducible refine ok_bnot ?_
  | with_reducible refine ok_band ?_
  | with_reducible refine ok_bor ?_
  | with_reducible refine ok_ifN ?_
  | with_reducible refine ok_ifS ?_
  | with_reducible refine ok_rng1 ?_
  | with_reducible refine ok_rng2 ?_
  | with_reducible refine ok_over ?_
  | with_reducible refine ok_enum ?_
  | with_reducible refine ok_add ?_
  | with_reducible refine ok_sub ?_
  | (with_reducible refine ok_lc (by with_unfolding_all exact rfl) ?_)
  | with_reducible refine ⟨_, eq_int, ?_⟩
  | with_reducible refine ⟨_, ne_int, ?_⟩
  | with_reducible refine ⟨_, lt_int', ?_⟩
  | with_reducible refine ⟨_, le_int', ?_⟩
  | with_reducible refine ⟨_, gt_int', ?_⟩
  | with_reducible refine ⟨_, ge_int', ?_⟩
  | with_reducible refine ⟨_, eq_bl, ?_⟩
  | with_reducible refine ⟨_, ne_bl, ?_⟩
  | with_reducible refine ⟨_, ty_ii, ?_⟩
  | with_reducible refine ⟨_, ty_ib, ?_⟩
  | with_reducible refine ⟨_, ty_tt, ?_⟩
  | with_reducible refine ⟨_, ty_tl, ?_⟩
  | with_reducible refine ⟨_, ty_bb, ?_⟩
  | with_reducible refine ⟨_, ty_bi, ?_⟩
  | with_reducible refine ⟨_, truth_bl, ?_⟩
  | with_reducible refine ⟨_, (rfl : PV.bl _ = PV.bl _), ?_⟩
  | with_reducible refine ⟨_, (rfl : PV.int _ = PV.int _), ?_⟩
  | (with_reducible refine And.intro (Nat.le_of_ble_eq_true (by with_unfolding_all exact rfl)) ?_)
  | refine ⟨fun _ => ?_, fun e => nomatch (e : true = false)⟩
  | refine ⟨fun e => (nomatch (e : false = true)), fun _ => ?_⟩
  | refine ⟨fun e => (nomatch (e : true = false)), fun _ => ?_⟩
  | refine ⟨fun _ => ?_, fun e => nomatch (e : false = true)⟩)
local macro_rules | `(tactic| walk_at "wf") => `(tactic| first
  | assumption
  | exact Le.wf (by assumption)
  | (with_reducible refine wf_push ?_; walk_at "wf")
  | (with_reducible refine wf_set ?_; walk_at "wf"))
local macro_rules | `(tactic| walk_at "gt") => `(tactic| first
  | assumption
  | with_reducible exact get_new
  | (with_reducible refine get_old ?_; walk_at "gt")
  | (with_reducible refine Le.g (by assumption) ?_; walk_at "gt"))
local macro_rules | `(tactic| walk_at "le") => `(tactic| first
  | assumption
  | with_reducible exact Le.refl (by walk_at "wf")
  | (with_reducible refine Le.p ?_; walk_at "le")
  | (with_reducible refine Le.trans ?_ (by assumption); walk_at "le"))
section
variable {call : Nat → List PV → PH → R PV} {n : Nat} {st : PSt} {h : PH} {Q : PV → PH → Prop}
/-! ### dicts with int keys -/
theorem ok_disp {ks vs : List CE} (q : Ok (evPs (evE call n) ks vs st (h.push (.dK []))) fun ps h1 => ps.length ≤ 15 ∧ h1.get h.n = some (.dK []) ∧ Q (.ref h.n) (h1.set h.n (.dK (mergeG ps [])))) : Ok (evE call (n + 1) (.disp ks vs) st h) Q := by
  show Ok (eDisp (evE call n) ks vs st h) Q
  unfold eDisp
  cases e1 : evPs (evE call n) ks vs st (h.push (.dK [])) with
  | stuck => rw [e1] at q; exact q
  | ok ps h1 =>
    rw [e1] at q
    obtain ⟨q1, q2, q3⟩ := q
    dsimp only
    rw [q2]
    dsimp only
    rw [Nat.ble_eq_true_of_le q1]
    exact q3
theorem ok_pnil {rec : CE → PSt → PH → R PV} {Q : List (Int × PV) → PH → Prop} (q : Q [] h) : Ok (evPs rec [] [] st h) Q := q
theorem ok_pcons {rec : CE → PSt → PH → R PV} {k v : CE} {ks vs : List CE} {Q : List (Int × PV) → PH → Prop} (q : Ok (rec k st h) fun u h1 => ∃ i, u = .int i ∧ Ok (rec v st h1) fun x h2 => Ok (evPs rec ks vs st h2) fun r h3 => Q ((i, x) :: r) h3) : Ok (evPs rec (k :: ks) (v :: vs) st h) Q := by
  unfold evPs
  cases e1 : rec k st h with
  | stuck => rw [e1] at q; exact q
  | ok u h1 =>
    rw [e1] at q
    obtain ⟨i, rfl, q⟩ := q
    dsimp only
    cases e2 : rec v st h1 with
    | stuck => rw [e2] at q; exact q
    | ok x h2 =>
      rw [e2] at q
      have q : Ok (evPs rec ks vs st h2) fun r h3 => Q ((i, x) :: r) h3 := q
      dsimp only
      cases e3 : evPs rec ks vs st h2 with
      | stuck => rw [e3] at q; exact q
      | ok r h3 => rw [e3] at q; exact q
theorem seqOf_dK {a : Nat} {kvs : List (Int × PV)} (e : h.get a = some (.dK kvs)) : seqOf (.ref a) h = none := by
  unfold seqOf
  dsimp only
  rw [e]
theorem ix_dK {a : Nat} {kvs : List (Int × PV)} {i : Int} {v : PV} (e : h.get a = some (.dK kvs)) (g : valG i kvs = some v) : ixP (.ref a) (.int i) h = some v := by
  unfold ixP
  dsimp only
  rw [seqOf_dK e]
  dsimp only
  unfold dGetP dLook
  dsimp only
  rw [e]
  dsimp only
  rw [g]
theorem set_dK {a : Nat} {kvs : List (Int × PV)} {i : Int} {v : PV} (e : h.get a = some (.dK kvs)) (z : kvs.length ≤ 100000) : setP (.ref a) (.int i) v h = some (h.set a (.dK (putG i v kvs))) := by
  unfold setP lstAt
  dsimp only
  rw [e]
  dsimp only
  unfold dPutP
  dsimp only
  rw [e]
  dsimp only
  rw [Nat.ble_eq_true_of_le z]
theorem putG_len {κ : Type} [DecidableEq κ] {k : κ} {v : PV} : ∀ kvs : List (κ × PV), (putG k v kvs).length ≤ kvs.length + 1
  | [] => Nat.le_refl 1
  | p :: r => by
    unfold putG
    split
    · simp
    · rw [List.length_cons, List.length_cons]
      have := putG_len (k := k) (v := v) r
      omega
theorem valG_putG {κ : Type} [DecidableEq κ] {k j : κ} {v : PV} : ∀ kvs : List (κ × PV), valG j (putG k v kvs) = if k = j then some v else valG j kvs
  | [] => by
    show (match decide (k = j) with | true => some v | false => none) = _
    by_cases e : k = j
    · rw [decide_eq_true e, if_pos e]
    · rw [decide_eq_false e, if_neg e]
      rfl
  | p :: r => by
    by_cases e : p.1 = k
    · have e1 : putG k v (p :: r) = (p.1, v) :: r := by
        show (match decide (p.1 = k) with | true => (p.1, v) :: r | false => p :: putG k v r) = _
        rw [decide_eq_true e]
      rw [e1]
      show (match decide (p.1 = j) with | true => some v | false => valG j r) = if k = j then some v else (match decide (p.1 = j) with | true => some p.2 | false => valG j r)
      rw [e]
      by_cases z : k = j
      · rw [decide_eq_true z, if_pos z]
      · rw [decide_eq_false z, if_neg z]
    · have e1 : putG k v (p :: r) = p :: putG k v r := by
        show (match decide (p.1 = k) with | true => (p.1, v) :: r | false => p :: putG k v r) = _
        rw [decide_eq_false e]
      rw [e1]
      show (match decide (p.1 = j) with | true => some p.2 | false => valG j (putG k v r)) = if k = j then some v else (match decide (p.1 = j) with | true => some p.2 | false => valG j r)
      rw [valG_putG r]
      by_cases z : p.1 = j
      · have hkj : ¬ k = j := fun y => e (z.trans y.symm)
        rw [decide_eq_true z, if_neg hkj, if_neg hkj]
      · rw [decide_eq_false z]
/-- while len(x) <= m: x.append(x[-i] + x[-j]) -/
theorem w_rec {N B C : PSt → PH → Prop} {T : PV → PH → Prop} {v R : Nat} {i j m0 : Nat} {M : Int} {E : CE} {g : Nat → Int} (hv : st[v]? = some (some (.ref R))) (hE : ∀ {h : PH} {Q : PV → PH → Prop}, Q (.int M) h → Ok (evE call (n + 6) E st h) Q)
    (hg : ∀ k, m0 ≤ k → g k = g (k - i) + g (k - j)) (i1 : 1 ≤ i) (i2 : i ≤ m0) (j1 : 1 ≤ j) (j2 : j ≤ m0) (hM : M ≤ 100) (hm : m0 ≤ 50) (hn : 200 ≤ n) (w : Wf h) (gR : h.get R = some (.lst (iL ((List.range m0).map g))))
    (q : ∀ k h', M < (k : Nat) → Wf h' → h'.n = h.n → h'.get R = some (.lst (iL ((List.range k).map g))) → (∀ a o, a ≠ R → h.get a = some o → h'.get a = some o) → N st h') :
    OkS (whL (evB (evE call (n + 7)) (.bl (.cmp .le (.bi .len [(.var v)]) E))) (evSs (evS call (n + 7)) [(.expr (.mt .append (.var v) [(.bin .add (.ix (.var v) (.neg (.val (.int i)))) (.ix (.var v) (.neg (.val (.int j)))))]))]) (n + 7) st h) N T B C := by
  refine os_whL (fun k st' h' => ∃ m, k = 101 + m0 - m ∧ m0 ≤ m ∧ (m ≤ 101 ∨ m = m0) ∧ st' = st ∧ Wf h' ∧ h'.n = h.n ∧ h'.get R = some (.lst (iL ((List.range m).map g))) ∧ (∀ a o, a ≠ R → h.get a = some o → h'.get a = some o)) (fun k st' h' ⟨m, a1, a2, a3, a4, a5, a6, a7, a8⟩ => ?_) _ (101 + m0 - m0) _ _ (by omega) ⟨m0, rfl, Nat.le_refl _, .inr rfl, rfl, w, rfl, gR, fun a o _ e => e⟩
  subst a4
  refine ok_bbl (ok_cmp (ok_bi (ok_cons (ok_var hv (ok_nil (ok_len (seqOf_lst a7) (hE ?_)))))))
  rw [List.length_map, List.length_map, List.length_range]
  refine ⟨_, le_int', _, rfl, fun e => ?_, fun e => ?_⟩
  · have e := of_decide_eq_false e
    exact q m h' (by omega) a5 a6 a7 a8
  · have e := of_decide_eq_true e
    refine ⟨by omega, ?_⟩
    refine os_cons (os_expr (ok_mt (ok_var hv ⟨⟨_, seqL_lst a7⟩, ?_⟩)))
    have xi : ∀ d : Nat, 1 ≤ d → d ≤ m0 → ixP (.ref R) (.int (-(d : Int))) h' = some (.int (g (m - d))) := fun d d1 d2 => ix_neg a7 (by rw [List.length_map, List.length_map, List.length_range]) rfl d1 (by omega) (by
      rw [iL, List.map_map, List.getElem?_map, List.getElem?_range (by omega)]
      rfl)
    refine ok_cons (ok_bin (ok_ix (ok_var hv (ok_neg (ok_val ⟨_, rfl, _, xi i i1 i2, ?_⟩)))))
    refine ok_ix (ok_var hv (ok_neg (ok_val ⟨_, rfl, _, xi j j1 j2, ok_add (ok_nil ?_)⟩)))
    refine ok_append a7 (by rw [List.length_map, List.length_map, List.length_range]; omega) ?_
    refine os_nil ⟨m + 1, by omega, by omega, .inl (by omega), rfl, wf_set a5, a6, ?_, fun a o ne e => get_of_set a5 a7 (a8 a o ne e) ne⟩
    rw [get_at_set a5 a7, ← hg m a2, List.range_succ, List.map_append, ← iL_app]
    rfl
end
section
variable {P : Prg} {ix : Nat → Nat} {d : Nat} {h : PH} {Q : PV → PH → Prop}
theorem f_trimmed (H : Has P ix 61 cf_trimmed) {a : Nat} {f : List Int} (ga : h.get a = some (.lst (iL f))) (hf : ∃ j, f.getD j 0 ≠ 0) (hl : f.length ≤ 900) (w : Wf h)
    (q : ∀ m h', Le none h h' → 1 ≤ m → m ≤ f.length → f.getD (m - 1) 0 ≠ 0 → (∀ j, m ≤ j → f.getD j 0 = 0) → Q (.tup (iL (f.take m))) h') : Ok (callP P 1000 (d + 1) (ix 61) [.ref a] h) Q := by
  refine ok_def H rfl ?_
  repeat walk_at "py"
  refine ok_listOf (seqOf_lst ga) (by rw [List.length_map]; omega) ?_
  repeat walk_at "py"
  refine os_whL (fun k st h' => k ≤ f.length ∧ Le none h h' ∧ h'.get h.n = some (.lst (iL (f.take k))) ∧ (∀ j, k ≤ j → f.getD j 0 = 0) ∧ st = [some (.ref a), some (.ref h.n)]) (fun k st h' ⟨j1, j2, j3, j4, j5⟩ => ?_) _ f.length _ _ (by omega) ⟨Nat.le_refl _, Le.push w, by rw [List.take_length]; exact get_new, fun j hj => getD_zero hj, rfl⟩
  subst j5
  have k0 : 0 < k := Nat.pos_of_ne_zero fun z => by
    obtain ⟨j, hj⟩ := hf
    exact hj (j4 j (by omega))
  have lt : (f.take k).length = k := by rw [List.length_take]; omega
  have gk : (iL (f.take k))[k - 1]? = some (.int (f.getD (k - 1) 0)) := by
    rw [iL_at (by omega), List.getD_eq_getElem?_getD, List.getD_eq_getElem?_getD, List.getElem?_take, if_pos (by omega)]
  repeat walk_at "py"
  refine ⟨_, ix_neg (k := 1) j3 (by rw [List.length_map, lt]) rfl (by omega) (by omega) gk, ?_⟩
  repeat walk_at "py"
  refine ⟨fun e => ?_, fun e => ?_⟩
  · have e := of_decide_eq_false e
    repeat walk_at "py"
    refine ok_tupleOf (seqOf_lst j3) (by rw [List.length_map]; omega) ?_
    exact q k _ j2 k0 j1 e j4
  · have e := of_decide_eq_true e
    refine ⟨k0, ?_⟩
    refine os_cons (os_expr (ok_mt (ok_var rfl ⟨⟨_, seqL_lst j3⟩, ?_⟩)))
    refine ok_nil ?_
    show Ok (popP (.ref h.n) [] h') _
    unfold popP lstAt
    dsimp only
    rw [j3]
    dsimp only
    rw [List.length_map, lt, gk]
    refine ok_ret (os_nil ?_)
    refine ⟨by omega, Le.set j2 (Nat.le_refl _) j3, ?_, fun j hj => ?_, rfl⟩
    · rw [get_at_set j2.wf j3, iL, ← List.map_dropLast, List.dropLast_eq_take, lt, List.take_take, Nat.min_eq_left (by omega)]
    · by_cases z : j = k - 1
      · subst z; exact e
      · exact j4 j (by omega)
theorem f_ring_sets (H54 : Has P ix 54 cf_added) (H56 : Has P ix 56 cf_path_sets) (H : Has P ix 58 cf_ring_sets) {n : Nat} (h3 : 3 ≤ n) (hn : n ≤ 100) (w : Wf h) (q : ∀ i h', Le none h h' → h.n ≤ i → h'.get i = some (.lst (iL (rSet n))) → Q (.ref i) h') : Ok (callP P 1000 (d + 3) (ix 58) [.int n] h) Q := by
  refine ok_def H rfl ?_
  repeat walk_at "py"
  rw [show (n : Int) - 1 = ((n - 1 : Nat) : Int) by omega]
  refine f_path_sets H54 H56 (by omega) w fun i1 h1 l1 n1 g1 => ?_
  repeat walk_at "py"
  refine on_lst ?_
  repeat walk_at "py"
  refine ⟨⟨l1.wf, by decide⟩, fun i2 h2 l2 n2 g2 => ?_⟩
  repeat walk_at "py"
  rw [show (n : Int) - 3 = ((n - 3 : Nat) : Int) by omega]
  refine f_path_sets H54 H56 (by omega) l2.wf fun i3 h3 l3 n3 g3 => ?_
  have z1 := (pSet_len (n - 1)).1
  have z2 := (pSet_len (n - 3)).1
  refine on_catL (xs := [.int 0]) (ys := iL (pSet (n - 3))) (l3.g g2) g3 l3.wf (by rw [List.length_append, List.length_map]; simp only [List.length_cons, List.length_nil]; omega) fun i4 h4 l4 n4 g4 => ?_
  repeat walk_at "py"
  refine f_added (xs := pSet (n - 1)) (ys := 0 :: pSet (n - 3)) H54 (by walk_at "gt") g4 (by omega) (by rw [List.length_cons]; omega) l4.wf fun i5 h5 l5 n5 g5 => ?_
  exact q i5 h5 (by walk_at "le") (by have := l1.n; have := l2.n; have := l3.n; have := l4.n; omega) g5
/-- rows of counts kept in a dict -/
def RowsD (h0 h : PH) (D : Nat) (g : Nat → List Int) (m : Nat) : Prop := ∃ kvs : List (Int × PV), h.get D = some (.dK kvs) ∧ kvs.length ≤ m ∧ ∀ j : Nat, 3 ≤ j → j < m → ∃ r, valG (j : Int) kvs = some (.ref r) ∧ r ≠ D ∧ h0.n ≤ r ∧ h.get r = some (.lst (iL (g j)))
theorem RowsD.le {h0 h1 h2 : PH} {D m : Nat} {g : Nat → List Int} (a : RowsD h0 h1 D g m) (l : Le none h1 h2) : RowsD h0 h2 D g m := let ⟨kvs, e1, e2, e3⟩ := a; ⟨kvs, l.g e1, e2, fun j j1 j2 => let ⟨r, r1, r2, r3, r4⟩ := e3 j j1 j2; ⟨r, r1, r2, r3, l.g r4⟩⟩
theorem f_ring_ends (H54 : Has P ix 54 cf_added) (H : Has P ix 59 cf_ring_ends) {n : Nat} (hn3 : 3 ≤ n) (hn : n ≤ 100) (w : Wf h) (q : ∀ i h', Le none h h' → h.n ≤ i → h'.get i = some (.lst (iL (rEnd n))) → Q (.ref i) h') : Ok (callP P 1000 (d + 2) (ix 59) [.int n] h) Q := by
  refine ok_def H rfl ?_
  repeat walk_at "py"
  refine ok_disp ?_
  have w0 : Wf (h.push (.dK [])) := wf_push w
  have g0 : (h.push (.dK [])).get h.n = some (.dK []) := get_new
  have lp : Le none h (h.push (.dK [])) := Le.push w
  have m0 : (h.push (.dK [])).n = h.n + 1 := rfl
  generalize h.push (.dK []) = h0 at w0 g0 lp m0 ⊢
  refine ok_pcons ?_
  repeat walk_at "py"
  refine on_lst ?_
  repeat walk_at "py"
  refine ⟨⟨w0, by decide⟩, fun i1 h1 l1 n1 g1 => ?_⟩
  refine ok_pcons ?_
  repeat walk_at "py"
  refine on_lst ?_
  repeat walk_at "py"
  refine ⟨⟨l1.wf, by decide⟩, fun i2 h2 l2 n2 g2 => ?_⟩
  refine ok_pcons ?_
  repeat walk_at "py"
  refine on_lst ?_
  repeat walk_at "py"
  refine ⟨⟨l2.wf, by decide⟩, fun i3 h3 l3 n3 g3 => ?_⟩
  refine ok_pnil ?_
  have b1 := l1.n
  have b2 := l2.n
  have b3 := l3.n
  have c1 := get_lt g1
  have c2 := get_lt g2
  have gD : h3.get h.n = some (.dK []) := l3.g (l2.g (l1.g g0))
  refine ⟨by simp, gD, ?_⟩
  have e1 : mergeG [((3 : Int), PV.ref i1), (4, .ref i2), (5, .ref i3)] [] = [(3, .ref i1), (4, .ref i2), (5, .ref i3)] := rfl
  rw [e1]
  have la : Le none h h3 := ((lp.trans l1).trans l2).trans l3
  have lD : Le none h (h3.set h.n (.dK [(3, .ref i1), (4, .ref i2), (5, .ref i3)])) := Le.set la (Nat.le_refl _) gD
  have r0 : RowsD h (h3.set h.n (.dK [(3, .ref i1), (4, .ref i2), (5, .ref i3)])) h.n rEnd 6 := ⟨_, get_at_set la.wf gD, by simp, fun j j1 j2 => by
    have k1 : h3.get i1 = some (.lst (iL (rEnd 3))) := l3.g (l2.g g1)
    have k2 : h3.get i2 = some (.lst (iL (rEnd 4))) := l3.g g2
    have k3 : h3.get i3 = some (.lst (iL (rEnd 5))) := g3
    have : j = 3 ∨ j = 4 ∨ j = 5 := by omega
    rcases this with rfl | rfl | rfl
    · exact ⟨i1, rfl, by omega, by omega, get_of_set la.wf gD k1 (by omega)⟩
    · exact ⟨i2, rfl, by omega, by omega, get_of_set la.wf gD k2 (by omega)⟩
    · exact ⟨i3, rfl, by omega, by omega, get_of_set la.wf gD k3 (by omega)⟩⟩
  generalize h3.set h.n (.dK [(3, .ref i1), (4, .ref i2), (5, .ref i3)]) = h4 at lD r0 ⊢
  repeat walk_at "py"
  refine ⟨⟨by omega, by omega, by omega, by omega⟩, ?_⟩
  rw [show ((n : Int) + 1 - 6).toNat = n - 5 by omega]
  refine os_forL (fun k st h' => k ≤ n - 5 ∧ Le none h h' ∧ RowsD h h' h.n rEnd (k + 6) ∧ ∃ s2, st = [some (.int n), some (.ref h.n), s2]) (n - 5) (fun k st h' ⟨j1, j2, j3, s2, j4⟩ => ⟨j1, ?_⟩) _ 0 _ _ (by omega) ⟨Nat.zero_le _, lD, r0, none, rfl⟩
  subst j4
  rw [iv_rng]
  by_cases hk : k < n - 5
  · have e : (rng 6 (n - 5))[k]? = some (.int ((k + 6 : Nat) : Int)) := by
      unfold rng
      rw [List.getElem?_map, List.getElem?_range hk]
      show some (PV.int (6 + (k : Nat))) = _
      congr 2
      omega
    rw [e]
    refine .inr ⟨_, _, rfl, rfl, ?_⟩
    repeat walk_at "py"
    refine on_lst ?_
    repeat walk_at "py"
    refine ⟨⟨j2.wf, by decide⟩, fun i5 h5 l5 n5 g5 => ?_⟩
    repeat walk_at "py"
    rw [show ((k + 6 : Nat) : Int) - 2 = ((k + 4 : Nat) : Int) by omega]
    obtain ⟨kv5, d5, z5, a5⟩ := j3.le l5
    obtain ⟨ra, ra1, _, _, ra2⟩ := a5 (k + 4) (by omega) (by omega)
    refine ⟨_, ix_dK d5 ra1, ?_⟩
    have y1 := rEnd_len (k + 4)
    have y2 := rEnd_len (k + 3)
    refine on_catL (xs := [.int 0]) (ys := iL (rEnd (k + 4))) g5 ra2 l5.wf (by rw [List.length_append, List.length_map]; simp only [List.length_cons, List.length_nil]; omega) fun i6 h6 l6 n6 g6 => ?_
    repeat walk_at "py"
    refine on_lst ?_
    repeat walk_at "py"
    refine ⟨⟨l6.wf, by decide⟩, fun i7 h7 l7 n7 g7 => ?_⟩
    repeat walk_at "py"
    rw [show ((k + 6 : Nat) : Int) - 3 = ((k + 3 : Nat) : Int) by omega]
    obtain ⟨kv7, d7, z7, a7⟩ := ((j3.le l5).le l6).le l7
    obtain ⟨rb, rb1, _, _, rb2⟩ := a7 (k + 3) (by omega) (by omega)
    refine ⟨_, ix_dK d7 rb1, ?_⟩
    refine on_catL (xs := [.int 0]) (ys := iL (rEnd (k + 3))) g7 rb2 l7.wf (by rw [List.length_append, List.length_map]; simp only [List.length_cons, List.length_nil]; omega) fun i8 h8 l8 n8 g8 => ?_
    repeat walk_at "py"
    refine f_added (xs := 0 :: rEnd (k + 4)) (ys := 0 :: rEnd (k + 3)) H54 (l8.g (l7.g g6)) g8 (by rw [List.length_cons]; omega) (by rw [List.length_cons]; omega) l8.wf fun i9 h9 l9 n9 g9 => ?_
    repeat walk_at "py"
    obtain ⟨kv9, d9, z9, a9⟩ := ((((j3.le l5).le l6).le l7).le l8).le l9
    refine ⟨_, set_dK d9 (by omega), ?_⟩
    have ll : Le none h h9 := ((((j2.trans l5).trans l6).trans l7).trans l8).trans l9
    have b5 := j2.n
    have b6 := l5.n
    have b7 := l6.n
    have b8 := l7.n
    have b9 := l8.n
    have ne9 : i9 ≠ h.n := fun z => by
      have := get_lt g0
      have := lD.n
      have := l9.n
      have := get_lt d5
      omega
    refine os_nil ⟨by omega, Le.set ll (Nat.le_refl _) d9, ⟨_, get_at_set ll.wf d9, ?_, fun j y1 y2 => ?_⟩, _, rfl⟩
    · have := putG_len (k := ((k + 6 : Nat) : Int)) (v := PV.ref i9) kv9
      omega
    · rw [valG_putG]
      by_cases ej : j = k + 6
      · subst ej
        exact ⟨i9, by rw [if_pos rfl], ne9, by omega, get_of_set ll.wf d9 g9 ne9⟩
      · obtain ⟨r, r1, r2, r3, r4⟩ := a9 j y1 (by omega)
        exact ⟨r, by rw [if_neg (by omega)]; exact r1, r2, r3, get_of_set ll.wf d9 r4 r2⟩
  · rw [List.getElem?_eq_none (by rw [rng_len]; omega)]
    refine .inl ⟨rfl, ?_⟩
    repeat walk_at "py"
    obtain ⟨kvs, d1, _, a1⟩ := j3
    obtain ⟨r, r1, r2, r3, r4⟩ := a1 n hn3 (by omega)
    exact ⟨_, ix_dK d1 r1, q r _ j2 r3 r4⟩
end
end Pyx

set_option Elab.async false
set_option linter.all false
set_option maxRecDepth 100000
set_option maxHeartbeats 400000
namespace Pyx
open PySem L2
local macro_rules | `(tactic| walk_at "px") => `(tactic| first
  | (with_reducible refine ok_var (v := ?_) (by with_unfolding_all exact rfl) ?_)
  | with_reducible refine os_nil ?_
  | with_reducible refine os_cons ?_
  | with_reducible refine os_pass ?_
  | with_reducible refine os_retN ?_
  | with_reducible refine os_brk ?_
  | with_reducible refine os_cont ?_
  | with_reducible refine os_ret ?_
  | with_reducible refine os_expr ?_
  | with_reducible refine os_set ?_
  | with_reducible refine os_asg ?_
  | with_reducible refine os_par ?_
  | with_reducible refine os_par3 ?_
  | with_reducible refine os_setix ?_
  | with_reducible refine os_ite ?_
  | with_reducible refine os_for ?_
  | with_reducible refine os_while ?_
  | with_reducible refine ok_val ?_
  | with_reducible refine ok_bin ?_
  | with_reducible refine ok_neg ?_
  | with_reducible refine ok_cmp ?_
  | with_reducible refine ok_chain ?_
  | with_reducible refine ok_isin ?_
  | with_reducible refine ok_and ?_
  | with_reducible refine ok_or ?_
  | with_reducible refine ok_not ?_
  | with_reducible refine ok_ite ?_
  | with_reducible refine ok_tup ?_
  | with_reducible refine ok_lst ?_
  | with_reducible refine ok_call ?_
  | with_reducible refine ok_bi ?_
  | with_reducible refine ok_isi ?_
  | with_reducible refine ok_isis ?_
  | with_reducible refine ok_ix ?_
  | with_reducible refine ok_sl ?_
  | with_reducible refine ok_oN ?_
  | with_reducible refine ok_oS ?_
  | with_reducible refine ok_nil ?_
  | with_reducible refine ok_cons ?_
  | with_reducible refine ok_bval ?_
  | with_reducible refine ok_bbl ?_
  | with_reducible refine ok_bnot ?_
  | with_reducible refine ok_band ?_
  | with_reducible refine ok_bor ?_
  | with_reducible refine ok_ifN ?_
  | with_reducible refine ok_ifS ?_
  | with_reducible refine ok_rng1 ?_
  | with_reducible refine ok_rng2 ?_
  | with_reducible refine ok_over ?_
  | with_reducible refine ok_enum ?_
  | with_reducible refine ok_add ?_
  | with_reducible refine ok_sub ?_
  | (with_reducible refine ok_lc (by with_unfolding_all exact rfl) ?_)
  | with_reducible refine ⟨_, eq_int, ?_⟩
  | with_reducible refine ⟨_, ne_int, ?_⟩
  | with_reducible refine ⟨_, lt_int', ?_⟩
  | with_reducible refine ⟨_, le_int', ?_⟩
  | with_reducible refine ⟨_, gt_int', ?_⟩
  | with_reducible refine ⟨_, ge_int', ?_⟩
  | with_reducible refine ⟨_, eq_bl, ?_⟩
  | with_reducible refine ⟨_, ne_bl, ?_⟩
  | with_reducible refine ⟨_, ty_ii, ?_⟩
  | with_reducible refine ⟨_, ty_ib, ?_⟩
  | with_reducible refine ⟨_, ty_tt, ?_⟩
  | with_reducible refine ⟨_, ty_tl, ?_⟩
  | with_reducible refine ⟨_, ty_bb, ?_⟩
  | with_reducible refine ⟨_, ty_bi, ?_⟩
  | with_reducible refine ⟨_, truth_bl, ?_⟩
  | with_reducible refine ⟨_, (rfl : PV.bl _ = PV.bl _), ?_⟩
  | with_reducible refine ⟨_, (rfl : PV.int _ = PV.int _), ?_⟩
  | (with_reducible refine And.intro (Nat.le_of_ble_eq_true (by with_unfolding_all exact rfl)) ?_)
  | refine ⟨fun _ => ?_, fun e => nomatch (e : true = false)⟩
  | refine ⟨fun e => (nomatch (e : false = true)), fun _ => ?_⟩
  | refine ⟨fun e => (nomatch (e : true = false)), fun _ => ?_⟩
  | refine ⟨fun _ => ?_, fun e => nomatch (e : false = true)⟩)
local macro_rules | `(tactic| walk_at "py") => `(tactic| first
  | (with_reducible refine ok_var (v := ?_) (by with_unfolding_all exact rfl) ?_)
  | with_reducible refine os_nil ?_
  | with_reducible refine os_cons ?_
  | with_reducible refine os_pass ?_
  | with_reducible refine os_retN ?_
  | with_reducible refine os_brk ?_
  | with_reducible refine os_cont ?_
  | with_reducible refine os_ret ?_
  | with_reducible refine os_expr ?_
  | with_reducible refine os_set ?_
  | with_reducible refine os_asg ?_
  | with_reducible refine os_par ?_
  | with_reducible refine os_par3 ?_
  | with_reducible refine os_setix ?_
  | with_reducible refine os_ite ?_
  | with_reducible refine os_for ?_
  | with_reducible refine os_while ?_
  | with_reducible refine ok_val ?_
  | with_reducible refine ok_bin ?_
  | with_reducible refine ok_neg ?_
  | with_reducible refine ok_cmp ?_
  | with_reducible refine ok_chain ?_
  | with_reducible refine ok_isin ?_
  | with_reducible refine ok_and ?_
  | with_reducible refine ok_or ?_
  | with_reducible refine ok_not ?_
  | with_reducible refine ok_ite ?_
  | with_reducible refine ok_tup ?_
  | with_reducible refine ok_call ?_
  | with_reducible refine ok_bi ?_
  | with_reducible refine ok_isi ?_
  | with_reducible refine ok_isis ?_
  | with_reducible refine ok_ix ?_
  | with_reducible refine ok_sl ?_
  | with_reducible refine ok_oN ?_
  | with_reducible refine ok_oS ?_
  | with_reducible refine ok_nil ?_
  | with_reducible refine ok_cons ?_
  | with_reducible refine ok_bval ?_
  | with_reducible refine ok_bbl ?_
  | with_reducible refine ok_bnot ?_
  | with_reducible refine ok_band ?_
  | with_reducible refine ok_bor ?_
  | with_reducible refine ok_ifN ?_
  | with_reducible refine ok_ifS ?_
  | with_reducible refine ok_rng1 ?_
  | with_reducible refine ok_rng2 ?_
  | with_reducible refine ok_over ?_
  | with_reducible refine ok_enum ?_
  | with_reducible refine ok_add ?_
  | with_reducible refine ok_sub ?_
  | (with_reducible refine ok_lc (by with_unfolding_all exact rfl) ?_)
  | with_reducible refine ⟨_, eq_int, ?_⟩
  | with_reducible refine ⟨_, ne_int, ?_⟩
  | with_reducible refine ⟨_, lt_int', ?_⟩
  | with_reducible refine ⟨_, le_int', ?_⟩
  | with_reducible refine ⟨_, gt_int', ?_⟩
  | with_reducible refine ⟨_, ge_int', ?_⟩
  | with_reducible refine ⟨_, eq_bl, ?_⟩
  | with_reducible refine ⟨_, ne_bl, ?_⟩
  | with_reducible refine ⟨_, ty_ii, ?_⟩
  | with_reducible refine ⟨_, ty_ib, ?_⟩
  | with_reducible refine ⟨_, ty_tt, ?_⟩
  | with_reducible refine ⟨_, ty_tl, ?_⟩
  | with_reducible refine ⟨_, ty_bb, ?_⟩
  | with_reducible refine ⟨_, ty_bi, ?_⟩
  | with_reducible refine ⟨_, truth_bl, ?_⟩
  | with_reducible refine ⟨_, (rfl : PV.bl _ = PV.bl _), ?_⟩
  | with_reducible refine ⟨_, (rfl : PV.int _ = PV.int _), ?_⟩
  | (with_reducible refine And.intro (Nat.le_of_ble_eq_true (by with_unfolding_all exact rfl)) ?_)
  | refine ⟨fun _ => ?_, fun e => nomatch (e : true = false)⟩
  | refine ⟨fun e => (nomatch (e : false = true)), fun _ => ?_⟩
  | refine ⟨fun e => (nomatch (e : true = false)), fun _ => ?_⟩
  | refine ⟨fun _ => ?_, fun e => nomatch (e : false = true)⟩)
local macro_rules | `(tactic| walk_at "wf") => `(tactic| first
  | assumption
  | exact Le.wf (by assumption)
  | (with_reducible refine wf_push ?_; walk_at "wf")
  | (with_reducible refine wf_set ?_; walk_at "wf"))
local macro_rules | `(tactic| walk_at "gt") => `(tactic| first
  | assumption
  | with_reducible exact get_new
  | (with_reducible refine get_old ?_; walk_at "gt")
  | (with_reducible refine Le.g (by assumption) ?_; walk_at "gt"))
local macro_rules | `(tactic| walk_at "le") => `(tactic| first
  | assumption
  | with_reducible exact Le.refl (by walk_at "wf")
  | (with_reducible refine Le.p ?_; walk_at "le")
  | (with_reducible refine Le.trans ?_ (by assumption); walk_at "le"))
section
variable {P : Prg} {ix : Nat → Nat} {d : Nat} {h : PH} {Q : PV → PH → Prop}
/-- all counts at a line -/
def Ln.comeL (L : Ln) : List Int := if L.swB = true then rSet L.many else byT pSet L.inL
def Ln.endL (L : Ln) : List Int := if L.swB = true then rEnd L.many else byT pEnd L.inL
theorem f_by_ends (H4 : Has P ix 4 cf_held_in) (H5 : Has P ix 5 cf_flanks) (H6 : Has P ix 6 cf_is_flanked) (H7 : Has P ix 7 cf_ready_in) (H11 : Has P ix 11 cf_swings_in) (H13 : Has P ix 13 cf_stretches_in) (H48 : Has P ix 48 cf_insides) (H54 : Has P ix 54 cf_added) (H55 : Has P ix 55 cf_multiplied) (H57 : Has P ix 57 cf_path_ends) (H59 : Has P ix 59 cf_ring_ends) (H : Has P ix 60 cf_by_turns)
    {L : Ln} (G : Good1 L) (w : Wf h) (q : ∀ i h', Le none h h' → h.n ≤ i → h'.get i = some (.lst (iL L.endL)) → Q (.ref i) h') : Ok (callP P 1000 (d + 6) (ix 60) [L.v, .fn (ix 57), .fn (ix 59)] h) Q := by
  have h40 := G.most
  unfold Ln.endL at q
  cases s : L.swB with
  | true =>
    rw [if_pos s] at q
    have h3 := G.three (swB_ring s)
    exact f_by_turnsS H4 H5 H6 H7 H11 H G s (fun w q => f_ring_ends H54 H59 h3 (by omega) w q) w q
  | false =>
    rw [if_neg (by rw [s]; exact Bool.false_ne_true)] at q
    exact f_by_turns H4 H5 H6 H7 H11 H13 H48 H55 H G s (path_pEnd H54 H57) pEnd_one (fun n hn k => pEnd_wide hn k) w q
theorem f_by_comes (H4 : Has P ix 4 cf_held_in) (H5 : Has P ix 5 cf_flanks) (H6 : Has P ix 6 cf_is_flanked) (H7 : Has P ix 7 cf_ready_in) (H11 : Has P ix 11 cf_swings_in) (H13 : Has P ix 13 cf_stretches_in) (H48 : Has P ix 48 cf_insides) (H54 : Has P ix 54 cf_added) (H55 : Has P ix 55 cf_multiplied) (H56 : Has P ix 56 cf_path_sets) (H58 : Has P ix 58 cf_ring_sets) (H : Has P ix 60 cf_by_turns)
    {L : Ln} (G : Good1 L) (w : Wf h) (q : ∀ i h', Le none h h' → h.n ≤ i → h'.get i = some (.lst (iL L.comeL)) → Q (.ref i) h') : Ok (callP P 1000 (d + 6) (ix 60) [L.v, .fn (ix 56), .fn (ix 58)] h) Q := by
  have h40 := G.most
  unfold Ln.comeL at q
  cases s : L.swB with
  | true =>
    rw [if_pos s] at q
    have h3 := G.three (swB_ring s)
    exact f_by_turnsS H4 H5 H6 H7 H11 H G s (fun w q => f_ring_sets H54 H56 H58 h3 (by omega) w q) w q
  | false =>
    rw [if_neg (by rw [s]; exact Bool.false_ne_true)] at q
    exact f_by_turns H4 H5 H6 H7 H11 H13 H48 H55 H G s (path_pSet H54 H56) pSet_one (fun n hn k => pSet_wide hn k) w q
theorem g_end_count (H0 : Has P ix 0 cf_is_in) (H2 : Has P ix 2 cf_is_cells) (H1 : Has P ix 1 cf_need_line) (H4 : Has P ix 4 cf_held_in) (H5 : Has P ix 5 cf_flanks) (H6 : Has P ix 6 cf_is_flanked) (H7 : Has P ix 7 cf_ready_in) (H11 : Has P ix 11 cf_swings_in) (H13 : Has P ix 13 cf_stretches_in) (H48 : Has P ix 48 cf_insides) (H54 : Has P ix 54 cf_added) (H55 : Has P ix 55 cf_multiplied) (H57 : Has P ix 57 cf_path_ends) (H59 : Has P ix 59 cf_ring_ends) (H60 : Has P ix 60 cf_by_turns) (H : Has P ix 65 cf_end_count)
    {L : Ln} (G : Good1 L) (w : Wf h) (q : ∀ h', Le none h h' → Q (.int (sumI L.endL)) h') : Ok (callP P 1000 (d + 7) (ix 65) [L.v] h) Q := by
  refine ok_def H rfl ?_
  repeat walk_at "py"
  refine f_need_line H0 H2 H1 G w fun h1 l1 => ?_
  repeat walk_at "py"
  refine f_by_ends H4 H5 H6 H7 H11 H13 H48 H54 H55 H57 H59 H60 G l1.wf fun i h2 l2 n2 g2 => ?_
  repeat walk_at "py"
  exact ok_sumL g2 (q _ (l1.trans l2))
theorem g_come_count (H0 : Has P ix 0 cf_is_in) (H2 : Has P ix 2 cf_is_cells) (H1 : Has P ix 1 cf_need_line) (H4 : Has P ix 4 cf_held_in) (H5 : Has P ix 5 cf_flanks) (H6 : Has P ix 6 cf_is_flanked) (H7 : Has P ix 7 cf_ready_in) (H11 : Has P ix 11 cf_swings_in) (H13 : Has P ix 13 cf_stretches_in) (H48 : Has P ix 48 cf_insides) (H54 : Has P ix 54 cf_added) (H55 : Has P ix 55 cf_multiplied) (H56 : Has P ix 56 cf_path_sets) (H58 : Has P ix 58 cf_ring_sets) (H60 : Has P ix 60 cf_by_turns) (H : Has P ix 64 cf_come_count)
    {L : Ln} (G : Good1 L) (w : Wf h) (q : ∀ h', Le none h h' → Q (.int (sumI L.comeL)) h') : Ok (callP P 1000 (d + 7) (ix 64) [L.v] h) Q := by
  refine ok_def H rfl ?_
  repeat walk_at "py"
  refine f_need_line H0 H2 H1 G w fun h1 l1 => ?_
  repeat walk_at "py"
  refine f_by_comes H4 H5 H6 H7 H11 H13 H48 H54 H55 H56 H58 H60 G l1.wf fun i h2 l2 n2 g2 => ?_
  repeat walk_at "py"
  exact ok_sumL g2 (q _ (l1.trans l2))
theorem comeL_len {L : Ln} (G : Good1 L) : L.comeL.length ≤ 100 := by
  have h40 := G.most
  unfold Ln.comeL
  split
  · unfold rSet
    rw [addP_len, List.length_cons]
    have := (pSet_len (L.many - 1)).1
    have := (pSet_len (L.many - 3)).1
    omega
  · rename_i s
    have hS : ¬ L.Swing := fun z => s ((Ln.swB_is G).mpr z)
    have := (byT_len pSet_one L.inL [1] (by decide)).2
    rw [inL_sum G.one hS] at this
    have := ready_le (L := L)
    have e : ([1] : List Int).length = 1 := rfl
    unfold byT
    omega
theorem endL_len {L : Ln} (G : Good1 L) : L.endL.length ≤ 100 := by
  have h40 := G.most
  unfold Ln.endL
  split
  · have := rEnd_len L.many
    omega
  · rename_i s
    have hS : ¬ L.Swing := fun z => s ((Ln.swB_is G).mpr z)
    have := (byT_len pEnd_one L.inL [1] (by decide)).2
    rw [inL_sum G.one hS] at this
    have := ready_le (L := L)
    have e : ([1] : List Int).length = 1 := rfl
    unfold byT
    omega
/-- the counts told: no zeros at the end -/
def Cut (f : List Int) (m : Nat) : Prop := 1 ≤ m ∧ m ≤ f.length ∧ f.getD (m - 1) 0 ≠ 0 ∧ ∀ j, m ≤ j → f.getD j 0 = 0
theorem f_comes_by (H0 : Has P ix 0 cf_is_in) (H2 : Has P ix 2 cf_is_cells) (H1 : Has P ix 1 cf_need_line) (H4 : Has P ix 4 cf_held_in) (H5 : Has P ix 5 cf_flanks) (H6 : Has P ix 6 cf_is_flanked) (H7 : Has P ix 7 cf_ready_in) (H11 : Has P ix 11 cf_swings_in) (H13 : Has P ix 13 cf_stretches_in) (H48 : Has P ix 48 cf_insides) (H54 : Has P ix 54 cf_added) (H55 : Has P ix 55 cf_multiplied) (H56 : Has P ix 56 cf_path_sets) (H58 : Has P ix 58 cf_ring_sets) (H60 : Has P ix 60 cf_by_turns) (H61 : Has P ix 61 cf_trimmed) (H : Has P ix 62 cf_comes_by_turns)
    {L : Ln} (G : Good1 L) (hf : ∃ j, L.comeL.getD j 0 ≠ 0) (w : Wf h) (q : ∀ m h', Le none h h' → Cut L.comeL m → Q (.tup (iL (L.comeL.take m))) h') : Ok (callP P 1000 (d + 7) (ix 62) [L.v] h) Q := by
  refine ok_def H rfl ?_
  repeat walk_at "py"
  refine f_need_line H0 H2 H1 G w fun h1 l1 => ?_
  repeat walk_at "py"
  refine f_by_comes H4 H5 H6 H7 H11 H13 H48 H54 H55 H56 H58 H60 G l1.wf fun i h2 l2 n2 g2 => ?_
  repeat walk_at "py"
  have := comeL_len G
  exact f_trimmed H61 g2 hf (by omega) l2.wf fun m h3 l3 a1 a2 a3 a4 => q m h3 ((l1.trans l2).trans l3) ⟨a1, a2, a3, a4⟩
theorem f_ends_by (H0 : Has P ix 0 cf_is_in) (H2 : Has P ix 2 cf_is_cells) (H1 : Has P ix 1 cf_need_line) (H4 : Has P ix 4 cf_held_in) (H5 : Has P ix 5 cf_flanks) (H6 : Has P ix 6 cf_is_flanked) (H7 : Has P ix 7 cf_ready_in) (H11 : Has P ix 11 cf_swings_in) (H13 : Has P ix 13 cf_stretches_in) (H48 : Has P ix 48 cf_insides) (H54 : Has P ix 54 cf_added) (H55 : Has P ix 55 cf_multiplied) (H57 : Has P ix 57 cf_path_ends) (H59 : Has P ix 59 cf_ring_ends) (H60 : Has P ix 60 cf_by_turns) (H61 : Has P ix 61 cf_trimmed) (H : Has P ix 63 cf_ends_by_turns)
    {L : Ln} (G : Good1 L) (hf : ∃ j, L.endL.getD j 0 ≠ 0) (w : Wf h) (q : ∀ m h', Le none h h' → Cut L.endL m → Q (.tup (iL (L.endL.take m))) h') : Ok (callP P 1000 (d + 7) (ix 63) [L.v] h) Q := by
  refine ok_def H rfl ?_
  repeat walk_at "py"
  refine f_need_line H0 H2 H1 G w fun h1 l1 => ?_
  repeat walk_at "py"
  refine f_by_ends H4 H5 H6 H7 H11 H13 H48 H54 H55 H57 H59 H60 G l1.wf fun i h2 l2 n2 g2 => ?_
  repeat walk_at "py"
  have := endL_len G
  exact f_trimmed H61 g2 hf (by omega) l2.wf fun m h3 l3 a1 a2 a3 a4 => q m h3 ((l1.trans l2).trans l3) ⟨a1, a2, a3, a4⟩
end
theorem byT_one (g : Nat → List Int) (hg : ∀ n, g n ≠ []) (m : Nat) : sumI (byT g [m]) = sumI (g m) := by
  unfold byT
  rw [List.foldl_cons, List.foldl_nil, sum_mulP _ _ (hg m)]
  show (1 + 0) * _ = _
  omega
end Pyx

set_option Elab.async false
set_option linter.all false
namespace Pyx
open PySem L2
theorem len0 : ([] : List PV).length ≤ 100000 := Nat.zero_le _
theorem len1 {a0 : PV} : ([a0] : List PV).length ≤ 100000 := by simp only [List.length_cons, List.length_nil]; omega
theorem len2 {a0 a1 : PV} : ([a0, a1] : List PV).length ≤ 100000 := by simp only [List.length_cons, List.length_nil]; omega
theorem len3 {a0 a1 a2 : PV} : ([a0, a1, a2] : List PV).length ≤ 100000 := by simp only [List.length_cons, List.length_nil]; omega
theorem len4 {a0 a1 a2 a3 : PV} : ([a0, a1, a2, a3] : List PV).length ≤ 100000 := by simp only [List.length_cons, List.length_nil]; omega
theorem len5 {a0 a1 a2 a3 a4 : PV} : ([a0, a1, a2, a3, a4] : List PV).length ≤ 100000 := by simp only [List.length_cons, List.length_nil]; omega
theorem len6 {a0 a1 a2 a3 a4 a5 : PV} : ([a0, a1, a2, a3, a4, a5] : List PV).length ≤ 100000 := by simp only [List.length_cons, List.length_nil]; omega
theorem len7 {a0 a1 a2 a3 a4 a5 a6 : PV} : ([a0, a1, a2, a3, a4, a5, a6] : List PV).length ≤ 100000 := by simp only [List.length_cons, List.length_nil]; omega
theorem len8 {a0 a1 a2 a3 a4 a5 a6 a7 : PV} : ([a0, a1, a2, a3, a4, a5, a6, a7] : List PV).length ≤ 100000 := by simp only [List.length_cons, List.length_nil]; omega
theorem len9 {a0 a1 a2 a3 a4 a5 a6 a7 a8 : PV} : ([a0, a1, a2, a3, a4, a5, a6, a7, a8] : List PV).length ≤ 100000 := by simp only [List.length_cons, List.length_nil]; omega
theorem len10 {a0 a1 a2 a3 a4 a5 a6 a7 a8 a9 : PV} : ([a0, a1, a2, a3, a4, a5, a6, a7, a8, a9] : List PV).length ≤ 100000 := by simp only [List.length_cons, List.length_nil]; omega
end Pyx

set_option Elab.async false
set_option linter.all false
set_option maxRecDepth 1000000
set_option maxHeartbeats 4000000
namespace Lk19
open PySem PySem.Spec PyProof.Rows L2 Pyx
/-! ### the text -/
def top (i : Nat) : Stmt := PySem.Challenge.pw_flankturns_k19_whole_counts_of_long_line.main.body.getD i (.Pass ⟨0, 0, 0, 0⟩)
abbrev s_is_in : Stmt := top 4
def d_is_in : DefR := { x := "is_in", st := s_is_in, N := ["value", "least", "most"], ps := ["value", "least", "most"] }
abbrev s_need_line : Stmt := top 9
def d_need_line : DefR := { x := "need_line", st := s_need_line, N := ["line", "cells", "held", "is_ring", "least", "index", "one"], ps := ["line"] }
abbrev s_is_cells : Stmt := top 10
def d_is_cells : DefR := { x := "is_cells", st := s_is_cells, N := ["many", "value", "x"], ps := ["many", "value"] }
abbrev s_held_in : Stmt := top 11
def d_held_in : DefR := { x := "held_in", st := s_held_in, N := ["line", "cells", "held", "is_ring", "ends"], ps := ["line"] }
abbrev s_flanks : Stmt := top 12
def d_flanks : DefR := { x := "flanks", st := s_flanks, N := ["many", "cell"], ps := ["many", "cell"] }
abbrev s_is_flanked : Stmt := top 13
def d_is_flanked : DefR := { x := "is_flanked", st := s_is_flanked, N := ["cells", "cell", "left", "right"], ps := ["cells", "cell"] }
abbrev s_ready_in : Stmt := top 14
def d_ready_in : DefR := { x := "ready_in", st := s_ready_in, N := ["line", "held", "k"], ps := ["line"] }
abbrev s_swings_in : Stmt := top 15
def d_swings_in : DefR := { x := "swings_in", st := s_swings_in, N := ["line"], ps := ["line"] }
abbrev s_stretches_in : Stmt := top 16
def d_stretches_in : DefR := { x := "stretches_in", st := s_stretches_in, N := ["line", "ready", "many", "found", "k", "here"], ps := ["line"] }
abbrev s_insides : Stmt := top 18
def d_insides : DefR := { x := "insides", st := s_insides, N := ["line", "one"], ps := ["line"] }
abbrev s_added : Stmt := top 19
def d_added : DefR := { x := "added", st := s_added, N := ["one", "other", "size", "long", "short", "a", "b"], ps := ["one", "other"] }
abbrev s_multiplied : Stmt := top 20
def d_multiplied : DefR := { x := "multiplied", st := s_multiplied, N := ["one", "other", "found", "k", "a", "j", "b"], ps := ["one", "other"] }
abbrev s_path_sets : Stmt := top 21
def d_path_sets : DefR := { x := "path_sets", st := s_path_sets, N := ["many", "rows"], ps := ["many"] }
abbrev s_path_ends : Stmt := top 22
def d_path_ends : DefR := { x := "path_ends", st := s_path_ends, N := ["many", "rows"], ps := ["many"] }
abbrev s_ring_sets : Stmt := top 23
def d_ring_sets : DefR := { x := "ring_sets", st := s_ring_sets, N := ["many"], ps := ["many"] }
abbrev s_ring_ends : Stmt := top 24
def d_ring_ends : DefR := { x := "ring_ends", st := s_ring_ends, N := ["many", "rows", "size"], ps := ["many"] }
abbrev s_by_turns : Stmt := top 25
def d_by_turns : DefR := { x := "by_turns", st := s_by_turns, N := ["line", "path", "ring", "found", "some"], ps := ["line", "path", "ring"] }
abbrev s_trimmed : Stmt := top 26
def d_trimmed : DefR := { x := "trimmed", st := s_trimmed, N := ["counts", "found"], ps := ["counts"] }
abbrev s_comes_by_turns : Stmt := top 27
def d_comes_by_turns : DefR := { x := "comes_by_turns", st := s_comes_by_turns, N := ["line"], ps := ["line"] }
abbrev s_ends_by_turns : Stmt := top 28
def d_ends_by_turns : DefR := { x := "ends_by_turns", st := s_ends_by_turns, N := ["line"], ps := ["line"] }
abbrev s_come_count : Stmt := top 29
def d_come_count : DefR := { x := "come_count", st := s_come_count, N := ["line"], ps := ["line"] }
abbrev s_end_count : Stmt := top 30
def d_end_count : DefR := { x := "end_count", st := s_end_count, N := ["line"], ps := ["line"] }
abbrev s__law_taken : Stmt := top 32
def d__law_taken : DefR := { x := "_law_taken", st := s__law_taken, N := ["_law_row", "_law_many", "_law_found", "_law_cell"], ps := ["_law_row", "_law_many"] }
abbrev s_law : Stmt := top 33
def d_law : DefR := { x := "law", st := s_law, N := ["_law_script", "_law_row", "_law_many", "_law_comes", "_law_lasts", "_law_line", "_law_k", "_law_size", "_law_ring", "_law_around", "_law_perrin"], ps := ["_law_script"] }
def txt : Txt := { defs := [d_is_in, d_need_line, d_is_cells, d_held_in, d_flanks, d_is_flanked, d_ready_in, d_swings_in, d_stretches_in, d_insides, d_added, d_multiplied, d_path_sets, d_path_ends, d_ring_sets, d_ring_ends, d_by_turns, d_trimmed, d_comes_by_turns, d_ends_by_turns, d_come_count, d_end_count, d__law_taken, d_law], consts := [("MOST_CELLS", .int 40), ("MOST_COLOUR", .int 9), ("LEAST_RING", .int 3)], nob := ["int", "len", "max", "min", "range", "sum", "tuple", "list", "zip", "bool", "enumerate", "isinstance", "set", "sorted"], dts := [] }
/-! ### the code -/
def ix : Nat → Nat := fun g => ([0, 1, 2, 0, 3, 4, 5, 6, 0, 0, 0, 7, 0, 8, 0, 0, 0, 0, 0, 0, 0, 0, 0, 0, 0, 0, 0, 0, 0, 0, 0, 0, 0, 0, 0, 0, 0, 0, 22, 0, 0, 0, 0, 0, 0, 0, 0, 0, 9, 0, 0, 0, 0, 0, 10, 11, 12, 13, 14, 15, 16, 17, 18, 19, 20, 21, 0, 0, 0, 0, 0, 0, 0, 0, 0, 0, 0, 0, 0, 0, 0, 0, 0, 0, 0, 0, 0, 0, 0, 0, 0, 0, 0, 0, 0, 0, 0, 0, 0, 0] : List Nat).getD g 0
def c_is_in : Def := Pyx.cf_is_in ix
def c_need_line : Def := Pyx.cf_need_line ix
def c_is_cells : Def := Pyx.cf_is_cells ix
def c_held_in : Def := Pyx.cf_held_in ix
def c_flanks : Def := Pyx.cf_flanks ix
def c_is_flanked : Def := Pyx.cf_is_flanked ix
def c_ready_in : Def := Pyx.cf_ready_in ix
def c_swings_in : Def := Pyx.cf_swings_in ix
def c_stretches_in : Def := Pyx.cf_stretches_in ix
def c_insides : Def := Pyx.cf_insides ix
def c_added : Def := Pyx.cf_added ix
def c_multiplied : Def := Pyx.cf_multiplied ix
def c_path_sets : Def := Pyx.cf_path_sets ix
def c_path_ends : Def := Pyx.cf_path_ends ix
def c_ring_sets : Def := Pyx.cf_ring_sets ix
def c_ring_ends : Def := Pyx.cf_ring_ends ix
def c_by_turns : Def := Pyx.cf_by_turns ix
def c_trimmed : Def := Pyx.cf_trimmed ix
def c_comes_by_turns : Def := Pyx.cf_comes_by_turns ix
def c_ends_by_turns : Def := Pyx.cf_ends_by_turns ix
def c_come_count : Def := Pyx.cf_come_count ix
def c_end_count : Def := Pyx.cf_end_count ix
def c__law_taken : Def := Pyx.cf__law_taken ix
def c_law : Def := { ar := 1, sz := 11, body := [(.asg (.nm 1) (.lst [(.var 0), (.val (.int 0)), (.val (.int 8219)), (.val (.int 0))])), (.asg (.nm 2) (.bin .add (.val (.int 3)) (.call (ix 38) [(.var 1), (.val (.int 38))]))), (.par 3 4 (.lst [(.val (.int 0)), (.val (.int 1)), (.val (.int 1)), (.val (.int 2))]) (.lst [(.val (.int 0)), (.val (.int 1)), (.val (.int 1)), (.val (.int 1)), (.val (.int 2)), (.val (.int 2))])), (.while (.bl (.cmp .le (.bi .len [(.var 3)]) (.bin .add (.var 2) (.val (.int 1))))) [(.expr (.mt .append (.var 3) [(.bin .add (.ix (.var 3) (.neg (.val (.int 1)))) (.ix (.var 3) (.neg (.val (.int 2)))))]))]), (.while (.bl (.cmp .le (.bi .len [(.var 4)]) (.bin .add (.var 2) (.val (.int 1))))) [(.expr (.mt .append (.var 4) [(.bin .add (.ix (.var 4) (.neg (.val (.int 2)))) (.ix (.var 4) (.neg (.val (.int 3)))))]))]), (.asg (.nm 5) (.tup [(.bi .tuple [(.lc (.rng1 (.var 2)) (.nm 6) [6] none (.bin .mod (.bi .int [(.var 6)]) (.val (.int 2))))]), (.tup []), (.val (.bl false))])), (.ite (.or (.bl (.cmp .ne (.call (ix 64) [(.var 5)]) (.ix (.var 3) (.var 2)))) (.bl (.cmp .ne (.call (ix 65) [(.var 5)]) (.ix (.var 4) (.var 2))))) [(.ret (.val (.bl false)))] []), (.ite (.or (.bl (.cmp .ne (.bi .sum [(.call (ix 62) [(.var 5)])]) (.ix (.var 3) (.var 2)))) (.bl (.cmp .ne (.bi .sum [(.call (ix 63) [(.var 5)])]) (.ix (.var 4) (.var 2))))) [(.ret (.val (.bl false)))] []), (.asg (.nm 7) (.ite (.bl (.cmp .eq (.bin .mod (.bi .int [(.var 2)]) (.val (.int 2))) (.val (.int 0)))) (.var 2) (.bin .add (.var 2) (.val (.int 1))))), (.asg (.nm 7) (.bi .min [(.val (.int 40)), (.bi .max [(.val (.int 4)), (.var 7)])])), (.asg (.nm 8) (.tup [(.bi .tuple [(.lc (.rng1 (.var 7)) (.nm 6) [6] none (.bin .mod (.bi .int [(.var 6)]) (.val (.int 2))))]), (.tup []), (.val (.bl true))])), (.par 9 10 (.lst [(.val (.int 2)), (.val (.int 1))]) (.lst [(.val (.int 3)), (.val (.int 0)), (.val (.int 2))])), (.while (.bl (.cmp .le (.bi .len [(.var 9)]) (.var 7))) [(.expr (.mt .append (.var 9) [(.bin .add (.ix (.var 9) (.neg (.val (.int 1)))) (.ix (.var 9) (.neg (.val (.int 2)))))]))]), (.while (.bl (.cmp .le (.bi .len [(.var 10)]) (.var 7))) [(.expr (.mt .append (.var 10) [(.bin .add (.ix (.var 10) (.neg (.val (.int 2)))) (.ix (.var 10) (.neg (.val (.int 3)))))]))]), (.ret (.and (.cmp .eq (.call (ix 64) [(.var 8)]) (.ix (.var 9) (.var 7))) (.cmp .eq (.call (ix 65) [(.var 8)]) (.ix (.var 10) (.var 7)))))] }
def prg : Prg := [c_is_in, c_need_line, c_is_cells, c_held_in, c_flanks, c_is_flanked, c_ready_in, c_swings_in, c_stretches_in, c_insides, c_added, c_multiplied, c_path_sets, c_path_ends, c_ring_sets, c_ring_ends, c_by_turns, c_trimmed, c_comes_by_turns, c_ends_by_turns, c_come_count, c_end_count, c__law_taken, c_law]
theorem k_is_in : cDef txt d_is_in = some c_is_in := by kernel_rfl
theorem z_is_in : scopeB d_is_in = true := by kernel_rfl
theorem k_need_line : cDef txt d_need_line = some c_need_line := by kernel_rfl
theorem z_need_line : scopeB d_need_line = true := by kernel_rfl
theorem k_is_cells : cDef txt d_is_cells = some c_is_cells := by kernel_rfl
theorem z_is_cells : scopeB d_is_cells = true := by kernel_rfl
theorem k_held_in : cDef txt d_held_in = some c_held_in := by kernel_rfl
theorem z_held_in : scopeB d_held_in = true := by kernel_rfl
theorem k_flanks : cDef txt d_flanks = some c_flanks := by kernel_rfl
theorem z_flanks : scopeB d_flanks = true := by kernel_rfl
theorem k_is_flanked : cDef txt d_is_flanked = some c_is_flanked := by kernel_rfl
theorem z_is_flanked : scopeB d_is_flanked = true := by kernel_rfl
theorem k_ready_in : cDef txt d_ready_in = some c_ready_in := by kernel_rfl
theorem z_ready_in : scopeB d_ready_in = true := by kernel_rfl
theorem k_swings_in : cDef txt d_swings_in = some c_swings_in := by kernel_rfl
theorem z_swings_in : scopeB d_swings_in = true := by kernel_rfl
theorem k_stretches_in : cDef txt d_stretches_in = some c_stretches_in := by kernel_rfl
theorem z_stretches_in : scopeB d_stretches_in = true := by kernel_rfl
theorem k_insides : cDef txt d_insides = some c_insides := by kernel_rfl
theorem z_insides : scopeB d_insides = true := by kernel_rfl
theorem k_added : cDef txt d_added = some c_added := by kernel_rfl
theorem z_added : scopeB d_added = true := by kernel_rfl
theorem k_multiplied : cDef txt d_multiplied = some c_multiplied := by kernel_rfl
theorem z_multiplied : scopeB d_multiplied = true := by kernel_rfl
theorem k_path_sets : cDef txt d_path_sets = some c_path_sets := by kernel_rfl
theorem z_path_sets : scopeB d_path_sets = true := by kernel_rfl
theorem k_path_ends : cDef txt d_path_ends = some c_path_ends := by kernel_rfl
theorem z_path_ends : scopeB d_path_ends = true := by kernel_rfl
theorem k_ring_sets : cDef txt d_ring_sets = some c_ring_sets := by kernel_rfl
theorem z_ring_sets : scopeB d_ring_sets = true := by kernel_rfl
theorem k_ring_ends : cDef txt d_ring_ends = some c_ring_ends := by kernel_rfl
theorem z_ring_ends : scopeB d_ring_ends = true := by kernel_rfl
theorem k_by_turns : cDef txt d_by_turns = some c_by_turns := by kernel_rfl
theorem z_by_turns : scopeB d_by_turns = true := by kernel_rfl
theorem k_trimmed : cDef txt d_trimmed = some c_trimmed := by kernel_rfl
theorem z_trimmed : scopeB d_trimmed = true := by kernel_rfl
theorem k_comes_by_turns : cDef txt d_comes_by_turns = some c_comes_by_turns := by kernel_rfl
theorem z_comes_by_turns : scopeB d_comes_by_turns = true := by kernel_rfl
theorem k_ends_by_turns : cDef txt d_ends_by_turns = some c_ends_by_turns := by kernel_rfl
theorem z_ends_by_turns : scopeB d_ends_by_turns = true := by kernel_rfl
theorem k_come_count : cDef txt d_come_count = some c_come_count := by kernel_rfl
theorem z_come_count : scopeB d_come_count = true := by kernel_rfl
theorem k_end_count : cDef txt d_end_count = some c_end_count := by kernel_rfl
theorem z_end_count : scopeB d_end_count = true := by kernel_rfl
theorem k__law_taken : cDef txt d__law_taken = some c__law_taken := by kernel_rfl
theorem z__law_taken : scopeB d__law_taken = true := by kernel_rfl
theorem k_law : cDef txt d_law = some c_law := by kernel_rfl
theorem z_law : scopeB d_law = true := by kernel_rfl
theorem isP : Is txt prg := is_of ⟨⟨k_is_in, z_is_in⟩, ⟨k_need_line, z_need_line⟩, ⟨k_is_cells, z_is_cells⟩, ⟨k_held_in, z_held_in⟩, ⟨k_flanks, z_flanks⟩, ⟨k_is_flanked, z_is_flanked⟩, ⟨k_ready_in, z_ready_in⟩, ⟨k_swings_in, z_swings_in⟩, ⟨k_stretches_in, z_stretches_in⟩, ⟨k_insides, z_insides⟩, ⟨k_added, z_added⟩, ⟨k_multiplied, z_multiplied⟩, ⟨k_path_sets, z_path_sets⟩, ⟨k_path_ends, z_path_ends⟩, ⟨k_ring_sets, z_ring_sets⟩, ⟨k_ring_ends, z_ring_ends⟩, ⟨k_by_turns, z_by_turns⟩, ⟨k_trimmed, z_trimmed⟩, ⟨k_comes_by_turns, z_comes_by_turns⟩, ⟨k_ends_by_turns, z_ends_by_turns⟩, ⟨k_come_count, z_come_count⟩, ⟨k_end_count, z_end_count⟩, ⟨k__law_taken, z__law_taken⟩, ⟨k_law, z_law⟩, trivial⟩ rfl
/-! ### what it answers -/
theorem H0 : Has prg ix 0 cf_is_in := rfl
theorem H1 : Has prg ix 1 cf_need_line := rfl
theorem H2 : Has prg ix 2 cf_is_cells := rfl
theorem H4 : Has prg ix 4 cf_held_in := rfl
theorem H5 : Has prg ix 5 cf_flanks := rfl
theorem H6 : Has prg ix 6 cf_is_flanked := rfl
theorem H7 : Has prg ix 7 cf_ready_in := rfl
theorem H11 : Has prg ix 11 cf_swings_in := rfl
theorem H13 : Has prg ix 13 cf_stretches_in := rfl
theorem H48 : Has prg ix 48 cf_insides := rfl
theorem H54 : Has prg ix 54 cf_added := rfl
theorem H55 : Has prg ix 55 cf_multiplied := rfl
theorem H56 : Has prg ix 56 cf_path_sets := rfl
theorem H57 : Has prg ix 57 cf_path_ends := rfl
theorem H58 : Has prg ix 58 cf_ring_sets := rfl
theorem H59 : Has prg ix 59 cf_ring_ends := rfl
theorem H60 : Has prg ix 60 cf_by_turns := rfl
theorem H61 : Has prg ix 61 cf_trimmed := rfl
theorem H62 : Has prg ix 62 cf_comes_by_turns := rfl
theorem H63 : Has prg ix 63 cf_ends_by_turns := rfl
theorem H64 : Has prg ix 64 cf_come_count := rfl
theorem H65 : Has prg ix 65 cf_end_count := rfl
theorem H38 : Has prg ix 38 cf__law_taken := rfl
local macro_rules | `(tactic| walk_at "px") => `(tactic| first
  | (with_reducible refine ok_var (v := ?_) (by with_unfolding_all exact rfl) ?_)
  | with_reducible refine os_nil ?_
  | with_reducible refine os_cons ?_
  | with_reducible refine os_pass ?_
  | with_reducible refine os_retN ?_
  | with_reducible refine os_brk ?_
  | with_reducible refine os_cont ?_
  | with_reducible refine os_ret ?_
  | with_reducible refine os_expr ?_
  | with_reducible refine os_set ?_
  | with_reducible refine os_asg ?_
  | with_reducible refine os_par ?_
  | with_reducible refine os_par3 ?_
  | with_reducible refine os_setix ?_
  | with_reducible refine os_ite ?_
  | with_reducible refine os_for ?_
  | with_reducible refine os_while ?_
  | with_reducible refine ok_val ?_
  | with_reducible refine ok_bin ?_
  | with_reducible refine ok_neg ?_
  | with_reducible refine ok_cmp ?_
  | with_reducible refine ok_chain ?_
  | with_reducible refine ok_isin ?_
  | with_reducible refine ok_and ?_
  | with_reducible refine ok_or ?_
  | with_reducible refine ok_not ?_
  | with_reducible refine ok_ite ?_
  | with_reducible refine ok_tup ?_
  | with_reducible refine ok_lst ?_
  | with_reducible refine ok_call ?_
  | with_reducible refine ok_bi ?_
  | with_reducible refine ok_isi ?_
  | with_reducible refine ok_isis ?_
  | with_reducible refine ok_ix ?_
  | with_reducible refine ok_sl ?_
  | with_reducible refine ok_oN ?_
  | with_reducible refine ok_oS ?_
  | with_reducible refine ok_nil ?_
  | with_reducible refine ok_cons ?_
  | with_reducible refine ok_bval ?_
  | with_reducible refine ok_bbl ?_
  | with_reducible refine ok_bnot ?_
  | with_reducible refine ok_band ?_
  | with_reducible refine ok_bor ?_
  | with_reducible refine ok_ifN ?_
  | with_reducible refine ok_ifS ?_
  | with_reducible refine ok_rng1 ?_
  | with_reducible refine ok_rng2 ?_
  | with_reducible refine ok_over ?_
  | with_reducible refine ok_enum ?_
  | with_reducible refine ok_add ?_
  | with_reducible refine ok_sub ?_
  | (with_reducible refine ok_lc (by with_unfolding_all exact rfl) ?_)
  | with_reducible refine ⟨_, eq_int, ?_⟩
  | with_reducible refine ⟨_, ne_int, ?_⟩
  | with_reducible refine ⟨_, lt_int', ?_⟩
  | with_reducible refine ⟨_, le_int', ?_⟩
  | with_reducible refine ⟨_, gt_int', ?_⟩
  | with_reducible refine ⟨_, ge_int', ?_⟩
  | with_reducible refine ⟨_, eq_bl, ?_⟩
  | with_reducible refine ⟨_, ne_bl, ?_⟩
  | with_reducible refine ⟨_, ty_ii, ?_⟩
  | with_reducible refine ⟨_, ty_ib, ?_⟩
  | with_reducible refine ⟨_, ty_tt, ?_⟩
  | with_reducible refine ⟨_, ty_tl, ?_⟩
  | with_reducible refine ⟨_, ty_bb, ?_⟩
  | with_reducible refine ⟨_, ty_bi, ?_⟩
  | with_reducible refine ⟨_, truth_bl, ?_⟩
  | with_reducible refine ⟨_, (rfl : PV.bl _ = PV.bl _), ?_⟩
  | with_reducible refine ⟨_, (rfl : PV.int _ = PV.int _), ?_⟩
  | with_reducible refine ⟨len0, ?_⟩
  | with_reducible refine ⟨len1, ?_⟩
  | with_reducible refine ⟨len2, ?_⟩
  | with_reducible refine ⟨len3, ?_⟩
  | with_reducible refine ⟨len4, ?_⟩
  | with_reducible refine ⟨len5, ?_⟩
  | with_reducible refine ⟨len6, ?_⟩
  | with_reducible refine ⟨len7, ?_⟩
  | with_reducible refine ⟨len8, ?_⟩
  | with_reducible refine ⟨len9, ?_⟩
  | with_reducible refine ⟨len10, ?_⟩
  | (with_reducible refine And.intro (fun _ => ?_) (fun e => no_tf (by with_unfolding_all exact e)))
  | (with_reducible refine And.intro (fun e => no_ft (by with_unfolding_all exact e)) (fun _ => ?_))
  | (with_reducible refine And.intro (fun e => no_tf (by with_unfolding_all exact e)) (fun _ => ?_))
  | (with_reducible refine And.intro (fun _ => ?_) (fun e => no_ft (by with_unfolding_all exact e))))
local macro_rules | `(tactic| walk_at "py") => `(tactic| first
  | (with_reducible refine ok_var (v := ?_) (by with_unfolding_all exact rfl) ?_)
  | with_reducible refine os_nil ?_
  | with_reducible refine os_cons ?_
  | with_reducible refine os_pass ?_
  | with_reducible refine os_retN ?_
  | with_reducible refine os_brk ?_
  | with_reducible refine os_cont ?_
  | with_reducible refine os_ret ?_
  | with_reducible refine os_expr ?_
  | with_reducible refine os_set ?_
  | with_reducible refine os_asg ?_
  | with_reducible refine os_par ?_
  | with_reducible refine os_par3 ?_
  | with_reducible refine os_setix ?_
  | with_reducible refine os_ite ?_
  | with_reducible refine os_for ?_
  | with_reducible refine os_while ?_
  | with_reducible refine ok_val ?_
  | with_reducible refine ok_bin ?_
  | with_reducible refine ok_neg ?_
  | with_reducible refine ok_cmp ?_
  | with_reducible refine ok_chain ?_
  | with_reducible refine ok_isin ?_
  | with_reducible refine ok_and ?_
  | with_reducible refine ok_or ?_
  | with_reducible refine ok_not ?_
  | with_reducible refine ok_ite ?_
  | with_reducible refine ok_tup ?_
  | with_reducible refine ok_call ?_
  | with_reducible refine ok_bi ?_
  | with_reducible refine ok_isi ?_
  | with_reducible refine ok_isis ?_
  | with_reducible refine ok_ix ?_
  | with_reducible refine ok_sl ?_
  | with_reducible refine ok_oN ?_
  | with_reducible refine ok_oS ?_
  | with_reducible refine ok_nil ?_
  | with_reducible refine ok_cons ?_
  | with_reducible refine ok_bval ?_
  | with_reducible refine ok_bbl ?_
  | with_reducible refine ok_bnot ?_
  | with_reducible refine ok_band ?_
  | with_reducible refine ok_bor ?_
  | with_reducible refine ok_ifN ?_
  | with_reducible refine ok_ifS ?_
  | with_reducible refine ok_rng1 ?_
  | with_reducible refine ok_rng2 ?_
  | with_reducible refine ok_over ?_
  | with_reducible refine ok_enum ?_
  | with_reducible refine ok_add ?_
  | with_reducible refine ok_sub ?_
  | (with_reducible refine ok_lc (by with_unfolding_all exact rfl) ?_)
  | with_reducible refine ⟨_, eq_int, ?_⟩
  | with_reducible refine ⟨_, ne_int, ?_⟩
  | with_reducible refine ⟨_, lt_int', ?_⟩
  | with_reducible refine ⟨_, le_int', ?_⟩
  | with_reducible refine ⟨_, gt_int', ?_⟩
  | with_reducible refine ⟨_, ge_int', ?_⟩
  | with_reducible refine ⟨_, eq_bl, ?_⟩
  | with_reducible refine ⟨_, ne_bl, ?_⟩
  | with_reducible refine ⟨_, ty_ii, ?_⟩
  | with_reducible refine ⟨_, ty_ib, ?_⟩
  | with_reducible refine ⟨_, ty_tt, ?_⟩
  | with_reducible refine ⟨_, ty_tl, ?_⟩
  | with_reducible refine ⟨_, ty_bb, ?_⟩
  | with_reducible refine ⟨_, ty_bi, ?_⟩
  | with_reducible refine ⟨_, truth_bl, ?_⟩
  | with_reducible refine ⟨_, (rfl : PV.bl _ = PV.bl _), ?_⟩
  | with_reducible refine ⟨_, (rfl : PV.int _ = PV.int _), ?_⟩
  | with_reducible refine ⟨len0, ?_⟩
  | with_reducible refine ⟨len1, ?_⟩
  | with_reducible refine ⟨len2, ?_⟩
  | with_reducible refine ⟨len3, ?_⟩
  | with_reducible refine ⟨len4, ?_⟩
  | with_reducible refine ⟨len5, ?_⟩
  | with_reducible refine ⟨len6, ?_⟩
  | with_reducible refine ⟨len7, ?_⟩
  | with_reducible refine ⟨len8, ?_⟩
  | with_reducible refine ⟨len9, ?_⟩
  | with_reducible refine ⟨len10, ?_⟩
  | (with_reducible refine And.intro (fun _ => ?_) (fun e => no_tf (by with_unfolding_all exact e)))
  | (with_reducible refine And.intro (fun e => no_ft (by with_unfolding_all exact e)) (fun _ => ?_))
  | (with_reducible refine And.intro (fun e => no_tf (by with_unfolding_all exact e)) (fun _ => ?_))
  | (with_reducible refine And.intro (fun _ => ?_) (fun e => no_ft (by with_unfolding_all exact e))))
local macro_rules | `(tactic| walk_at "wf") => `(tactic| first
  | assumption
  | exact Le.wf (by assumption)
  | (with_reducible refine wf_push ?_; walk_at "wf")
  | (with_reducible refine wf_set ?_; walk_at "wf"))
local macro_rules | `(tactic| walk_at "gt") => `(tactic| first
  | assumption
  | with_reducible exact get_new
  | (with_reducible refine get_old ?_; walk_at "gt")
  | (with_reducible refine Le.g (by assumption) ?_; walk_at "gt"))
local macro_rules | `(tactic| walk_at "le") => `(tactic| first
  | assumption
  | with_reducible exact Le.refl (by walk_at "wf")
  | (with_reducible refine Le.p ?_; walk_at "le")
  | (with_reducible refine Le.trans ?_ (by assumption); walk_at "le"))

theorem mainG {P : Prg} (H0 : Has P ix 0 cf_is_in) (H1 : Has P ix 1 cf_need_line) (H2 : Has P ix 2 cf_is_cells) (H4 : Has P ix 4 cf_held_in) (H5 : Has P ix 5 cf_flanks) (H6 : Has P ix 6 cf_is_flanked) (H7 : Has P ix 7 cf_ready_in) (H11 : Has P ix 11 cf_swings_in) (H13 : Has P ix 13 cf_stretches_in) (H48 : Has P ix 48 cf_insides) (H54 : Has P ix 54 cf_added) (H55 : Has P ix 55 cf_multiplied) (H56 : Has P ix 56 cf_path_sets) (H57 : Has P ix 57 cf_path_ends) (H58 : Has P ix 58 cf_ring_sets) (H59 : Has P ix 59 cf_ring_ends) (H60 : Has P ix 60 cf_by_turns) (H61 : Has P ix 61 cf_trimmed) (H62 : Has P ix 62 cf_comes_by_turns) (H63 : Has P ix 63 cf_ends_by_turns) (H64 : Has P ix 64 cf_come_count) (H65 : Has P ix 65 cf_end_count) (H38 : Has P ix 38 cf__law_taken) (S_law : (show List Def from P)[23]? = some c_law) (ns : List Int) (hl : ns.length ≤ 63) : ∃ h', callP P 1000 40 23 [.ref 0] (start1 ns) = .ok (.bl true) h' := by
  refine ok_is (Q := fun v _ => v = .bl true) ?_ (fun v h z => z)
  have w0 : Wf (start1 ns) := rfl
  have e0 : (start1 ns).get 0 = some (.fz (ns.map PV.int)) := rfl
  have n0 : (start1 ns).n = 1 := rfl
  generalize start1 ns = h0 at w0 e0 n0 ⊢
  refine ok_def S_law rfl ?_
  repeat walk_at "px"
  have R : RowAt (h0.push (.lst [.ref 0, .int 0, .int 8219, .int 0])) h0.n := ⟨ns, 0, 8219, 0, get_old e0, get_new, by decide⟩
  have w1 : Wf (h0.push (.lst [.ref 0, .int 0, .int 8219, .int 0])) := wf_push w0
  generalize h0.push (.lst [.ref 0, .int 0, .int 8219, .int 0]) = h1 at R w1 ⊢
  rw [n0] at R ⊢
  refine f_taken H38 (by decide) R w1 (by decide) (by decide) fun x h2 x0 x4 l2 => ?_
  have w2 := l2.wf
  clear l2 R
  obtain ⟨n, en⟩ : ∃ n : Nat, (n : Int) = 3 + x := ⟨(3 + x).toNat, by omega⟩
  have n3 : 3 ≤ n := by omega
  have n40 : n ≤ 40 := by omega
  repeat walk_at "py"
  rw [← en]
  refine on_lst ?_
  repeat walk_at "py"
  refine ⟨⟨w2, by simp only [List.length_cons, List.length_nil]; omega⟩, fun c h3 l3 n3' g3 => ?_⟩
  refine on_lst ?_
  repeat walk_at "py"
  refine ⟨⟨l3.wf, by simp only [List.length_cons, List.length_nil]; omega⟩, fun e h4 l4 n4 g4 => ?_⟩
  have cl := get_lt g3
  have ce : e ≠ c := fun z => by omega
  have gc : h4.get c = some (.lst (iL ((List.range 4).map fibN))) := l4.g g3
  have ge : h4.get e = some (.lst (iL ((List.range 6).map padN))) := g4
  have w4 := l4.wf
  repeat walk_at "py"
  refine w_rec (R := c) (i := 1) (j := 2) (m0 := 4) (M := (n : Int) + 1) (g := fibN) rfl (fun q => by
    refine ok_bin (ok_var rfl (ok_val (ok_add ?_)))
    exact q) (fun k hk => ?_) (by decide) (by decide) (by decide) (by decide) (by omega) (by decide) (by decide) w4 gc fun mc h5 z5 w5 s5 g5 k5 => ?_
  · obtain ⟨j, rfl⟩ : ∃ j, k = j + 2 := ⟨k - 2, by omega⟩
    rfl
  have ge := k5 e _ ce ge
  clear k5
  repeat walk_at "py"
  refine w_rec (R := e) (i := 2) (j := 3) (m0 := 6) (M := (n : Int) + 1) (g := padN) rfl (fun q => by
    refine ok_bin (ok_var rfl (ok_val (ok_add ?_)))
    exact q) (fun k hk => ?_) (by decide) (by decide) (by decide) (by decide) (by omega) (by decide) (by decide) w5 ge fun me h6 z6 w6 s6 g6 k6 => ?_
  · obtain ⟨j, rfl⟩ : ∃ j, k = j + 3 := ⟨k - 3, by omega⟩
    rfl
  have gc := k6 c _ (fun z => ce z.symm) g5
  clear k6 g5
  have row : ∀ {T : Nat} {h : PH} {Q : Unit → PH → Prop} {st : PSt} (_ : T ≤ 40) (_ : ∀ v : Option PV, (st.set 6 v)[6]? = some v) (_ : Wf h) (_ : ∀ h', Le none h h' → h'.get h.n = some (.lst (iL ((List.range T).map fun (k : Nat) => ((k % 2 : Nat) : Int)))) → Q () h'),
      Ok (lcL (evE (callP P 1000 39) 996) (.rng 0 T) (.nm 6) none (.bin .mod (.bi .int [(.var 6)]) (.val (.int 2))) st h.n 996 0 (h.push (.lst []))) Q := fun {T h Q st} hT hs w q => by
    refine ok_lcI none (rng 0 T) h w (fun i e => by cases e) (fun k h' _ => iv_rng k h') (by rw [rng_len]; omega) (fun k acc => acc = iL ((List.range k).map fun (k : Nat) => ((k % 2 : Nat) : Int))) rfl (fun k v acc h7 e7 i7 l7 => ?_) (fun acc h7 i7 _ l7 g7 => ?_) (by rw [rng_len]; omega)
    · obtain ⟨hk, rfl⟩ := rng_at e7
      rw [Int.zero_add]
      refine ⟨_, rfl, ?_⟩
      refine ok_ifN ⟨Le.refl l7.wf, fun e => (nomatch (e : true = false)), fun _ => ?_⟩
      refine ok_bin (ok_bi (ok_cons (ok_var (hs _) (ok_nil (ok_int (ok_val (ok_mod (by decide) ⟨Le.refl l7.wf, ?_⟩)))))))
      rw [i7, List.range_succ, List.map_append, ← iL_app]
      rfl
    · rw [rng_len] at i7
      subst i7
      exact q _ l7 g7
  repeat walk_at "py"
  refine ⟨⟨by omega, by omega⟩, ?_⟩
  rw [Int.toNat_natCast]
  refine row n40 (fun _ => rfl) w6 fun h7 l7 g7 => ?_
  repeat walk_at "py"
  refine ok_tupleOf (seqOf_lst g7) (by rw [List.length_map, List.length_map, List.length_range]; omega) ?_
  repeat walk_at "py"
  have G : Good1 (rowL n []) := rowL_good (by omega) n40 List.Pairwise.nil fun k hk => nomatch hk
  have vL : PV.tup [.tup (iL ((List.range n).map fun (k : Nat) => ((k % 2 : Nat) : Int))), .tup [], .bl false] = (rowL n []).v := rfl
  rw [vL]
  have sB : (rowL n []).swB = false := rfl
  have sc : sumI (rowL n []).comeL = fibN n := by
    unfold Ln.comeL
    rw [sB, if_neg Bool.false_ne_true, inL_free n3 G, byT_one pSet (fun n => (pSet_len n).2), set_fib, show n - 2 + 2 = n by omega]
  have se : sumI (rowL n []).endL = padN n := by
    unfold Ln.endL
    rw [sB, if_neg Bool.false_ne_true, inL_free n3 G, byT_one pEnd (fun n => (pEnd_len n).2), end_pad, show n - 2 + 2 = n by omega]
  have fpos : ∀ k, 0 < fibN (k + 1) ∧ 0 ≤ fibN k := fun k => by
    induction k with
    | zero => decide
    | succ k ih =>
      have e : fibN (k + 1 + 1) = fibN (k + 1) + fibN k := rfl
      omega
  have ppos : ∀ k, 0 < padN (k + 1) ∧ 0 < padN (k + 2) ∧ 0 < padN (k + 3) := fun k => by
    induction k with
    | zero => decide
    | succ k ih =>
      have e : padN (k + 1 + 3) = padN (k + 1 + 1) + padN (k + 1) := rfl
      have e2 : padN (k + 1 + 2) = padN (k + 3) := rfl
      have e3 : padN (k + 1 + 1) = padN (k + 2) := rfl
      omega
  have c0 : ∃ j, (rowL n []).comeL.getD j 0 ≠ 0 := sum_some (by
    rw [sc, show n = (n - 1) + 1 by omega]
    have := (fpos (n - 1)).1
    omega)
  have z0 : ∃ j, (rowL n []).endL.getD j 0 ≠ 0 := sum_some (by
    rw [se, show n = (n - 1) + 1 by omega]
    have := (ppos (n - 1)).1
    omega)
  have ic : ∀ {h' : PH} {g : Nat → Int} {a m j : Nat}, h'.get a = some (.lst (iL ((List.range m).map g))) → j < m → ixP (.ref a) (.int (j : Int)) h' = some (.int (g j)) := fun e hj => ix_of_nat (seqOf_lst e) (by
    rw [iL, List.map_map, List.getElem?_map, List.getElem?_range hj]
    rfl)
  refine g_come_count H0 H2 H1 H4 H5 H6 H7 H11 H13 H48 H54 H55 H56 H58 H60 H64 G l7.wf fun h8 l8 => ?_
  rw [sc]
  repeat walk_at "py"
  refine ⟨_, ic (l8.g (l7.g gc)) (by omega), ?_⟩
  refine ⟨_, ne_intE rfl, ?_⟩
  repeat walk_at "py"
  refine g_end_count H0 H2 H1 H4 H5 H6 H7 H11 H13 H48 H54 H55 H57 H59 H60 H65 G l8.wf fun h9 l9 => ?_
  rw [se]
  repeat walk_at "py"
  refine ⟨_, ic (l9.g (l8.g (l7.g g6))) (by omega), ?_⟩
  refine ⟨_, ne_intE rfl, ?_⟩
  repeat walk_at "py"
  refine f_comes_by H0 H2 H1 H4 H5 H6 H7 H11 H13 H48 H54 H55 H56 H58 H60 H61 H62 G c0 l9.wf fun m1 h10 l10 ⟨_, _, _, t1⟩ => ?_
  repeat walk_at "py"
  refine ok_sumT ?_
  rw [sum_take t1, sc]
  repeat walk_at "py"
  refine ⟨_, ic (l10.g (l9.g (l8.g (l7.g gc)))) (by omega), ?_⟩
  refine ⟨_, ne_intE rfl, ?_⟩
  repeat walk_at "py"
  refine f_ends_by H0 H2 H1 H4 H5 H6 H7 H11 H13 H48 H54 H55 H57 H59 H60 H61 H63 G z0 l10.wf fun m2 h11 l11 ⟨_, _, _, t2⟩ => ?_
  repeat walk_at "py"
  refine ok_sumT ?_
  rw [sum_take t2, se]
  repeat walk_at "py"
  refine ⟨_, ic (l11.g (l10.g (l9.g (l8.g (l7.g g6))))) (by omega), ?_⟩
  refine ⟨_, ne_intE rfl, ?_⟩
  iterate 4 walk_at "py"
  refine os_set (Ok.mono (Q := fun v h1 => ∃ s : Nat, v = .int (s : Int) ∧ h1 = h11 ∧ s % 2 = 0 ∧ n ≤ s ∧ s ≤ n + 1) ?A ?B)
  case A =>
    repeat walk_at "py"
    refine ok_int ?_
    repeat walk_at "py"
    refine ok_mod (by decide) ?_
    repeat walk_at "py"
    refine ⟨fun e => ?_, fun e => ?_⟩
    · have e := of_decide_eq_true e
      refine ok_var rfl ⟨n, rfl, rfl, by omega, Nat.le_refl _, by omega⟩
    · have e := of_decide_eq_false e
      refine ok_bin (ok_var rfl (ok_val (ok_add ⟨n + 1, ?_, rfl, by omega, by omega, Nat.le_refl _⟩)))
      rw [show (n : Int) + 1 = ((n + 1 : Nat) : Int) by omega]
  case B =>
    rintro v h' ⟨s, rfl, rfl, s2, s3, s4⟩
    refine os_cons (os_set (Ok.mono (Q := fun v h1 => ∃ z : Nat, v = .int (z : Int) ∧ h1 = h' ∧ z % 2 = 0 ∧ 4 ≤ z ∧ z ≤ 40) ?A ?B))
    case A =>
      repeat walk_at "py"
      refine ok_max2 ?_
      have em : (if ((s : Nat) : Int) > 4 then ((s : Nat) : Int) else 4) = ((max 4 s : Nat) : Int) := by split <;> omega
      rw [em]
      repeat walk_at "py"
      refine ok_min2 ?_
      have em2 : (if ((max 4 s : Nat) : Int) < 40 then ((max 4 s : Nat) : Int) else 40) = ((min 40 (max 4 s) : Nat) : Int) := by split <;> omega
      rw [em2]
      exact ⟨_, rfl, rfl, by omega, by omega, by omega⟩
    case B =>
      rintro v h12 ⟨z, rfl, rfl, e2, z4, z40⟩
      clear s2 s3 s4
      repeat walk_at "py"
      refine ⟨⟨by omega, by omega⟩, ?_⟩
      rw [Int.toNat_natCast]
      refine row z40 (fun _ => rfl) l11.wf fun h13 l13 g13 => ?_
      repeat walk_at "py"
      refine ok_tupleOf (seqOf_lst g13) (by rw [List.length_map, List.length_map, List.length_range]; omega) ?_
      repeat walk_at "py"
      have GR : Good1 (ringL z) := ringL_good (by omega) z40
      have vR : PV.tup [.tup (iL ((List.range z).map fun (k : Nat) => ((k % 2 : Nat) : Int))), .tup [], .bl true] = (ringL z).v := rfl
      rw [vR]
      have sR : (ringL z).swB = true := (Ln.swB_is GR).mpr (ringL_swing (by omega) e2)
      refine on_lst ?_
      repeat walk_at "py"
      refine ⟨⟨l13.wf, by simp only [List.length_cons, List.length_nil]; omega⟩, fun a h14 l14 n14 g14 => ?_⟩
      refine on_lst ?_
      repeat walk_at "py"
      refine ⟨⟨l14.wf, by simp only [List.length_cons, List.length_nil]; omega⟩, fun p h15 l15 n15 g15 => ?_⟩
      have ap : p ≠ a := fun z => by have := get_lt g14; omega
      have ga : h15.get a = some (.lst (iL ((List.range 2).map lucN))) := l15.g g14
      have gp : h15.get p = some (.lst (iL ((List.range 3).map perN))) := g15
      repeat walk_at "py"
      refine w_rec (R := a) (i := 1) (j := 2) (m0 := 2) (M := (z : Int)) (g := lucN) rfl (fun q => ok_var rfl q) (fun k hk => ?_) (by decide) (by decide) (by decide) (by decide) (by omega) (by decide) (by decide) l15.wf ga fun ma h16 z16 w16 s16 g16 k16 => ?_
      · obtain ⟨j, rfl⟩ : ∃ j, k = j + 2 := ⟨k - 2, by omega⟩
        rfl
      have gp := k16 p _ ap gp
      clear k16
      repeat walk_at "py"
      refine w_rec (R := p) (i := 2) (j := 3) (m0 := 3) (M := (z : Int)) (g := perN) rfl (fun q => ok_var rfl q) (fun k hk => ?_) (by decide) (by decide) (by decide) (by decide) (by omega) (by decide) (by decide) w16 gp fun mp h17 z17 w17 s17 g17 k17 => ?_
      · obtain ⟨j, rfl⟩ : ∃ j, k = j + 3 := ⟨k - 3, by omega⟩
        rfl
      have ga := k17 a _ (fun z => ap z.symm) g16
      clear k17 g16
      have rc : sumI (ringL z).comeL = lucN z := by
        unfold Ln.comeL
        rw [if_pos sR, ringL_many, sum_rSet (by omega)]
      have re : sumI (ringL z).endL = perN z := by
        unfold Ln.endL
        rw [if_pos sR, ringL_many]
        have := sum_rEnd (z - 3)
        rw [show z - 3 + 3 = z by omega] at this
        exact this
      repeat walk_at "py"
      refine g_come_count H0 H2 H1 H4 H5 H6 H7 H11 H13 H48 H54 H55 H56 H58 H60 H64 GR w17 fun h18 l18 => ?_
      rw [rc]
      repeat walk_at "py"
      refine ⟨_, ic (l18.g ga) (by omega), ?_⟩
      refine ⟨_, eq_intE rfl, ?_⟩
      repeat walk_at "py"
      refine g_end_count H0 H2 H1 H4 H5 H6 H7 H11 H13 H48 H54 H55 H57 H59 H60 H65 GR l18.wf fun h19 l19 => ?_
      rw [re]
      repeat walk_at "py"
      refine ⟨_, ic (l19.g (l18.g g17)) (by omega), ?_⟩
      exact ⟨_, eq_intE rfl, rfl⟩

theorem main (ns : List Int) (hl : ns.length ≤ 63) : ∃ h', callP prg 1000 40 23 [.ref 0] (start1 ns) = .ok (.bl true) h' := mainG H0 H1 H2 H4 H5 H6 H7 H11 H13 H48 H54 H55 H56 H57 H58 H59 H60 H61 H62 H63 H64 H65 H38 rfl ns hl
/-! ### the top -/
theorem all_mk {l : PySem.W.OpenLaw} {w : World} {K : PySem.W.Frag} {h : Heap} {mg : Str → Option Value} {fa f0 f1 f2 f3 f4 f5 f6 f7 f8 f9 f10 f11 f12 f13 f14 f15 f16 f17 f18 f19 f20 f21 f22 f23 : Addr} (X : K.In h) (G : h.Ns mainGlobals mg) (hfa : mg "law" = some (.ref fa))
    {od0 an0 od1 an1 od2 an2 od3 an3 od4 an4 od5 an5 od6 an6 od7 an7 od8 an8 od9 an9 od10 an10 od11 an11 od12 an12 od13 an13 od14 an14 od15 an15 od16 an16 od17 an17 od18 an18 od19 an19 od20 an20 od21 an21 od22 an22 od23 an23 : Option Addr} {sl0 sl1 sl2 sl3 sl4 sl5 sl6 sl7 sl8 sl9 sl10 sl11 sl12 sl13 sl14 sl15 sl16 sl17 sl18 sl19 sl20 sl21 sl22 sl23 : Array (Option Value)} {oc0 kV0 dc0 pm0 cd0 ct0 oc1 kV1 dc1 pm1 cd1 ct1 oc2 kV2 dc2 pm2 cd2 ct2 oc3 kV3 dc3 pm3 cd3 ct3 oc4 kV4 dc4 pm4 cd4 ct4 oc5 kV5 dc5 pm5 cd5 ct5 oc6 kV6 dc6 pm6 cd6 ct6 oc7 kV7 dc7 pm7 cd7 ct7 oc8 kV8 dc8 pm8 cd8 ct8 oc9 kV9 dc9 pm9 cd9 ct9 oc10 kV10 dc10 pm10 cd10 ct10 oc11 kV11 dc11 pm11 cd11 ct11 oc12 kV12 dc12 pm12 cd12 ct12 oc13 kV13 dc13 pm13 cd13 ct13 oc14 kV14 dc14 pm14 cd14 ct14 oc15 kV15 dc15 pm15 cd15 ct15 oc16 kV16 dc16 pm16 cd16 ct16 oc17 kV17 dc17 pm17 cd17 ct17 oc18 kV18 dc18 pm18 cd18 ct18 oc19 kV19 dc19 pm19 cd19 ct19 oc20 kV20 dc20 pm20 cd20 ct20 oc21 kV21 dc21 pm21 cd21 ct21 oc22 kV22 dc22 pm22 cd22 ct22 oc23 kV23 dc23 pm23 cd23 ct23 : Value} {t0 t1 t2 : Tok}
    (a0 : PySem.W.nsIn K mainGlobals "is_in" = some (some (.ref f0))) (l0 : K.lookup f0 = some ⟨oc0, od0, .func (PySem.W.fnOf "is_in" "is_in" (defArgs s_is_in) (defBody s_is_in) (defScope s_is_in) .none kV0 dc0 pm0 an0 cd0 ct0), sl0⟩) (c0 : PySem.W.codeIn K cd0 "is_in" = true) (k0 : PySem.W.keepIn K (.ref f0) = true)
    (a1 : PySem.W.nsIn K mainGlobals "need_line" = some (some (.ref f1))) (l1 : K.lookup f1 = some ⟨oc1, od1, .func (PySem.W.fnOf "need_line" "need_line" (defArgs s_need_line) (defBody s_need_line) (defScope s_need_line) .none kV1 dc1 pm1 an1 cd1 ct1), sl1⟩) (c1 : PySem.W.codeIn K cd1 "need_line" = true) (k1 : PySem.W.keepIn K (.ref f1) = true)
    (a2 : PySem.W.nsIn K mainGlobals "is_cells" = some (some (.ref f2))) (l2 : K.lookup f2 = some ⟨oc2, od2, .func (PySem.W.fnOf "is_cells" "is_cells" (defArgs s_is_cells) (defBody s_is_cells) (defScope s_is_cells) .none kV2 dc2 pm2 an2 cd2 ct2), sl2⟩) (c2 : PySem.W.codeIn K cd2 "is_cells" = true) (k2 : PySem.W.keepIn K (.ref f2) = true)
    (a3 : PySem.W.nsIn K mainGlobals "held_in" = some (some (.ref f3))) (l3 : K.lookup f3 = some ⟨oc3, od3, .func (PySem.W.fnOf "held_in" "held_in" (defArgs s_held_in) (defBody s_held_in) (defScope s_held_in) .none kV3 dc3 pm3 an3 cd3 ct3), sl3⟩) (c3 : PySem.W.codeIn K cd3 "held_in" = true) (k3 : PySem.W.keepIn K (.ref f3) = true)
    (a4 : PySem.W.nsIn K mainGlobals "flanks" = some (some (.ref f4))) (l4 : K.lookup f4 = some ⟨oc4, od4, .func (PySem.W.fnOf "flanks" "flanks" (defArgs s_flanks) (defBody s_flanks) (defScope s_flanks) .none kV4 dc4 pm4 an4 cd4 ct4), sl4⟩) (c4 : PySem.W.codeIn K cd4 "flanks" = true) (k4 : PySem.W.keepIn K (.ref f4) = true)
    (a5 : PySem.W.nsIn K mainGlobals "is_flanked" = some (some (.ref f5))) (l5 : K.lookup f5 = some ⟨oc5, od5, .func (PySem.W.fnOf "is_flanked" "is_flanked" (defArgs s_is_flanked) (defBody s_is_flanked) (defScope s_is_flanked) .none kV5 dc5 pm5 an5 cd5 ct5), sl5⟩) (c5 : PySem.W.codeIn K cd5 "is_flanked" = true) (k5 : PySem.W.keepIn K (.ref f5) = true)
    (a6 : PySem.W.nsIn K mainGlobals "ready_in" = some (some (.ref f6))) (l6 : K.lookup f6 = some ⟨oc6, od6, .func (PySem.W.fnOf "ready_in" "ready_in" (defArgs s_ready_in) (defBody s_ready_in) (defScope s_ready_in) .none kV6 dc6 pm6 an6 cd6 ct6), sl6⟩) (c6 : PySem.W.codeIn K cd6 "ready_in" = true) (k6 : PySem.W.keepIn K (.ref f6) = true)
    (a7 : PySem.W.nsIn K mainGlobals "swings_in" = some (some (.ref f7))) (l7 : K.lookup f7 = some ⟨oc7, od7, .func (PySem.W.fnOf "swings_in" "swings_in" (defArgs s_swings_in) (defBody s_swings_in) (defScope s_swings_in) .none kV7 dc7 pm7 an7 cd7 ct7), sl7⟩) (c7 : PySem.W.codeIn K cd7 "swings_in" = true) (k7 : PySem.W.keepIn K (.ref f7) = true)
    (a8 : PySem.W.nsIn K mainGlobals "stretches_in" = some (some (.ref f8))) (l8 : K.lookup f8 = some ⟨oc8, od8, .func (PySem.W.fnOf "stretches_in" "stretches_in" (defArgs s_stretches_in) (defBody s_stretches_in) (defScope s_stretches_in) .none kV8 dc8 pm8 an8 cd8 ct8), sl8⟩) (c8 : PySem.W.codeIn K cd8 "stretches_in" = true) (k8 : PySem.W.keepIn K (.ref f8) = true)
    (a9 : PySem.W.nsIn K mainGlobals "insides" = some (some (.ref f9))) (l9 : K.lookup f9 = some ⟨oc9, od9, .func (PySem.W.fnOf "insides" "insides" (defArgs s_insides) (defBody s_insides) (defScope s_insides) .none kV9 dc9 pm9 an9 cd9 ct9), sl9⟩) (c9 : PySem.W.codeIn K cd9 "insides" = true) (k9 : PySem.W.keepIn K (.ref f9) = true)
    (a10 : PySem.W.nsIn K mainGlobals "added" = some (some (.ref f10))) (l10 : K.lookup f10 = some ⟨oc10, od10, .func (PySem.W.fnOf "added" "added" (defArgs s_added) (defBody s_added) (defScope s_added) .none kV10 dc10 pm10 an10 cd10 ct10), sl10⟩) (c10 : PySem.W.codeIn K cd10 "added" = true) (k10 : PySem.W.keepIn K (.ref f10) = true)
    (a11 : PySem.W.nsIn K mainGlobals "multiplied" = some (some (.ref f11))) (l11 : K.lookup f11 = some ⟨oc11, od11, .func (PySem.W.fnOf "multiplied" "multiplied" (defArgs s_multiplied) (defBody s_multiplied) (defScope s_multiplied) .none kV11 dc11 pm11 an11 cd11 ct11), sl11⟩) (c11 : PySem.W.codeIn K cd11 "multiplied" = true) (k11 : PySem.W.keepIn K (.ref f11) = true)
    (a12 : PySem.W.nsIn K mainGlobals "path_sets" = some (some (.ref f12))) (l12 : K.lookup f12 = some ⟨oc12, od12, .func (PySem.W.fnOf "path_sets" "path_sets" (defArgs s_path_sets) (defBody s_path_sets) (defScope s_path_sets) .none kV12 dc12 pm12 an12 cd12 ct12), sl12⟩) (c12 : PySem.W.codeIn K cd12 "path_sets" = true) (k12 : PySem.W.keepIn K (.ref f12) = true)
    (a13 : PySem.W.nsIn K mainGlobals "path_ends" = some (some (.ref f13))) (l13 : K.lookup f13 = some ⟨oc13, od13, .func (PySem.W.fnOf "path_ends" "path_ends" (defArgs s_path_ends) (defBody s_path_ends) (defScope s_path_ends) .none kV13 dc13 pm13 an13 cd13 ct13), sl13⟩) (c13 : PySem.W.codeIn K cd13 "path_ends" = true) (k13 : PySem.W.keepIn K (.ref f13) = true)
    (a14 : PySem.W.nsIn K mainGlobals "ring_sets" = some (some (.ref f14))) (l14 : K.lookup f14 = some ⟨oc14, od14, .func (PySem.W.fnOf "ring_sets" "ring_sets" (defArgs s_ring_sets) (defBody s_ring_sets) (defScope s_ring_sets) .none kV14 dc14 pm14 an14 cd14 ct14), sl14⟩) (c14 : PySem.W.codeIn K cd14 "ring_sets" = true) (k14 : PySem.W.keepIn K (.ref f14) = true)
    (a15 : PySem.W.nsIn K mainGlobals "ring_ends" = some (some (.ref f15))) (l15 : K.lookup f15 = some ⟨oc15, od15, .func (PySem.W.fnOf "ring_ends" "ring_ends" (defArgs s_ring_ends) (defBody s_ring_ends) (defScope s_ring_ends) .none kV15 dc15 pm15 an15 cd15 ct15), sl15⟩) (c15 : PySem.W.codeIn K cd15 "ring_ends" = true) (k15 : PySem.W.keepIn K (.ref f15) = true)
    (a16 : PySem.W.nsIn K mainGlobals "by_turns" = some (some (.ref f16))) (l16 : K.lookup f16 = some ⟨oc16, od16, .func (PySem.W.fnOf "by_turns" "by_turns" (defArgs s_by_turns) (defBody s_by_turns) (defScope s_by_turns) .none kV16 dc16 pm16 an16 cd16 ct16), sl16⟩) (c16 : PySem.W.codeIn K cd16 "by_turns" = true) (k16 : PySem.W.keepIn K (.ref f16) = true)
    (a17 : PySem.W.nsIn K mainGlobals "trimmed" = some (some (.ref f17))) (l17 : K.lookup f17 = some ⟨oc17, od17, .func (PySem.W.fnOf "trimmed" "trimmed" (defArgs s_trimmed) (defBody s_trimmed) (defScope s_trimmed) .none kV17 dc17 pm17 an17 cd17 ct17), sl17⟩) (c17 : PySem.W.codeIn K cd17 "trimmed" = true) (k17 : PySem.W.keepIn K (.ref f17) = true)
    (a18 : PySem.W.nsIn K mainGlobals "comes_by_turns" = some (some (.ref f18))) (l18 : K.lookup f18 = some ⟨oc18, od18, .func (PySem.W.fnOf "comes_by_turns" "comes_by_turns" (defArgs s_comes_by_turns) (defBody s_comes_by_turns) (defScope s_comes_by_turns) .none kV18 dc18 pm18 an18 cd18 ct18), sl18⟩) (c18 : PySem.W.codeIn K cd18 "comes_by_turns" = true) (k18 : PySem.W.keepIn K (.ref f18) = true)
    (a19 : PySem.W.nsIn K mainGlobals "ends_by_turns" = some (some (.ref f19))) (l19 : K.lookup f19 = some ⟨oc19, od19, .func (PySem.W.fnOf "ends_by_turns" "ends_by_turns" (defArgs s_ends_by_turns) (defBody s_ends_by_turns) (defScope s_ends_by_turns) .none kV19 dc19 pm19 an19 cd19 ct19), sl19⟩) (c19 : PySem.W.codeIn K cd19 "ends_by_turns" = true) (k19 : PySem.W.keepIn K (.ref f19) = true)
    (a20 : PySem.W.nsIn K mainGlobals "come_count" = some (some (.ref f20))) (l20 : K.lookup f20 = some ⟨oc20, od20, .func (PySem.W.fnOf "come_count" "come_count" (defArgs s_come_count) (defBody s_come_count) (defScope s_come_count) .none kV20 dc20 pm20 an20 cd20 ct20), sl20⟩) (c20 : PySem.W.codeIn K cd20 "come_count" = true) (k20 : PySem.W.keepIn K (.ref f20) = true)
    (a21 : PySem.W.nsIn K mainGlobals "end_count" = some (some (.ref f21))) (l21 : K.lookup f21 = some ⟨oc21, od21, .func (PySem.W.fnOf "end_count" "end_count" (defArgs s_end_count) (defBody s_end_count) (defScope s_end_count) .none kV21 dc21 pm21 an21 cd21 ct21), sl21⟩) (c21 : PySem.W.codeIn K cd21 "end_count" = true) (k21 : PySem.W.keepIn K (.ref f21) = true)
    (a22 : PySem.W.nsIn K mainGlobals "_law_taken" = some (some (.ref f22))) (l22 : K.lookup f22 = some ⟨oc22, od22, .func (PySem.W.fnOf "_law_taken" "_law_taken" (defArgs s__law_taken) (defBody s__law_taken) (defScope s__law_taken) .none kV22 dc22 pm22 an22 cd22 ct22), sl22⟩) (c22 : PySem.W.codeIn K cd22 "_law_taken" = true) (k22 : PySem.W.keepIn K (.ref f22) = true)
    (a23 : PySem.W.nsIn K mainGlobals "law" = some (some (.ref f23))) (l23 : K.lookup f23 = some ⟨oc23, od23, .func (PySem.W.fnOf "law" "law" (defArgs s_law) (defBody s_law) (defScope s_law) .none kV23 dc23 pm23 an23 cd23 ct23), sl23⟩) (c23 : PySem.W.codeIn K cd23 "law" = true) (k23 : PySem.W.keepIn K (.ref f23) = true)
    (g0 : PySem.W.nsIn K mainGlobals "MOST_CELLS" = some (some (.int 40 t0)))
    (g1 : PySem.W.nsIn K mainGlobals "MOST_COLOUR" = some (some (.int 9 t1)))
    (g2 : PySem.W.nsIn K mainGlobals "LEAST_RING" = some (some (.int 3 t2)))
    (z0 : PySem.W.nsIn K mainGlobals "int" = some none)
    (z1 : PySem.W.nsIn K mainGlobals "len" = some none)
    (z2 : PySem.W.nsIn K mainGlobals "max" = some none)
    (z3 : PySem.W.nsIn K mainGlobals "min" = some none)
    (z4 : PySem.W.nsIn K mainGlobals "range" = some none)
    (z5 : PySem.W.nsIn K mainGlobals "sum" = some none)
    (z6 : PySem.W.nsIn K mainGlobals "tuple" = some none)
    (z7 : PySem.W.nsIn K mainGlobals "list" = some none)
    (z8 : PySem.W.nsIn K mainGlobals "zip" = some none)
    (z9 : PySem.W.nsIn K mainGlobals "bool" = some none)
    (z10 : PySem.W.nsIn K mainGlobals "enumerate" = some none)
    (z11 : PySem.W.nsIn K mainGlobals "isinstance" = some none)
    (z12 : PySem.W.nsIn K mainGlobals "set" = some none)
    (z13 : PySem.W.nsIn K mainGlobals "sorted" = some none)
    : ∃ fd : FuncData, (∀ (s : Shared) (v : Value), BindsTo s fd ⟨[v], []⟩ [("_law_script", v)]) ∧ ∀ base : Heap, K.In base → base.Ns mainGlobals mg → FnOk l.prog w K mg base CX0 40 fa fd ["_law_script"] (spLaw K) := by
  have e := hfa.symm.trans (PySem.W.mg_of X G a23)
  cases e
  have FA : Facts ⟨K, w, fun k => ([f0, f1, f2, f3, f4, f5, f6, f7, f8, f9, f10, f11, f12, f13, f14, f15, f16, f17, f18, f19, f20, f21, f22, fa] : List Addr).getD k 0⟩ mg txt := facts_of
    ⟨⟨_, fun_mk (st := s_is_in) l0 c0 k0, PySem.W.mg_of X G a0, (fun_mk (st := s_is_in) l0 c0 k0).binds (ps := ["value", "least", "most"]) fun _ _ _ _ _ _ us hl => match us, hl with | [_, _, _], _ => rfl⟩,
      ⟨_, fun_mk (st := s_need_line) l1 c1 k1, PySem.W.mg_of X G a1, (fun_mk (st := s_need_line) l1 c1 k1).binds (ps := ["line"]) fun _ _ _ _ _ _ us hl => match us, hl with | [_], _ => rfl⟩,
      ⟨_, fun_mk (st := s_is_cells) l2 c2 k2, PySem.W.mg_of X G a2, (fun_mk (st := s_is_cells) l2 c2 k2).binds (ps := ["many", "value"]) fun _ _ _ _ _ _ us hl => match us, hl with | [_, _], _ => rfl⟩,
      ⟨_, fun_mk (st := s_held_in) l3 c3 k3, PySem.W.mg_of X G a3, (fun_mk (st := s_held_in) l3 c3 k3).binds (ps := ["line"]) fun _ _ _ _ _ _ us hl => match us, hl with | [_], _ => rfl⟩,
      ⟨_, fun_mk (st := s_flanks) l4 c4 k4, PySem.W.mg_of X G a4, (fun_mk (st := s_flanks) l4 c4 k4).binds (ps := ["many", "cell"]) fun _ _ _ _ _ _ us hl => match us, hl with | [_, _], _ => rfl⟩,
      ⟨_, fun_mk (st := s_is_flanked) l5 c5 k5, PySem.W.mg_of X G a5, (fun_mk (st := s_is_flanked) l5 c5 k5).binds (ps := ["cells", "cell"]) fun _ _ _ _ _ _ us hl => match us, hl with | [_, _], _ => rfl⟩,
      ⟨_, fun_mk (st := s_ready_in) l6 c6 k6, PySem.W.mg_of X G a6, (fun_mk (st := s_ready_in) l6 c6 k6).binds (ps := ["line"]) fun _ _ _ _ _ _ us hl => match us, hl with | [_], _ => rfl⟩,
      ⟨_, fun_mk (st := s_swings_in) l7 c7 k7, PySem.W.mg_of X G a7, (fun_mk (st := s_swings_in) l7 c7 k7).binds (ps := ["line"]) fun _ _ _ _ _ _ us hl => match us, hl with | [_], _ => rfl⟩,
      ⟨_, fun_mk (st := s_stretches_in) l8 c8 k8, PySem.W.mg_of X G a8, (fun_mk (st := s_stretches_in) l8 c8 k8).binds (ps := ["line"]) fun _ _ _ _ _ _ us hl => match us, hl with | [_], _ => rfl⟩,
      ⟨_, fun_mk (st := s_insides) l9 c9 k9, PySem.W.mg_of X G a9, (fun_mk (st := s_insides) l9 c9 k9).binds (ps := ["line"]) fun _ _ _ _ _ _ us hl => match us, hl with | [_], _ => rfl⟩,
      ⟨_, fun_mk (st := s_added) l10 c10 k10, PySem.W.mg_of X G a10, (fun_mk (st := s_added) l10 c10 k10).binds (ps := ["one", "other"]) fun _ _ _ _ _ _ us hl => match us, hl with | [_, _], _ => rfl⟩,
      ⟨_, fun_mk (st := s_multiplied) l11 c11 k11, PySem.W.mg_of X G a11, (fun_mk (st := s_multiplied) l11 c11 k11).binds (ps := ["one", "other"]) fun _ _ _ _ _ _ us hl => match us, hl with | [_, _], _ => rfl⟩,
      ⟨_, fun_mk (st := s_path_sets) l12 c12 k12, PySem.W.mg_of X G a12, (fun_mk (st := s_path_sets) l12 c12 k12).binds (ps := ["many"]) fun _ _ _ _ _ _ us hl => match us, hl with | [_], _ => rfl⟩,
      ⟨_, fun_mk (st := s_path_ends) l13 c13 k13, PySem.W.mg_of X G a13, (fun_mk (st := s_path_ends) l13 c13 k13).binds (ps := ["many"]) fun _ _ _ _ _ _ us hl => match us, hl with | [_], _ => rfl⟩,
      ⟨_, fun_mk (st := s_ring_sets) l14 c14 k14, PySem.W.mg_of X G a14, (fun_mk (st := s_ring_sets) l14 c14 k14).binds (ps := ["many"]) fun _ _ _ _ _ _ us hl => match us, hl with | [_], _ => rfl⟩,
      ⟨_, fun_mk (st := s_ring_ends) l15 c15 k15, PySem.W.mg_of X G a15, (fun_mk (st := s_ring_ends) l15 c15 k15).binds (ps := ["many"]) fun _ _ _ _ _ _ us hl => match us, hl with | [_], _ => rfl⟩,
      ⟨_, fun_mk (st := s_by_turns) l16 c16 k16, PySem.W.mg_of X G a16, (fun_mk (st := s_by_turns) l16 c16 k16).binds (ps := ["line", "path", "ring"]) fun _ _ _ _ _ _ us hl => match us, hl with | [_, _, _], _ => rfl⟩,
      ⟨_, fun_mk (st := s_trimmed) l17 c17 k17, PySem.W.mg_of X G a17, (fun_mk (st := s_trimmed) l17 c17 k17).binds (ps := ["counts"]) fun _ _ _ _ _ _ us hl => match us, hl with | [_], _ => rfl⟩,
      ⟨_, fun_mk (st := s_comes_by_turns) l18 c18 k18, PySem.W.mg_of X G a18, (fun_mk (st := s_comes_by_turns) l18 c18 k18).binds (ps := ["line"]) fun _ _ _ _ _ _ us hl => match us, hl with | [_], _ => rfl⟩,
      ⟨_, fun_mk (st := s_ends_by_turns) l19 c19 k19, PySem.W.mg_of X G a19, (fun_mk (st := s_ends_by_turns) l19 c19 k19).binds (ps := ["line"]) fun _ _ _ _ _ _ us hl => match us, hl with | [_], _ => rfl⟩,
      ⟨_, fun_mk (st := s_come_count) l20 c20 k20, PySem.W.mg_of X G a20, (fun_mk (st := s_come_count) l20 c20 k20).binds (ps := ["line"]) fun _ _ _ _ _ _ us hl => match us, hl with | [_], _ => rfl⟩,
      ⟨_, fun_mk (st := s_end_count) l21 c21 k21, PySem.W.mg_of X G a21, (fun_mk (st := s_end_count) l21 c21 k21).binds (ps := ["line"]) fun _ _ _ _ _ _ us hl => match us, hl with | [_], _ => rfl⟩,
      ⟨_, fun_mk (st := s__law_taken) l22 c22 k22, PySem.W.mg_of X G a22, (fun_mk (st := s__law_taken) l22 c22 k22).binds (ps := ["_law_row", "_law_many"]) fun _ _ _ _ _ _ us hl => match us, hl with | [_, _], _ => rfl⟩,
      ⟨_, fun_mk (st := s_law) l23 c23 k23, PySem.W.mg_of X G a23, (fun_mk (st := s_law) l23 c23 k23).binds (ps := ["_law_script"]) fun _ _ _ _ _ _ us hl => match us, hl with | [_], _ => rfl⟩, trivial⟩
    ⟨ko_int (PySem.W.mg_of X G g0), ko_int (PySem.W.mg_of X G g1), ko_int (PySem.W.mg_of X G g2), trivial⟩
    ⟨PySem.W.mg_none_of X G z0, PySem.W.mg_none_of X G z1, PySem.W.mg_none_of X G z2, PySem.W.mg_none_of X G z3, PySem.W.mg_none_of X G z4, PySem.W.mg_none_of X G z5, PySem.W.mg_none_of X G z6, PySem.W.mg_none_of X G z7, PySem.W.mg_none_of X G z8, PySem.W.mg_none_of X G z9, PySem.W.mg_none_of X G z10, PySem.W.mg_none_of X G z11, PySem.W.mg_none_of X G z12, PySem.W.mg_none_of X G z13, trivial⟩
  exact ⟨_, fun s v => .of_eq rfl, fun base _ _ => (fn_ok FA isP 40 23 d_law rfl _ (fun_mk (st := s_law) l23 c23 k23)).imp (law_sp (c := ⟨K, w, fun k => ([f0, f1, f2, f3, f4, f5, f6, f7, f8, f9, f10, f11, f12, f13, f14, f15, f16, f17, f18, f19, f20, f21, f22, fa] : List Addr).getD k 0⟩) main)⟩
end Lk19
open PySem PySem.W PyProof.Rows
set_option maxHeartbeats 0 in
theorem PySem.Challenge.cw_flankturns_k19_whole_counts_of_long_line_holds : PySem.Challenge.rw_flankturns_k19_whole_counts_of_long_line.Holds := by
  w_on; o_law; k_head; (case hw => w_witness2)
  k_fill
  refine L2.walk_of (l := PySem.Challenge.rw_flankturns_k19_whole_counts_of_long_line) (n := 63) (k := 40) (x := "_law_script") (CX := fun _ => L2.CX0) (sp := fun w => Pyx.spLaw _) rfl (by decide) rfl ⟨rfl, by decide, by decide⟩ (fun w h Y => PySem.W.kIn_of Y) ?F (fun _ _ a ns hl ho hS => ⟨a, ns, rfl, hS, hl, ho, fun _ => rfl⟩) (fun _ _ _ _ _ h => h)
  case F =>
    intro w mg fa h KX G hmg
    refine' Lk19.all_mk KX G hmg ?pa0 ?pl0 ?pc0 ?pk0 ?pa1 ?pl1 ?pc1 ?pk1 ?pa2 ?pl2 ?pc2 ?pk2 ?pa3 ?pl3 ?pc3 ?pk3 ?pa4 ?pl4 ?pc4 ?pk4 ?pa5 ?pl5 ?pc5 ?pk5 ?pa6 ?pl6 ?pc6 ?pk6 ?pa7 ?pl7 ?pc7 ?pk7 ?pa8 ?pl8 ?pc8 ?pk8 ?pa9 ?pl9 ?pc9 ?pk9 ?pa10 ?pl10 ?pc10 ?pk10 ?pa11 ?pl11 ?pc11 ?pk11 ?pa12 ?pl12 ?pc12 ?pk12 ?pa13 ?pl13 ?pc13 ?pk13 ?pa14 ?pl14 ?pc14 ?pk14 ?pa15 ?pl15 ?pc15 ?pk15 ?pa16 ?pl16 ?pc16 ?pk16 ?pa17 ?pl17 ?pc17 ?pk17 ?pa18 ?pl18 ?pc18 ?pk18 ?pa19 ?pl19 ?pc19 ?pk19 ?pa20 ?pl20 ?pc20 ?pk20 ?pa21 ?pl21 ?pc21 ?pk21 ?pa22 ?pl22 ?pc22 ?pk22 ?pa23 ?pl23 ?pc23 ?pk23 ?pg0 ?pg1 ?pg2 ?pz0 ?pz1 ?pz2 ?pz3 ?pz4 ?pz5 ?pz6 ?pz7 ?pz8 ?pz9 ?pz10 ?pz11 ?pz12 ?pz13
    (case pa0 => k_is)
    (case pl0 => k_is)
    (case pc0 => k_is)
    (case pk0 => k_is)
    (case pa1 => k_is)
    (case pl1 => k_is)
    (case pc1 => k_is)
    (case pk1 => k_is)
    (case pa2 => k_is)
    (case pl2 => k_is)
    (case pc2 => k_is)
    (case pk2 => k_is)
    (case pa3 => k_is)
    (case pl3 => k_is)
    (case pc3 => k_is)
    (case pk3 => k_is)
    (case pa4 => k_is)
    (case pl4 => k_is)
    (case pc4 => k_is)
    (case pk4 => k_is)
    (case pa5 => k_is)
    (case pl5 => k_is)
    (case pc5 => k_is)
    (case pk5 => k_is)
    (case pa6 => k_is)
    (case pl6 => k_is)
    (case pc6 => k_is)
    (case pk6 => k_is)
    (case pa7 => k_is)
    (case pl7 => k_is)
    (case pc7 => k_is)
    (case pk7 => k_is)
    (case pa8 => k_is)
    (case pl8 => k_is)
    (case pc8 => k_is)
    (case pk8 => k_is)
    (case pa9 => k_is)
    (case pl9 => k_is)
    (case pc9 => k_is)
    (case pk9 => k_is)
    (case pa10 => k_is)
    (case pl10 => k_is)
    (case pc10 => k_is)
    (case pk10 => k_is)
    (case pa11 => k_is)
    (case pl11 => k_is)
    (case pc11 => k_is)
    (case pk11 => k_is)
    (case pa12 => k_is)
    (case pl12 => k_is)
    (case pc12 => k_is)
    (case pk12 => k_is)
    (case pa13 => k_is)
    (case pl13 => k_is)
    (case pc13 => k_is)
    (case pk13 => k_is)
    (case pa14 => k_is)
    (case pl14 => k_is)
    (case pc14 => k_is)
    (case pk14 => k_is)
    (case pa15 => k_is)
    (case pl15 => k_is)
    (case pc15 => k_is)
    (case pk15 => k_is)
    (case pa16 => k_is)
    (case pl16 => k_is)
    (case pc16 => k_is)
    (case pk16 => k_is)
    (case pa17 => k_is)
    (case pl17 => k_is)
    (case pc17 => k_is)
    (case pk17 => k_is)
    (case pa18 => k_is)
    (case pl18 => k_is)
    (case pc18 => k_is)
    (case pk18 => k_is)
    (case pa19 => k_is)
    (case pl19 => k_is)
    (case pc19 => k_is)
    (case pk19 => k_is)
    (case pa20 => k_is)
    (case pl20 => k_is)
    (case pc20 => k_is)
    (case pk20 => k_is)
    (case pa21 => k_is)
    (case pl21 => k_is)
    (case pc21 => k_is)
    (case pk21 => k_is)
    (case pa22 => k_is)
    (case pl22 => k_is)
    (case pc22 => k_is)
    (case pk22 => k_is)
    (case pa23 => k_is)
    (case pl23 => k_is)
    (case pc23 => k_is)
    (case pk23 => k_is)
    (case pg0 => k_is)
    (case pg1 => k_is)
    (case pg2 => k_is)
    (case pz0 => k_is)
    (case pz1 => k_is)
    (case pz2 => k_is)
    (case pz3 => k_is)
    (case pz4 => k_is)
    (case pz5 => k_is)
    (case pz6 => k_is)
    (case pz7 => k_is)
    (case pz8 => k_is)
    (case pz9 => k_is)
    (case pz10 => k_is)
    (case pz11 => k_is)
    (case pz12 => k_is)
    (case pz13 => k_is)
