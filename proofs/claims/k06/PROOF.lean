import PyProof.Rows.All
import Wide.All
import OpenK.AllK
import Wide.FinOn
import KE.KStateDown
import Lean
import KE.SortData
import KE.DataCmp
import KE.DataEq
import KE.DataIsa
import HandS.ForMost
import HandS.ForExc
import HandS.Walk
import HandS.Flow
import HandS.Deep
import HandS.Zip
import HandS.IsInst
import HandS.TupAny
import HandS.TupLe
import HandS.Conv
import HandS.Style
import HandS.TupMul
import KE.KTupSum
import HandS.ExcIs
import HandS.TupSets
import HandS.SetFor
import HandS.Strs
import HandS.HeadHook2
import HandS.HeadEnd
import HandS.Words
import HandS.Head0
import HandS.Head1
import HandS.Head2
import PySem.Challenge.RW_quotaweights_k06_whole_weights_or_a_trad
set_option Elab.async false
set_option linter.all false
set_option maxRecDepth 100000
/-! A small pure language: expressions and statements over plain data, and their evaluator. By an AI agent. -/
namespace Qw
open PySem L2

abbrev D := PyData

/-- an exception: its class's name, the data it carries -/
structure Exc where
  cls : Str
  arg : Option D

inductive R (α : Type) where
  | ok (a : α)
  | err (x : Exc)
  | bad
def R.bind {α β : Type} : R α → (α → R β) → R β
  | .ok a, f => f a
  | .err x, _ => .err x
  | .bad, _ => .bad
instance : Monad R where
  pure := .ok
  bind := R.bind

/-- what a slot holds: nothing, a datum, a list of one's own that may still be changed, a caught exception -/
inductive Cell where
  | un
  | val (d : D)
  | own (ds : List D)
  | exc (x : Exc)
abbrev Env := List Cell

inductive BOp where
  | add | sub | mul | div | mod | pow
  deriving DecidableEq
inductive COp where
  | eq | ne | lt | le | gt | ge | isin | notin
  deriving DecidableEq
inductive Ty where
  | int | bool | tuple | list | str
  deriving DecidableEq
inductive Bi where
  | len | sum | max1 | min1 | max2 | min2 | sorted | sortset | lenset | list | tuple | listrange | tuplerange | int | str | isi (t : Ty)
  deriving DecidableEq
inductive Tg where
  | one (i : Nat)
  | many (is : List Nat)

mutual
inductive E where
  | var (i : Nat)
  | cst (d : D)
  | tup (es : Es)
  | lst (es : Es)
  | bin (op : BOp) (a b : E)
  | neg (a : E)
  | cmp (op : COp) (a b : E)
  | chain (a b c : E)
  | isN (neg : Bool) (a : E)
  | and (a b : E)
  | or (a b : E)
  | not (a : E)
  | ifx (c a b : E)
  | idx (a b : E)
  | cut (a : E) (lo hi : Eo)
  | rev (a : E)
  | bi (b : Bi) (es : Es)
  | call (f : Nat) (es : Es)
  | comp (elt : E) (tg : Tg) (it : It) (cond : Eo)
  | comp2 (elt : E) (tg : Tg) (it : It) (cond : Eo) (tg2 : Tg) (it2 : It) (cond2 : Eo)
  | isE (i : Nat) (c : Str)
inductive Es where
  | nil
  | cons (e : E) (es : Es)
inductive Eo where
  | none
  | some (e : E)
inductive It where
  | seq (e : E)
  | range1 (e : E)
  | range2 (a b : E)
  | zip (a b : E)
  | enum (a : E)
end

mutual
inductive S where
  | asg (i : Nat) (e : E)
  | asgOwn (i : Nat) (e : E)
  | asgT (is : List Nat) (e : E)
  | par (i j : Nat) (a b : E)
  | setIx (i : Nat) (k e : E)
  | app (i : Nat) (e : E)
  | ext (i : Nat) (e : E)
  | aug (i : Nat) (op : BOp) (e : E)
  | expr (e : E)
  | ret (e : E)
  | retN
  | ite (c : E) (a b : Ss)
  | forS (tg : Tg) (it : It) (body : Ss)
  | whileS (c : E) (body : Ss)
  | raise (cls : Str)
  | tryS (cls : List Str) (body : Ss) (hs : Hs)
  | pass
  | never
inductive Ss where
  | nil
  | cons (s : S) (ss : Ss)
  | rel (i : Nat) (ss : Ss)
inductive Hs where
  | nil
  | cons (cls : Str) (slot : Nat) (body : Ss) (hs : Hs)
end

/-! ### operations on data -/
def LIM : Nat := 100000

def cutL {α : Type} (xs : List α) (lo hi : Option Int) : List α := (xs.drop (HT.sIx xs.length 0 lo)).take (HT.sIx xs.length xs.length hi - HT.sIx xs.length 0 lo)

def dAdd : D → D → R D
  | .int i, .int j => .ok (.int (i + j))
  | .str a, .str b => if a.length + b.length ≤ LIM then .ok (.str (a ++ b)) else .bad
  | .list a, .list b => if a.length + b.length ≤ LIM then .ok (.list (a ++ b)) else .bad
  | .tuple a, .tuple b => if a.length + b.length ≤ LIM then .ok (.tuple (a ++ b)) else .bad
  | _, _ => .bad
def mulOk (i j : Int) : Bool := (decide (-(2 ^ 64) < i) && decide (i < 2 ^ 64)) || (decide (-(2 ^ 64) < j) && decide (j < 2 ^ 64))
def dMul : D → D → R D
  | .int i, .int j => if mulOk i j then .ok (.int (i * j)) else .bad
  | .list a, .int k => if a.length * k.toNat ≤ LIM ∧ -(2 ^ 63) ≤ k ∧ k < 2 ^ 63 then .ok (.list (List.replicate k.toNat a).flatten) else .bad
  | .tuple a, .int k => if a ≠ [] ∧ 1 ≤ k ∧ k ≤ 1000 ∧ a.length ≤ 1000 then .ok (.tuple (List.replicate k.toNat a).flatten) else .bad
  | _, _ => .bad
def dBin : BOp → D → D → R D
  | .add, a, b => dAdd a b
  | .sub, .int i, .int j => .ok (.int (i - j))
  | .mul, a, b => dMul a b
  | .div, .int i, .int j => if 0 < j ∧ j < 1073741824 then .ok (.int (i / j)) else .bad
  | .mod, .int i, .int j => if 0 < j then .ok (.int (i % j)) else .bad
  | .pow, .int i, .int j => if 0 ≤ j ∧ j ≤ 1000000 ∧ i.natAbs < 2 ^ 64 then .ok (.int (i ^ j.toNat)) else .bad
  | _, _, _ => .bad
/-- the ints of a list of data, if all are ints -/
def intsOf : List D → Option (List Int)
  | [] => some []
  | .int i :: ds => (intsOf ds).map (i :: ·)
  | _ :: _ => none
def notNone : D → Bool
  | .none => false
  | _ => true
def okEq (a b : D) : Bool := a.plain && b.plain && decide (min a.depth b.depth ≤ 64)
def okLt (a b : D) : Bool := a.plain && b.plain && PySem.W.alike a b && notNone a && decide (min a.depth b.depth ≤ 64)
def okIn (x : D) (ds : List D) : Bool := PyData.plainAll ds && x.plain && decide (min (PyData.depthAll ds) x.depth ≤ 64)
def dOrd (f : Int → Int → Bool) (g : D → D → Bool) : D → D → R D
  | .int i, .int j => .ok (.bool (f i j))
  | a, b => if okLt a b then .ok (.bool (g a b)) else .bad
def dIn (x : D) : D → R Bool
  | .list ds => if okIn x ds then .ok (ds.any fun z => PyData.eqv z x) else .bad
  | .tuple ds => if okIn x ds then .ok (ds.any fun z => PyData.eqv z x) else .bad
  | .str t => match x with
    | .str s => .ok (!(Builtin.Str.occurrences t s 0 t.length 1).isEmpty)
    | _ => .bad
  | _ => .bad
def dCmp : COp → D → D → R D
  | .eq, a, b => if okEq a b then .ok (.bool (PyData.eqv a b)) else .bad
  | .ne, a, b => if okEq a b then .ok (.bool (!PyData.eqv a b)) else .bad
  | .lt, a, b => dOrd (fun i j => decide (i < j)) (fun x y => PySem.W.dataLt x y) a b
  | .le, a, b => dOrd (fun i j => decide (i ≤ j)) (fun x y => !PySem.W.dataLt y x) a b
  | .gt, a, b => dOrd (fun i j => decide (j < i)) (fun x y => PySem.W.dataLt y x) a b
  | .ge, a, b => dOrd (fun i j => decide (j ≤ i)) (fun x y => !PySem.W.dataLt x y) a b
  | .isin, a, b => (dIn a b).bind fun r => .ok (.bool r)
  | .notin, a, b => (dIn a b).bind fun r => .ok (.bool (!r))
/-- a datum's truth -/
def tru : D → R Bool
  | .none => .ok false
  | .bool b => .ok b
  | .int i => .ok (i != 0)
  | .str s => if s.length ≤ LIM then .ok (s.length != 0) else .bad
  | .list ds => .ok (!ds.isEmpty)
  | .tuple ds => .ok (!ds.isEmpty)
  | .dict _ => .bad
def flatD : D → Bool
  | .none | .bool _ | .int _ | .str _ => true
  | _ => false
def scrInts : List (D × D) → List Int
  | (.int n, _) :: r => n :: scrInts r
  | _ => []
def scr (ns : List Int) : D := .dict (ns.map fun n => (.int n, .none))
def dIdx : D → D → R D
  | .list ds, .int i => match atI ds i with
    | some d => .ok d
    | none => .bad
  | .tuple ds, .int i => match atI ds i with
    | some d => .ok d
    | none => .bad
  | .str s, .int i => if s.length ≤ LIM then (match atI s.cps.toList i with
    | some c => .ok (.str ⟨#[c]⟩)
    | none => .bad) else .bad
  | .dict kvs, .int i => match atI kvs i with
    | some (.int n, _) => .ok (.int n)
    | _ => .bad
  | _, _ => .bad
def dCut : D → Option Int → Option Int → R D
  | .list ds, lo, hi => .ok (.list (cutL ds lo hi))
  | .tuple ds, lo, hi => .ok (.tuple (cutL ds lo hi))
  | _, _, _ => .bad
def dRev : D → R D
  | .list ds => .ok (.list ds.reverse)
  | _ => .bad
def dLen : D → R D
  | .list ds => .ok (.int ds.length)
  | .tuple ds => .ok (.int ds.length)
  | .dict kvs => .ok (.int kvs.length)
  | .str s => if s.length ≤ LIM then .ok (.int s.length) else .bad
  | _ => .bad
def itemsOf : D → R (List D)
  | .list ds => .ok ds
  | .tuple ds => .ok ds
  | _ => .bad
def maxI : List Int → Option Int
  | [] => none
  | n :: ns => some (ns.foldl max n)
def minI : List Int → Option Int
  | [] => none
  | n :: ns => some (ns.foldl min n)
def rangeD (lo : Int) (n : Nat) : List D := (List.range n).map fun (i : Nat) => .int (lo + i)
def isiD : Ty → D → R Bool
  | .int, .int _ => .ok true
  | .int, .bool _ => .ok true
  | .bool, .bool _ => .ok true
  | .tuple, .tuple _ => .ok true
  | .list, .list _ => .ok true
  | .str, .str _ => .ok true
  | _, .dict _ => .bad
  | _, _ => .ok false
def isTupNE : D → Bool
  | .tuple (_ :: _) => true
  | _ => false
def isTupInts : D → Bool
  | .tuple ds => (intsOf ds).isSome
  | _ => false
def notTup : D → Bool
  | .tuple _ | .none => false
  | _ => true
def isTup : D → Bool
  | .tuple _ => true
  | _ => false
def sortOk (ds : List D) : Bool :=
  (ds.all fun d => (ds.all fun e => PySem.W.alike d e) && decide (d.depth ≤ 64)) && (ds.all isTup || ds.all notTup)
def sortD (ds : List D) : List D := ds.mergeSort (PySem.W.dataLe false id)
/-- the tuples of ints of a list, if all are such -/
def tupK : D → Option (List Int)
  | .tuple ds => intsOf ds
  | _ => none
def tupsK : List D → Option (List (List Int))
  | [] => some []
  | d :: ds => match tupK d, tupsK ds with
    | some k, some ks => some (k :: ks)
    | _, _ => none
def encK (k : List Int) : D := .tuple (k.map .int)
def nubK : List (List Int) → List (List Int)
  | [] => []
  | k :: ks => k :: (nubK ks).filter fun j => !decide (j = k)
def sortK (ks : List (List Int)) : List (List Int) := ks.mergeSort fun a b => decide (a ≤ b)
def nubB : List D → List D
  | [] => []
  | d :: ds => d :: (nubB ds).filter fun e => !PyData.eqv e d
def allInt (ds : List D) : Bool := (intsOf ds).isSome
def allBool (ds : List D) : Bool := ds.all fun d => match d with
  | .bool _ => true
  | _ => false
def one (f : D → R D) : List D → R D
  | [d] => f d
  | _ => .bad
def two (f : D → D → R D) : List D → R D
  | [d, e] => f d e
  | _ => .bad
def dSum : D → R D
  | .list ds => match intsOf ds with
    | some ns => .ok (.int ns.sum)
    | none => .bad
  | .tuple ds => match intsOf ds with
    | some ns => .ok (.int ns.sum)
    | none => .bad
  | _ => .bad
def dMax1 : D → R D
  | .list ds => match (intsOf ds).bind maxI with
    | some n => .ok (.int n)
    | none => .bad
  | _ => .bad
def dMin1 : D → R D
  | .list ds => match (intsOf ds).bind minI with
    | some n => .ok (.int n)
    | none => .bad
  | _ => .bad
def dMax2 : D → D → R D
  | .int i, .int j => .ok (.int (if j > i then j else i))
  | _, _ => .bad
def dMin2 : D → D → R D
  | .int i, .int j => .ok (.int (if j < i then j else i))
  | _, _ => .bad
def dSorted (d : D) : R D := (itemsOf d).bind fun ds => if sortOk ds then .ok (.list (sortD ds)) else .bad
def nubI : List Int → List Int
  | [] => []
  | k :: ks => k :: (nubI ks).filter fun j => !decide (j = k)
def sortI (l : List Int) : List Int := l.mergeSort fun a b => decide (a ≤ b)
def dSortSet : D → R D
  | .tuple ds => match intsOf ds with
    | some ns => if ns.length < 64 then .ok (.list ((sortI (nubI ns)).map .int)) else .bad
    | none => .bad
  | .list ds => match tupsK ds with
    | some ks => if ks.length < 64 then .ok (.list ((sortK (nubK ks)).map encK)) else .bad
    | none => .bad
  | _ => .bad
/-- not served yet -/
def dLenSet (_ : D) : R D := .bad
def dList (d : D) : R D := (itemsOf d).bind fun ds => .ok (.list ds)
def dTuple (d : D) : R D := (itemsOf d).bind fun ds => .ok (.tuple ds)
def dListRange : D → R D
  | .int n => if -1000000 ≤ n ∧ n ≤ 1000000 then .ok (.list (rangeD 0 n.toNat)) else .bad
  | _ => .bad
def dTupleRange : D → R D
  | .int n => if -1000000 ≤ n ∧ n ≤ 1000000 then .ok (.tuple (rangeD 0 n.toNat)) else .bad
  | _ => .bad
def dInt : D → R D
  | .bool b => .ok (.int (if b then 1 else 0))
  | .int i => .ok (.int i)
  | _ => .bad
def dStr : D → R D
  | .int i => if i.natAbs.log2 < 1920 then .ok (.str (toString i)) else .bad
  | _ => .bad
def dIsi (t : Ty) (d : D) : R D := (isiD t d).bind fun b => .ok (.bool b)
def dBi : Bi → List D → R D
  | .len => one dLen
  | .sum => one dSum
  | .max1 => one dMax1
  | .min1 => one dMin1
  | .max2 => two dMax2
  | .min2 => two dMin2
  | .sorted => one dSorted
  | .sortset => one dSortSet
  | .lenset => one dLenSet
  | .list => one dList
  | .tuple => one dTuple
  | .listrange => one dListRange
  | .tuplerange => one dTupleRange
  | .int => one dInt
  | .str => one dStr
  | .isi t => one (dIsi t)

/-! ### the environment -/
def setAll : List Nat → List D → Env → Option Env
  | [], [], ρ => some ρ
  | i :: is, d :: ds, ρ => setAll is ds (ρ.set i (.val d))
  | _, _, _ => none
def bindTg : Tg → D → Env → Option Env
  | .one i, d, ρ => some (ρ.set i (.val d))
  | .many is, .tuple ds, ρ => setAll is ds ρ
  | .many _, _, _ => none
def Tg.slots : Tg → List Nat
  | .one i => [i]
  | .many is => is
def wipeE (ρ : Env) : List Nat → Env
  | [] => ρ
  | v :: vs => (wipeE ρ vs).set v .un
/-- a value read where it is only looked at: a list of one's own may stand there too -/
def bor (ρ : Env) (e : E) (r : R D) : R D := match e with
  | .var i => match ρ[i]? with
    | some (.own ds) => .ok (.list ds)
    | _ => r
  | _ => r
def isOwn (ρ : Env) : E → Bool
  | .var i => match ρ[i]? with
    | some (.own _) => true
    | _ => false
  | _ => false
def anyOwn (ρ : Env) : Es → Bool
  | .nil => false
  | .cons e es => isOwn ρ e || anyOwn ρ es
def itOwn (ρ : Env) : It → Bool
  | .seq e => isOwn ρ e
  | .zip a b => isOwn ρ a || isOwn ρ b
  | .enum a => isOwn ρ a
  | _ => false
def compLoop (f : D → R (List D)) : List D → R (List D)
  | [] => .ok []
  | d :: ds => match f d with
    | .ok o => match compLoop f ds with
      | .ok r => .ok (o ++ r)
      | _ => .bad
    | _ => .bad
def dZip : D → D → R (List D)
  | .list ds, .list es => .ok ((ds.zip es).map fun p => .tuple [p.1, p.2])
  | .tuple ds, .tuple es => .ok ((ds.zip es).map fun p => .tuple [p.1, p.2])
  | _, _ => .bad
def dEnum : D → R (List D)
  | .list ds => .ok (ds.zipIdx.map fun p => .tuple [.int p.2, p.1])
  | _ => .bad
def intO : R D → R (Option Int)
  | .ok (.int i) => .ok (some i)
  | .err x => .err x
  | _ => .bad

/-- whether an exception of class x is one of class c -/
def isA (x c : Str) : Bool := decide (x = c) || decide (c = "GameError") || decide (c = "ValueError")
section
variable (call : Nat → List D → R D)
mutual
def evE (ρ : Env) : E → R D
  | .var i => match ρ[i]? with
    | some (.val d) => .ok d
    | _ => .bad
  | .cst d => .ok d
  | .tup es => (evEs ρ es).bind fun ds => .ok (.tuple ds)
  | .lst es => (evEs ρ es).bind fun ds => .ok (.list ds)
  | .bin op a b => (bor ρ a (evE ρ a)).bind fun x => (bor ρ b (evE ρ b)).bind fun y => dBin op x y
  | .neg a => (evE ρ a).bind fun x => match x with
    | .int i => .ok (.int (-i))
    | _ => .bad
  | .cmp op a b => (bor ρ a (evE ρ a)).bind fun x => (bor ρ b (evE ρ b)).bind fun y => dCmp op x y
  | .chain a b c => (evE ρ a).bind fun x => (evE ρ b).bind fun y => match x, y with
    | .int i, .int j => if i ≤ j then (evE ρ c).bind fun z => (match z with
      | .int k => .ok (.bool (decide (j ≤ k)))
      | _ => .bad) else .ok (.bool false)
    | _, _ => .bad
  | .isN n a => (evE ρ a).bind fun x => match x with
    | .none => .ok (.bool (!n))
    | .dict _ => .bad
    | _ => .ok (.bool n)
  | .and a b => (evE ρ a).bind fun x => (tru x).bind fun k => if k = true then evE ρ b else .ok x
  | .or a b => (evE ρ a).bind fun x => (tru x).bind fun k => if k = true then .ok x else evE ρ b
  | .not a => (bor ρ a (evE ρ a)).bind fun x => (tru x).bind fun k => .ok (.bool (!k))
  | .ifx c a b => (bor ρ c (evE ρ c)).bind fun x => (tru x).bind fun k => if k = true then evE ρ a else evE ρ b
  | .idx a b => (bor ρ a (evE ρ a)).bind fun x => (evE ρ b).bind fun y => dIdx x y
  | .cut a lo hi => (bor ρ a (evE ρ a)).bind fun x => (evEo ρ lo).bind fun l => (evEo ρ hi).bind fun h => dCut x l h
  | .rev a => (bor ρ a (evE ρ a)).bind fun x => dRev x
  | .bi b es => (evEsB ρ es).bind fun ds => dBi b ds
  | .call f es => (evEsB ρ es).bind fun ds => (call f ds).bind fun r => if flatD r || !anyOwn ρ es then .ok r else .bad
  | .comp elt tg it cond => (evIt ρ it).bind fun ds =>
      match compLoop (fun d => match bindTg tg d (wipeE ρ tg.slots) with
        | none => .bad
        | some ρ' => (evCond ρ' cond).bind fun k => if k = true then (evE ρ' elt).bind fun r => .ok [r] else .ok []) ds with
      | .ok rs => .ok (.list rs)
      | _ => .bad
  | .comp2 elt tg it cond tg2 it2 cond2 => (evIt ρ it).bind fun ds =>
      match compLoop (fun d => match bindTg tg d (wipeE ρ (tg.slots ++ tg2.slots)) with
        | none => .bad
        | some ρ' => (evCond ρ' cond).bind fun k => if k = true then (if itOwn ρ' it2 then .bad else (evIt ρ' it2)).bind fun es =>
            compLoop (fun e => match bindTg tg2 e (wipeE ρ' tg2.slots) with
              | none => .bad
              | some ρ2 => (evCond ρ2 cond2).bind fun k2 => if k2 = true then (evE ρ2 elt).bind fun r => .ok [r] else .ok []) es
          else .ok []) ds with
      | .ok rs => if rs.length ≤ LIM then .ok (.list rs) else .bad
      | _ => .bad
  | .isE i c => match ρ[i]? with
    | some (.exc x) => .ok (.bool (isA x.cls c))
    | _ => .bad
def evEs (ρ : Env) : Es → R (List D)
  | .nil => .ok []
  | .cons e es => (evE ρ e).bind fun d => (evEs ρ es).bind fun ds => .ok (d :: ds)
def evEsB (ρ : Env) : Es → R (List D)
  | .nil => .ok []
  | .cons e es => (bor ρ e (evE ρ e)).bind fun d => (evEsB ρ es).bind fun ds => .ok (d :: ds)
def evEo (ρ : Env) : Eo → R (Option Int)
  | .none => .ok none
  | .some e => intO (evE ρ e)
def evCond (ρ : Env) : Eo → R Bool
  | .none => .ok true
  | .some e => (bor ρ e (evE ρ e)).bind fun x => tru x
def evIt (ρ : Env) : It → R (List D)
  | .seq e => (bor ρ e (evE ρ e)).bind itemsOf
  | .range1 e => (evE ρ e).bind fun x => match x with
    | .int n => if -1000000 ≤ n ∧ n ≤ 1000000 then .ok (rangeD 0 n.toNat) else .bad
    | _ => .bad
  | .range2 a b => (evE ρ a).bind fun x => (evE ρ b).bind fun y => match x, y with
    | .int i, .int j => if (-1000000 ≤ i ∧ i ≤ 1000000) ∧ -1000000 ≤ j ∧ j ≤ 1000000 then .ok (rangeD i (j - i).toNat) else .bad
    | _, _ => .bad
  | .zip a b => (bor ρ a (evE ρ a)).bind fun x => (bor ρ b (evE ρ b)).bind fun y => dZip x y
  | .enum a => (bor ρ a (evE ρ a)).bind fun x => dEnum x
end
end

/-! ### statements -/
inductive Res where
  | next (ρ : Env)
  | ret (d : D)
  | err (x : Exc) (ρ : Env)
  | bad
def rThen (ρ : Env) {α : Type} (r : R α) (k : α → Res) : Res := match r with
  | .ok a => k a
  | .err x => .err x ρ
  | .bad => .bad
def seqR (r : Res) (k : Env → Res) : Res := match r with
  | .next ρ => k ρ
  | r => r
def forLoop (tg : Tg) (body : Env → Res) : List D → Env → Res
  | [], ρ => .next ρ
  | d :: ds, ρ => match bindTg tg d ρ with
    | none => .bad
    | some ρ' => seqR (body ρ') fun ρ2 => forLoop tg body ds ρ2
def whileLoop (test : Env → R Bool) (body : Env → Res) : Nat → Env → Res
  | 0, _ => .bad
  | n + 1, ρ => rThen ρ (test ρ) fun k => if k = true then seqR (body ρ) fun ρ' => whileLoop test body n ρ' else .next ρ
def relE (i : Nat) (ρ : Env) : Env := match ρ[i]? with
  | some (.own ds) => ρ.set i (.val (.list ds))
  | _ => ρ
/-- a test that the model's rules serve -/
def tOk : E → Bool
  | .ifx .. => false
  | .and a b => tOk a && tOk b
  | .or a b => tOk a && tOk b
  | .not a => tOk a
  | _ => true
/-- an expression that makes a new list -/
def isNew : E → Bool
  | .lst _ => true
  | .comp .. => true
  | .comp2 .. => true
  | .bi .list _ => true
  | .bi .sorted _ => true
  | .bi .listrange _ => true
  | .bin .mul (.lst _) _ => true
  | .bin .add _ (.lst _) => true
  | _ => false
def fuelW : Nat := 10 ^ 200
/-- no call -/
def noCall : Nat → List D → R D := fun _ _ => .bad
/-- behind an except suite its name is gone -/
def noExc (ρ : Env) : Env := ρ.map fun c => match c with
  | .exc _ => .un
  | c => c
def gone (i : Nat) : Res → Res
  | .next ρ => .next ((noExc ρ).set i .un)
  | .ret d => .ret d
  | _ => .bad
mutual
def evS (call : Nat → List D → R D) (ρ : Env) : S → Res
  | .asg i e => rThen ρ (evE call ρ e) fun d => .next (ρ.set i (.val d))
  | .asgOwn i e => if isNew e then rThen ρ (evE call ρ e) fun d => (match d with
      | .list ds => .next (ρ.set i (.own ds))
      | _ => .bad) else .bad
  | .asgT is e => rThen ρ (evE call ρ e) fun d => (match d with
      | .tuple ds => (match setAll is ds ρ with
        | some ρ' => .next ρ'
        | none => .bad)
      | _ => .bad)
  | .par i j a b => if i = j then .bad else rThen ρ (evE call ρ a) fun x => rThen ρ (evE call ρ b) fun y => .next ((ρ.set i (.val x)).set j (.val y))
  | .setIx i k e => match ρ[i]? with
      | some (.own ds) => rThen ρ (evE call ρ e) fun d => rThen ρ (evE call ρ k) fun kd => (match kd with
        | .int n => (match ixN ds.length n with
          | some j => .next (ρ.set i (.own (ds.set j d)))
          | none => .bad)
        | _ => .bad)
      | _ => .bad
  | .app i e => match ρ[i]? with
      | some (.own ds) => rThen ρ (evE call ρ e) fun d => if ds.length < LIM then .next (ρ.set i (.own (ds ++ [d]))) else .bad
      | _ => .bad
  | .ext i e => match ρ[i]? with
      | some (.own ds) => rThen ρ (evE call ρ e) fun d => (match d with
        | .list es => if ds.length + es.length ≤ LIM then .next (ρ.set i (.own (ds ++ es))) else .bad
        | _ => .bad)
      | _ => .bad
  | .aug i op e => match ρ[i]? with
      | some (.val (.int x)) => rThen ρ (evE call ρ e) fun d => (match op, d with
        | .add, .int y => .next (ρ.set i (.val (.int (x + y))))
        | .sub, .int y => .next (ρ.set i (.val (.int (x - y))))
        | _, _ => .bad)
      | _ => .bad
  | .expr e => rThen ρ (evE call ρ e) fun _ => .next ρ
  | .ret e => rThen ρ (evE call ρ e) fun d => .ret d
  | .retN => .ret .none
  | .ite c a b => rThen ρ ((bor ρ c (evE call ρ c)).bind tru) fun k => if k = true then evSs call ρ a else evSs call ρ b
  | .forS tg it body => if itOwn ρ it then .bad else rThen ρ (evIt call ρ it) fun ds => forLoop tg (fun ρ' => evSs call ρ' body) ds ρ
  | .whileS c body => whileLoop (fun ρ' => (bor ρ' c (evE call ρ' c)).bind tru) (fun ρ' => evSs call ρ' body) fuelW ρ
  | .raise c => .err ⟨c, none⟩ ρ
  | .tryS cls body hs => match evSs call ρ body with
      | .err x ρ' => if (x.arg.isNone && cls.contains x.cls) = true then evHs ρ' x hs else .bad
      | r => r
  | .pass => .next ρ
  | .never => .bad
def evSs (call : Nat → List D → R D) (ρ : Env) : Ss → Res
  | .nil => .next ρ
  | .cons s ss => seqR (evS call ρ s) fun ρ' => evSs call ρ' ss
  | .rel i ss => evSs call (relE i ρ) ss
def evHs (ρ : Env) (x : Exc) : Hs → Res
  | .nil => .err x ρ
  | .cons c i body hs => if isA x.cls c = true then gone i (evSs noCall (ρ.set i (.exc x)) body) else evHs ρ x hs
end

structure Fn where
  name : Str
  params : List Str
  slots : List Str
  body : Ss
/-- the table of the program's defs; level by level -/
def evFn (fns : List Fn) : Nat → Nat → List D → R D
  | 0, _, _ => .bad
  | k + 1, f, ds => match fns[f]? with
    | none => .bad
    | some F => if ds.length = F.params.length then
        (match evSs (evFn fns k) (ds.map Cell.val ++ List.replicate (F.slots.length - F.params.length) Cell.un) F.body with
        | .next _ => .ok .none
        | .ret d => .ok d
        | .err x _ => .err x
        | .bad => .bad) else .bad
end Qw

set_option Elab.async false
set_option linter.all false
set_option maxRecDepth 100000
set_option maxHeartbeats 2000000
/-! How data lie in the layer's heap; the readings of expressions. By an AI agent. -/
namespace Qw
open PySem PySem.Spec PyProof.Rows L2

abbrev Own := Addr → Prop
/-- the script's list, or another list of ints that stands still -/
def ScrOk (K : PySem.W.Frag) (H : Hp) (O : Own) (a : Addr) (xs : List V) : Prop := (¬ O a ∧ ∃ o, H a = some (.frz o (.lst xs))) ∨ ∀ H', SqL K H' a xs

mutual
inductive DR (K : PySem.W.Frag) (H : Hp) (O : Own) : V → D → Prop
  | non : DR K H O .non .none
  | bl (b : Bool) : DR K H O (.bl b) (.bool b)
  | int (i : Int) : DR K H O (.int i) (.int i)
  | str (x : Str) : DR K H O (.str x) (.str x)
  | lst {a : Addr} {xs : List V} {ds : List D} : ¬ O a → H a = some (.lst xs) → DRs K H O xs ds → DR K H O (.ref a) (.list ds)
  | tup {a : Addr} {xs : List V} {ds : List D} : ¬ O a → H a = some (.tup xs) → DRs K H O xs ds → DR K H O (.ref a) (.tuple ds)
  | scr {a : Addr} {ns : List Int} {kvs : List (D × D)} : ScrOk K H O a (ns.map V.int) → kvs = ns.map (fun n => (PyData.int n, PyData.none)) → DR K H O (.ref a) (.dict kvs)
inductive DRs (K : PySem.W.Frag) (H : Hp) (O : Own) : List V → List D → Prop
  | nil : DRs K H O [] []
  | cons {v : V} {vs : List V} {d : D} {ds : List D} : DR K H O v d → DRs K H O vs ds → DRs K H O (v :: vs) (d :: ds)
end

/-- what is not owned stays, and is not owned later -/
def Mv (O : Own) (H : Hp) (O' : Own) (H' : Hp) : Prop := ∀ a o, ¬ O a → H a = some o → H' a = some o ∧ ¬ O' a
theorem Mv.refl (O : Own) (H : Hp) : Mv O H O H := fun _ _ h e => ⟨e, h⟩
theorem Mv.trans {O O1 O2 : Own} {H H1 H2 : Hp} (a : Mv O H O1 H1) (b : Mv O1 H1 O2 H2) : Mv O H O2 H2 := fun x o h e =>
  let ⟨e1, h1⟩ := a x o h e
  b x o h1 e1
theorem Mv.same {O : Own} {H H' : Hp} (e : Same H H') : Mv O H O H' := fun _ _ h q => ⟨e _ _ q, h⟩
theorem Mv.none {O : Own} {H : Hp} : Mv O H (fun _ => False) H := fun _ _ _ e => ⟨e, fun z => z⟩

theorem ScrOk.mv {K : PySem.W.Frag} {H H' : Hp} {O O' : Own} {a : Addr} {xs : List V} (m : Mv O H O' H') (h : ScrOk K H O a xs) : ScrOk K H' O' a xs := by
  rcases h with ⟨n, o, h⟩ | h
  · exact .inl ⟨(m _ _ n h).2, o, (m _ _ n h).1⟩
  · exact .inr h
theorem ScrOk.sq {K : PySem.W.Frag} {H : Hp} {O : Own} {a : Addr} {xs : List V} (h : ScrOk K H O a xs) : SqL K H a xs := by
  rcases h with ⟨_, o, h⟩ | h
  · exact .inl (.inr ⟨o, h⟩)
  · exact h H
theorem ScrOk.of {K : PySem.W.Frag} {H : Hp} {O : Own} {a : Addr} {xs : List V} (n : ¬ O a) (hO : Only H) (h : SqL K H a xs) : ScrOk K H O a xs := by
  rcases h with (h | ⟨o, h⟩) | h
  · rcases hO a with z | ⟨o, ys, z⟩
    · rw [h] at z; cases z
    · rw [h] at z; cases z
  · exact .inl ⟨n, o, h⟩
  · exact .inr fun H' => .inr h
section
variable {K : PySem.W.Frag} {H H' : Hp} {O O' : Own}
mutual
theorem DR.mv (m : Mv O H O' H') : ∀ (d : D) (v : V), DR K H O v d → DR K H' O' v d
  | .none, _, h => by cases h; exact .non
  | .bool b, _, h => by cases h; exact .bl b
  | .int i, _, h => by cases h; exact .int i
  | .str x, _, h => by cases h; exact .str x
  | .list ds, _, h => by
    cases h with
    | lst n e hs => exact .lst (m _ _ n e).2 (m _ _ n e).1 (DRs.mv m ds _ hs)
  | .tuple ds, _, h => by
    cases h with
    | tup n e hs => exact .tup (m _ _ n e).2 (m _ _ n e).1 (DRs.mv m ds _ hs)
  | .dict kvs, _, h => by
    cases h with
    | scr q e => exact .scr (q.mv m) e
theorem DRs.mv (m : Mv O H O' H') : ∀ (ds : List D) (vs : List V), DRs K H O vs ds → DRs K H' O' vs ds
  | [], _, h => by cases h; exact .nil
  | d :: ds, _, h => by
    cases h with
    | cons h1 h2 => exact .cons (DR.mv m d _ h1) (DRs.mv m ds _ h2)
end
theorem DR.same {v : V} {d : D} (h : DR K H O v d) (e : Same H H') : DR K H' O v d := DR.mv (Mv.same e) d v h
theorem DRs.same {vs : List V} {ds : List D} (h : DRs K H O vs ds) (e : Same H H') : DRs K H' O vs ds := DRs.mv (Mv.same e) ds vs h
theorem DRs.length : ∀ {vs : List V} {ds : List D}, DRs K H O vs ds → vs.length = ds.length
  | _, _, .nil => rfl
  | _, _, .cons _ h => by rw [List.length_cons, List.length_cons, DRs.length h]
theorem DRs.append : ∀ {vs ws : List V} {ds es : List D}, DRs K H O vs ds → DRs K H O ws es → DRs K H O (vs ++ ws) (ds ++ es)
  | _, _, _, _, .nil, h => h
  | _, _, _, _, .cons a b, h => .cons a (b.append h)
theorem DRs.get : ∀ {vs : List V} {ds : List D} {i : Nat} {d : D}, DRs K H O vs ds → ds[i]? = some d → ∃ v, vs[i]? = some v ∧ DR K H O v d
  | _, _, _, _, .nil, e => by simp at e
  | _, _, 0, _, .cons a _, e => by simp at e; subst e; exact ⟨_, rfl, a⟩
  | _, _, i + 1, d, .cons _ b, e => by
    obtain ⟨v, h1, h2⟩ := DRs.get (i := i) (d := d) b (by simpa using e)
    exact ⟨v, by simpa using h1, h2⟩
theorem DRs.get' : ∀ {vs : List V} {ds : List D} {i : Nat} {v : V}, DRs K H O vs ds → vs[i]? = some v → ∃ d, ds[i]? = some d ∧ DR K H O v d
  | _, _, _, _, .nil, e => by simp at e
  | _, _, 0, _, .cons a _, e => by simp at e; subst e; exact ⟨_, rfl, a⟩
  | _, _, i + 1, d, .cons _ b, e => by
    obtain ⟨v, h1, h2⟩ := DRs.get' (i := i) (v := d) b (by simpa using e)
    exact ⟨v, by simpa using h1, h2⟩
theorem DRs.take : ∀ {vs : List V} {ds : List D} (n : Nat), DRs K H O vs ds → DRs K H O (vs.take n) (ds.take n)
  | _, _, 0, _ => .nil
  | _, _, _ + 1, .nil => .nil
  | _, _, n + 1, .cons a b => .cons a (b.take n)
theorem DRs.drop : ∀ {vs : List V} {ds : List D} (n : Nat), DRs K H O vs ds → DRs K H O (vs.drop n) (ds.drop n)
  | _, _, 0, h => h
  | _, _, _ + 1, .nil => .nil
  | _, _, n + 1, .cons _ b => DRs.drop n b
theorem DRs.cut {vs : List V} {ds : List D} (h : DRs K H O vs ds) (lo hi : Option Int) : DRs K H O (cutV vs lo hi) (cutL ds lo hi) := by
  unfold cutV cutL
  rw [h.length]
  exact (h.drop _).take _
theorem DRs.reverse {vs : List V} {ds : List D} (h : DRs K H O vs ds) : DRs K H O vs.reverse ds.reverse := by
  induction ds generalizing vs with
  | nil => cases h; exact .nil
  | cons d ds ih =>
    cases h with
    | cons a b =>
      rw [List.reverse_cons, List.reverse_cons]
      exact (ih b).append (.cons a .nil)
theorem DRs.rep {vs : List V} {ds : List D} (h : DRs K H O vs ds) : ∀ k : Nat, DRs K H O (List.replicate k vs).flatten (List.replicate k ds).flatten
  | 0 => .nil
  | k + 1 => by
    rw [List.replicate_succ, List.replicate_succ, List.flatten_cons, List.flatten_cons]
    exact h.append (h.rep k)
theorem DRs.set : ∀ {vs : List V} {ds : List D} {v : V} {d : D} (i : Nat), DRs K H O vs ds → DR K H O v d → DRs K H O (vs.set i v) (ds.set i d)
  | _, _, _, _, _, .nil, _ => .nil
  | _, _, _, _, 0, .cons _ b, h => .cons h b
  | _, _, _, _, i + 1, .cons a b, h => .cons a (b.set i h)
theorem DRs.ints : ∀ {vs : List V} {ds : List D} {ns : List Int}, DRs K H O vs ds → intsOf ds = some ns → vs = ns.map V.int
  | _, _, _, .nil, e => by
    have e' : ([] : List Int) = _ := Option.some.inj e
    subst e'
    rfl
  | _, _, ns, .cons (d := d) (ds := ds) a b, e => by
    cases d with
    | int i =>
      have e' : (intsOf ds).map (i :: ·) = some ns := e
      obtain ⟨ms, e1, e2⟩ := Option.map_eq_some_iff.mp e'
      subst e2
      cases a
      rw [b.ints e1]
      rfl
    | _ => exact absurd e (by simp [intsOf])
theorem DRs.of_ints : ∀ (ns : List Int), DRs K H O (ns.map V.int) (ns.map PyData.int)
  | [] => .nil
  | n :: ns => .cons (.int n) (DRs.of_ints ns)
mutual
theorem plain_of_alike : ∀ d : D, PySem.W.alike d d = true → d.plain = true
  | .none, _ => rfl
  | .bool _, _ => rfl
  | .int _, _ => rfl
  | .str _, _ => rfl
  | .list xs, h => by
    have h' : PySem.W.alikeAll xs xs = true := by simpa only [PySem.W.alike] using h
    show PyData.plain _ = true
    simp only [PyData.plain]
    exact plainAll_of_alike xs h'
  | .tuple xs, h => by
    have h' : PySem.W.alikeAll xs xs = true := by simpa only [PySem.W.alike] using h
    show PyData.plain _ = true
    simp only [PyData.plain]
    exact plainAll_of_alike xs h'
  | .dict _, h => by simp [PySem.W.alike] at h
theorem plainAll_of_alike : ∀ ds : List D, PySem.W.alikeAll ds ds = true → PyData.plainAll ds = true
  | [], _ => rfl
  | d :: ds, h => by
    have h' : PySem.W.alike d d = true ∧ PySem.W.alikeAll ds ds = true := by simpa [PySem.W.alikeAll] using h
    simp only [PyData.plainAll]
    rw [plain_of_alike d h'.1, plainAll_of_alike ds h'.2]
    rfl
end
mutual
/-- without the owners, in the layer's own words -/
theorem DR.dp : ∀ (d : D) (v : V), DR K H O v d → d.plain = true → Dp K H v d
  | .none, _, h, _ => by cases h; exact .non
  | .bool b, _, h, _ => by cases h; exact .bl b
  | .int i, _, h, _ => by cases h; exact .int i
  | .str x, _, h, _ => by cases h; exact .str x
  | .list ds, _, h, s => by
    cases h with
    | lst n e hs => exact .lst (SqL.of e) (DRs.dp ds _ hs s)
  | .tuple ds, _, h, s => by
    cases h with
    | tup n e hs => exact .tup (SqT.of e) (DRs.dp ds _ hs s)
  | .dict kvs, _, h, s => by exact absurd s (by simp [PyData.plain])
theorem DRs.dp : ∀ (ds : List D) (vs : List V), DRs K H O vs ds → PyData.plainAll ds = true → DpAll K H vs ds
  | [], _, h, _ => by cases h; exact .nil
  | d :: ds, _, h, s => by
    have s' : d.plain = true ∧ PyData.plainAll ds = true := by simpa [PyData.plainAll] using s
    cases h with
    | cons h1 h2 => exact .cons (DR.dp d _ h1 s'.1) (DRs.dp ds _ h2 s'.2)
end
end

/-! ### a value that is only looked at -/
/-- a datum, or a list of one's own -/
def DB (K : PySem.W.Frag) (H : Hp) (O : Own) (v : V) (d : D) : Prop := DR K H O v d ∨ ∃ p xs ds, v = .ref p ∧ O p ∧ H p = some (.lst xs) ∧ DRs K H O xs ds ∧ d = .list ds
section
variable {K : PySem.W.Frag} {H H' : Hp} {O O' : Own} {v : V} {d : D} {ds : List D}
theorem DB.same (h : DB K H O v d) (e : Same H H') : DB K H' O v d := by
  rcases h with h | ⟨p, xs, ds, h1, h2, h3, h4, h5⟩
  · exact .inl (h.same e)
  · exact .inr ⟨p, xs, ds, h1, h2, e _ _ h3, h4.same e, h5⟩
theorem DB.lst (h : DB K H O v (.list ds)) : ∃ p xs, v = .ref p ∧ H p = some (.lst xs) ∧ DRs K H O xs ds := by
  rcases h with h | ⟨p, xs, es, h1, h2, h3, h4, h5⟩
  · cases h with
    | lst n e hs => exact ⟨_, _, rfl, e, hs⟩
  · cases h5
    exact ⟨p, xs, h1, h3, h4⟩
theorem DB.tup (h : DB K H O v (.tuple ds)) : ∃ p xs, v = .ref p ∧ H p = some (.tup xs) ∧ DRs K H O xs ds := by
  rcases h with h | ⟨p, xs, es, h1, h2, h3, h4, h5⟩
  · cases h with
    | tup n e hs => exact ⟨_, _, rfl, e, hs⟩
  · cases h5
theorem DB.int {i : Int} (h : DB K H O v (.int i)) : v = .int i := by
  rcases h with h | ⟨p, xs, es, h1, h2, h3, h4, h5⟩
  · cases h; rfl
  · cases h5
theorem DB.bl {b : Bool} (h : DB K H O v (.bool b)) : v = .bl b := by
  rcases h with h | ⟨p, xs, es, h1, h2, h3, h4, h5⟩
  · cases h; rfl
  · cases h5
theorem DB.str {x : Str} (h : DB K H O v (.str x)) : v = .str x := by
  rcases h with h | ⟨p, xs, es, h1, h2, h3, h4, h5⟩
  · cases h; rfl
  · cases h5
theorem DB.non (h : DB K H O v .none) : v = .non := by
  rcases h with h | ⟨p, xs, es, h1, h2, h3, h4, h5⟩
  · cases h; rfl
  · cases h5
theorem DB.scr {kvs : List (D × D)} (h : DB K H O v (.dict kvs)) : ∃ (a : Addr) (ns : List Int), v = .ref a ∧ SqL K H a (ns.map V.int) ∧ kvs = ns.map (fun n => (PyData.int n, PyData.none)) := by
  rcases h with h | ⟨p, xs, es, h1, h2, h3, h4, h5⟩
  · cases h with
    | scr q e => exact ⟨_, _, rfl, q.sq, e⟩
  · cases h5
theorem DB.dp (h : DB K H O v d) (s : d.plain = true) : Dp K H v d := by
  rcases h with h | ⟨p, xs, ds, h1, h2, h3, h4, h5⟩
  · exact DR.dp d v h s
  · subst h1 h5
    exact .lst (SqL.of h3) (DRs.dp ds xs h4 s)
/-- nothing is owned any more -/
theorem DB.free (h : DB K H O v d) : DR K H (fun _ => False) v d := by
  rcases h with h | ⟨p, xs, ds, h1, h2, h3, h4, h5⟩
  · exact DR.mv Mv.none d v h
  · subst h1 h5
    exact .lst (fun z => z) h3 (DRs.mv Mv.none ds xs h4)
theorem DR.flat (h : DR K H O v d) (f : flatD d = true) : DR K H' O' v d := by
  cases d with
  | none => cases h; exact .non
  | bool b => cases h; exact .bl b
  | int i => cases h; exact .int i
  | str x => cases h; exact .str x
  | list _ => exact absurd f (by simp [flatD])
  | tuple _ => exact absurd f (by simp [flatD])
  | dict _ => exact absurd f (by simp [flatD])
end

/-! ### the slots -/
/-- which exception an except suite holds, and where -/
abbrev XTy := Addr → Exc → Prop
/-- what is wished of a raised exception; what the caught ones are -/
structure WT where
  w : WX
  t : XTy
abbrev noW (t : XTy) : WT := ⟨fun _ _ _ _ => False, t⟩
structure RelE (K : PySem.W.Frag) (T : XTy) (H : Hp) (O : Own) (σ : L2.St) (ρ : Env) : Prop where
  len : ρ.length = σ.length
  dom : ∀ a, O a → ∃ o, H a = some o
  val : ∀ (i : Nat) (d : D), ρ[i]? = some (.val d) → ∃ v, σ[i]? = some (some v) ∧ DR K H O v d
  own : ∀ (i : Nat) (ds : List D), ρ[i]? = some (.own ds) → ∃ p xs, σ[i]? = some (some (.ref p)) ∧ O p ∧ H p = some (.lst xs) ∧ DRs K H O xs ds
  exc : ∀ (i : Nat) (x : Exc), ρ[i]? = some (.exc x) → ∃ a, σ[i]? = some (some (.ref a)) ∧ T a x
theorem RelE.same {K : PySem.W.Frag} {T : XTy} {H H' : Hp} {O : Own} {σ : L2.St} {ρ : Env} (r : RelE K T H O σ ρ) (e : Same H H') : RelE K T H' O σ ρ :=
  ⟨r.len, fun a h => let ⟨o, q⟩ := r.dom a h; ⟨o, e _ _ q⟩, fun i d h => let ⟨v, h1, h2⟩ := r.val i d h; ⟨v, h1, h2.same e⟩,
    fun i ds h => let ⟨p, xs, h1, h2, h3, h4⟩ := r.own i ds h; ⟨p, xs, h1, h2, e _ _ h3, h4.same e⟩, r.exc⟩
theorem RelE.fresh {K : PySem.W.Frag} {T : XTy} {H : Hp} {O : Own} {σ : L2.St} {ρ : Env} (r : RelE K T H O σ ρ) {p : Addr} (h : H p = none) : ¬ O p := fun z => by
  obtain ⟨o, q⟩ := r.dom p z
  rw [h] at q
  cases q
theorem same_new {H : Hp} {p : Addr} {o : HO} (h : H p = none) : Same H (upd H p o) := fun a u e => by
  rw [upd_ne (ne_of_none e h)]
  exact e

/-! ### readings -/
/-- lists and tuples are no longer than the machine lets them be -/
def Sz (H : Hp) : Prop := ∀ a xs, (H a = some (.lst xs) ∨ H a = some (.tup xs)) → xs.length ≤ sizeLine
theorem Inv.sz' {X : Cx} {pins : List (Addr × Obj)} {σ : L2.St} {H : Hp} {s : Shared} (I : Inv X pins σ H s) : Sz H := fun a xs h => by
  rcases h with h | h
  · exact (I.hok a _ h).1
  · exact (I.hok a _ h).1
/-- what a raised exception is wished to be -/
def ErrOk (mg : Str → Option Value) (W : Value → Option Addr → Hp → Prop) (x : Exc) (H : Hp) : Prop := match x.arg with
  | none => ∃ C, mg x.cls = some (.ref C) ∧ W (.ref C) none H
  | some _ => False
section
variable {X : Cx}
theorem PE.weak {e : Expr} {t t' : TE} (h : PE X e t) (m : ∀ σ H Q, t' σ H Q → t σ H Q) : PE X e t' := ⟨fun pins s σ H Q I q => h.run pins s σ H Q I (m σ H Q q)⟩
theorem PE.sized {e : Expr} {t : TE} (h : PE X e t) : PE X e (fun σ H Q => Sz H → t σ H fun v H' => Sz H' → Q v H') := ⟨fun pins s σ H Q I q =>
  thn (h.run pins s σ H _ I (q (Inv.sz' I))) fun u s' ⟨v, H', I', r, k⟩ => ⟨v, H', I', r, k (Inv.sz' I')⟩⟩
theorem PT.weak {e : Expr} {t t' : TT} (h : PT X e t) (m : ∀ σ H Q, t' σ H Q → t σ H Q) : PT X e t' := ⟨fun pins s σ H Q I q => h.run pins s σ H Q I (m σ H Q q)⟩
theorem PT.sized {e : Expr} {t : TT} (h : PT X e t) : PT X e (fun σ H Q => Sz H → t σ H fun v H' => Sz H' → Q v H') := ⟨fun pins s σ H Q I q =>
  thn (h.run pins s σ H _ I (q (Inv.sz' I))) fun b s' ⟨H', I', k⟩ => ⟨H', I', k (Inv.sz' I')⟩⟩
theorem PS.weak {st : Stmt} {t t' : TS} (h : PS X st t) (m : ∀ D σ H, t' D σ H → t D σ H) : PS X st t' := ⟨fun pins s σ H D I q => h.run pins s σ H D I (m D σ H q)⟩
theorem PSs.weak {st : List Stmt} {t t' : TS} (h : PSs X st t) (m : ∀ D σ H, t' D σ H → t D σ H) : PSs X st t' := ⟨fun pins s σ H D I q => h.run pins s σ H D I (m D σ H q)⟩
end
/-- one list more is owned -/
def plus (O : Own) (L : Addr) : Own := fun a => O a ∨ a = L
theorem mv_plus {O : Own} {H1 Hc : Hp} {L : Addr} (hL : H1 L = none) (s : Same H1 Hc) : Mv O H1 (plus O L) Hc := fun a o n e => ⟨s _ _ e, fun z => z.elim n fun q => by subst q; rw [hL] at e; cases e⟩
/-- the value is a list that was made on the way -/
def NewL (K : PySem.W.Frag) (O : Own) (H H' : Hp) (v : V) (d : D) : Prop := ∃ p xs es, v = .ref p ∧ H p = none ∧ H' p = some (.lst xs) ∧ DRs K H' (plus O p) xs es ∧ d = .list es
theorem NewL.of {K : PySem.W.Frag} {O : Own} {H H1 : Hp} {p : Addr} {xs : List V} {es : List D} (s : Same H H1) (hp : H1 p = none) (h : DRs K H1 O xs es) : NewL K O H (upd H1 p (.lst xs)) (.ref p) (.list es) :=
  ⟨p, xs, es, rfl, s.free hp, upd_same, DRs.mv (mv_plus hp (fun a u e => by rw [upd_ne (ne_of_none e hp)]; exact e)) es xs h, rfl⟩
theorem NewL.sooner {K : PySem.W.Frag} {O : Own} {H H1 H' : Hp} {v : V} {d : D} (s : Same H H1) (h : NewL K O H1 H' v d) : NewL K O H H' v d :=
  let ⟨p, xs, es, h1, h2, h3⟩ := h
  ⟨p, xs, es, h1, s.free h2, h3⟩
/-- an answer of the evaluator, as a reading -/
def rdE (X : Cx) (W : WT) (O : Own) (σ : L2.St) (H : Hp) (new : Bool) (r : R D) (Q : VK) : Prop := match r with
  | .ok d => ∀ v H', Same H H' → Sz H' → DR X.K H' O v d → (new = true → NewL X.K O H H' v d) → Q v H'
  | .err x => ∀ H', Same H H' → ErrOk X.mg (fun c d H'' => W.w c d σ H'') x H'
  | .bad => False
def rdB (X : Cx) (W : WT) (O : Own) (σ : L2.St) (H : Hp) (o : Bool) (r : R D) (Q : VK) : Prop := match r with
  | .ok d => ∀ v H', Same H H' → Sz H' → DB X.K H' O v d → (o = false → DR X.K H' O v d) → Q v H'
  | .err x => ∀ H', Same H H' → ErrOk X.mg (fun c d H'' => W.w c d σ H'') x H'
  | .bad => False
def rdA (X : Cx) (W : WT) (O : Own) (σ : L2.St) (H : Hp) (r : R (List D)) (Q : List V → Hp → Prop) : Prop := match r with
  | .ok ds => ∀ vs H', Same H H' → DRs X.K H' O vs ds → Q vs H'
  | .err x => ∀ H', Same H H' → ErrOk X.mg (fun c d H'' => W.w c d σ H'') x H'
  | .bad => False
section
variable {X : Cx} {W : WT} {O : Own} {σ : L2.St} {H H1 : Hp}
/-- the reading may begin later -/
theorem rdE.later {new : Bool} {r : R D} {Q : VK} (e : Same H H1) (h : rdE X W O σ H new r Q) : rdE X W O σ H1 new r Q := by
  cases r with
  | ok d => exact fun v H' s z q n => h v H' (e.trans s) z q fun hn => (n hn).sooner e
  | err x => exact fun H' s => h H' (e.trans s)
  | bad => exact h
theorem rdB.later {o : Bool} {r : R D} {Q : VK} (e : Same H H1) (h : rdB X W O σ H o r Q) : rdB X W O σ H1 o r Q := by
  cases r with
  | ok d => exact fun v H' s z q q' => h v H' (e.trans s) z q q'
  | err x => exact fun H' s => h H' (e.trans s)
  | bad => exact h
end
end Qw

set_option Elab.async false
set_option linter.all false
set_option maxRecDepth 100000
set_option maxHeartbeats 2000000
/-! The layer's operators over data. By an AI agent. -/
namespace Qw
open PySem PySem.Spec PyProof.Rows L2

def Dom (O : Own) (H : Hp) : Prop := ∀ a, O a → ∃ o, H a = some o
theorem Dom.fresh {O : Own} {H : Hp} (h : Dom O H) {p : Addr} (e : H p = none) : ¬ O p := fun z => by
  obtain ⟨o, q⟩ := h p z
  rw [e] at q
  cases q
theorem Dom.same {O : Own} {H H' : Hp} (h : Dom O H) (e : Same H H') : Dom O H' := fun a z => let ⟨o, q⟩ := h a z; ⟨o, e _ _ q⟩
theorem newL {K : PySem.W.Frag} {O : Own} {H : Hp} {p : Addr} {xs : List V} {ds : List D} (dm : Dom O H) (hp : H p = none) (h : DRs K H O xs ds) : DR K (upd H p (.lst xs)) O (.ref p) (.list ds) :=
  .lst (dm.fresh hp) upd_same (h.same (same_new hp))
theorem newT {K : PySem.W.Frag} {O : Own} {H : Hp} {p : Addr} {xs : List V} {ds : List D} (dm : Dom O H) (hp : H p = none) (h : DRs K H O xs ds) : DR K (upd H p (.tup xs)) O (.ref p) (.tuple ds) :=
  .tup (dm.fresh hp) upd_same (h.same (same_new hp))
theorem lim_line : LIM ≤ sizeLine := by decide
theorem mil_line : 2000000 < sizeLine := by decide

/-- the evaluator's value, as a reading by values -/
def rdV (X : Cx) (H : Hp) (O : Own) (r : R D) (Q : VK) : Prop := match r with
  | .ok d => ∀ v H', Same H H' → DR X.K H' O v d → Q v H'
  | _ => False
def opOf : BOp → Operator
  | .add => .Add
  | .sub => .Sub
  | .mul => .Mult
  | .div => .FloorDiv
  | .mod => .Mod
  | .pow => .Pow
def r2D (X : Cx) (f : D → D → R D) : R2 := fun x y H Q => ∃ O d e, Dom O H ∧ DB X.K H O x d ∧ DB X.K H O y e ∧ rdV X H O (f d e) Q
section
variable {X : Cx}
theorem OpR.weak {f : Value → Value → Sem Value} {r r' : R2} (h : OpR X f r) (m : ∀ x y H Q, r' x y H Q → r x y H Q) : OpR X f r' := fun pins s σ H x y v u Q I rx ry q => h pins s σ H x y v u Q I rx ry (m x y H Q q)
theorem rdV_if {H : Hp} {O : Own} {c : Prop} [Decidable c] {d : D} {Q : VK} (h : rdV X H O (if c then .ok d else .bad) Q) : c ∧ ∀ v H', Same H H' → DR X.K H' O v d → Q v H' := by
  by_cases hc : c
  · rw [if_pos hc] at h
    exact ⟨hc, h⟩
  · rw [if_neg hc] at h
    exact h.elim
theorem op_dadd : OpR X (binaryOp .Add) (r2D X dAdd) := by
  intro pins s σ H x y v u Q I rx ry ⟨O, d, e, dm, hx, hy, h⟩
  cases d with
  | int i =>
    cases e with
    | int j =>
      exact op_add pins s σ H x y v u Q I rx ry ⟨i, j, hx.int, hy.int, h _ H (Same.refl H) (.int _)⟩
    | _ => exact h.elim
  | str a =>
    cases e with
    | str b =>
      obtain ⟨hc, h⟩ := rdV_if (show rdV X H O (if a.length + b.length ≤ LIM then .ok (.str (a ++ b)) else .bad) Q from h)
      exact op_add_str pins s σ H x y v u Q I rx ry ⟨a, b, hx.str, hy.str, Nat.le_trans hc lim_line, h _ H (Same.refl H) (.str _)⟩
    | _ => exact h.elim
  | list a =>
    cases e with
    | list b =>
      obtain ⟨hc, h⟩ := rdV_if (show rdV X H O (if a.length + b.length ≤ LIM then .ok (.list (a ++ b)) else .bad) Q from h)
      obtain ⟨p, xs, e1, e2, e3⟩ := hx.lst
      obtain ⟨q, ys, f1, f2, f3⟩ := hy.lst
      refine op_cat pins s σ H x y v u Q I rx ry ⟨p, q, xs, ys, e1, f1, e2, f2, ?_, fun z hz => h _ _ (same_new hz) (newL dm hz (e3.append f3))⟩
      rw [e3.length, f3.length]
      exact Nat.le_trans hc lim_line
    | _ => exact h.elim
  | tuple a =>
    cases e with
    | tuple b =>
      obtain ⟨hc, h⟩ := rdV_if (show rdV X H O (if a.length + b.length ≤ LIM then .ok (.tuple (a ++ b)) else .bad) Q from h)
      obtain ⟨p, xs, e1, e2, e3⟩ := hx.tup
      obtain ⟨q, ys, f1, f2, f3⟩ := hy.tup
      have hd : DR X.K H O x (.tuple a) := by
        rcases hx with hx | ⟨_, _, _, _, _, _, _, z⟩
        · exact hx
        · cases z
      have hd2 : DR X.K H O y (.tuple b) := by
        rcases hy with hy | ⟨_, _, _, _, _, _, _, z⟩
        · exact hy
        · cases z
      refine op_catA pins s σ H x y v u Q I rx ry ⟨p, q, xs, ys, e1, f1, SqT.of e2, SqT.of f2, ?_, ?_⟩
      · rw [e3.length, f3.length]
        exact Nat.le_trans hc lim_line
      · refine ⟨fun z => ?_, fun z1 z2 => ?_, fun z1 z2 p hp => ?_⟩
        · subst z
          have za : a = [] := by
            cases e3
            rfl
          subst za
          rw [← f1]
          exact h _ H (Same.refl H) (by rw [List.nil_append]; exact hd2)
        · subst z2
          have zb : b = [] := by
            cases f3
            rfl
          subst zb
          rw [← e1]
          exact h _ H (Same.refl H) (by rw [List.append_nil]; exact hd)
        · exact h _ _ (same_new hp) (newT dm hp (e3.append f3))
    | _ => exact h.elim
  | _ => cases e <;> exact h.elim
theorem mulOk_of {i j : Int} (h : mulOk i j = true) : CMul i j := by
  unfold mulOk at h
  simp only [Bool.or_eq_true, Bool.and_eq_true, decide_eq_true_eq] at h
  exact h
theorem tuple_mul1 (l : Addr) (items : Array Value) (n : Nat) (dd : Option Addr) (sl : Array (Option Value)) (u : Tok) :
    Meets (Builtin.«tuple.__mul__» ⟨[.ref l, .int 1 u], []⟩) (fun _ R s => s.heap.get? l = some { cls := .type "tuple", dict := dd, data := .seq items n, slots := sl } ∧ R (.ok (.ret (Value.ref l))) s) :=
  .of_wp fun prog w A R s h => by
    obtain ⟨hp, g, d, tk, os⟩ := s
    obtain ⟨hl, h⟩ := h
    have f1 := AutoSeq1.idx_int
    wp_walk using wpAny_loadPart' hl
    exact ⟨_, rfl, h⟩
def rRepT1 (K : PySem.W.Frag) : R2 := fun x y H Q => ∃ l xs, x = .ref l ∧ y = .int 1 ∧ SqT K H l xs ∧ Q (.ref l) H
theorem op_repT1 : OpR X (binaryOp .Mult) (rRepT1 X.K) := by
  intro pins s σ H x y v u Q I rx ry h
  obtain ⟨l, xs, rfl, rfl, hT, q⟩ := h
  cases rx
  obtain ⟨t, rfl⟩ := ry
  obtain ⟨its, r, ⟨⟨cls, dd, data, sl⟩, ho, hc, n, hd⟩, hs⟩ := I.tuple hT
  simp only at hc hd
  subst hc hd
  refine wpAny_binaryOp_repeat_ref (T := "tuple") (U := "int") (by decide) ⟨_, ho, rfl⟩ (fun s' => typeIs_int s' 1 t) noFill_tuple_mul F.fills_int_mul F.slot_int_rmul repeat_tuple F.slot_int_index.lookup
    (call_meets F.slot_int_rmul (typeIs_int s 1 t) F.entry_int_rmul (F.args_int_rmul_2 _ _) (int_rmul_tuple 1 t l its.toArray n dd sl)
      ⟨ho, rfl, ⟨_, ho, rfl⟩, call_meets F.slot_tuple_mul ⟨_, ho, rfl⟩ F.entry_tuple_mul (F.args_tuple_mul_2 _ _) (tuple_mul1 l its.toArray n dd sl t) ⟨ho, ?_⟩⟩)
  exact ⟨.ref l, H, I, rfl, q⟩
theorem op_dmul : OpR X (binaryOp .Mult) (r2D X dMul) := by
  intro pins s σ H x y v u Q I rx ry ⟨O, d, e, dm, hx, hy, h⟩
  cases d with
  | int i =>
    cases e with
    | int j =>
      obtain ⟨hc, h⟩ := rdV_if (show rdV X H O (if mulOk i j = true then .ok (.int (i * j)) else .bad) Q from h)
      exact op_mul pins s σ H x y v u Q I rx ry ⟨i, j, hx.int, hy.int, mulOk_of hc, h _ H (Same.refl H) (.int _)⟩
    | _ => exact h.elim
  | list a =>
    cases e with
    | int k =>
      obtain ⟨hc, h⟩ := rdV_if (show rdV X H O (if a.length * k.toNat ≤ LIM ∧ -(2 ^ 63) ≤ k ∧ k < 2 ^ 63 then .ok (.list (List.replicate k.toNat a).flatten) else .bad) Q from h)
      obtain ⟨p, xs, e1, e2, e3⟩ := hx.lst
      refine op_rep pins s σ H x y v u Q I rx ry ⟨p, k, xs, e1, hy.int, e2, hc.2.1, hc.2.2, ?_, fun z hz => h _ _ (same_new hz) (newL dm hz (e3.rep _))⟩
      rw [e3.length]
      exact Nat.le_trans hc.1 lim_line
    | _ => exact h.elim
  | tuple a =>
    cases e with
    | int k =>
      obtain ⟨⟨c1, c2, c3, c4⟩, h⟩ := rdV_if (show rdV X H O (if a ≠ [] ∧ 1 ≤ k ∧ k ≤ 1000 ∧ a.length ≤ 1000 then .ok (.tuple (List.replicate k.toNat a).flatten) else .bad) Q from h)
      obtain ⟨p, xs, e1, e2, e3⟩ := hx.tup
      by_cases k1 : k = 1
      · subst k1
        have hd : DR X.K H O x (.tuple a) := by
          rcases hx with hx | ⟨_, _, _, _, _, _, _, z⟩
          · exact hx
          · cases z
        refine op_repT1 pins s σ H x y v u Q I rx ry ⟨p, xs, e1, hy.int, SqT.of e2, ?_⟩
        rw [← e1]
        refine h _ H (Same.refl H) ?_
        have : (List.replicate (1 : Int).toNat a).flatten = a := by simp
        rw [this]
        exact hd
      · refine op_repT pins s σ H x y v u Q I rx ry ⟨p, k, xs, e1, hy.int, SqT.of e2, fun z => c1 ?_, by omega, c3, by rw [e3.length]; exact c4, fun z hz => h _ _ (same_new hz) (newT dm hz (e3.rep _))⟩
        subst z
        cases e3
        rfl
    | _ => exact h.elim
  | _ => cases e <;> exact h.elim
/-- a list, times an int: a new list -/
def r2N (X : Cx) : R2 := fun x y H Q => ∃ O a e, Dom O H ∧ DB X.K H O x (.list a) ∧ DB X.K H O y e ∧ (match dMul (.list a) e with
  | .ok r => ∀ v H', Same H H' → DR X.K H' O v r → NewL X.K O H H' v r → Q v H'
  | _ => False)
theorem op_drep : OpR X (binaryOp .Mult) (r2N X) := by
  intro pins s σ H x y v u Q I rx ry ⟨O, a, e, dm, hx, hy, h⟩
  cases e with
  | int k =>
    by_cases hc : a.length * k.toNat ≤ LIM ∧ -(2 ^ 63) ≤ k ∧ k < 2 ^ 63
    · have e0 : dMul (.list a) (.int k) = .ok (.list (List.replicate k.toNat a).flatten) := if_pos hc
      rw [e0] at h
      obtain ⟨p, xs, e1, e2, e3⟩ := hx.lst
      refine op_rep pins s σ H x y v u Q I rx ry ⟨p, k, xs, e1, hy.int, e2, hc.2.1, hc.2.2, ?_, fun z hz => h _ _ (same_new hz) (newL dm hz (e3.rep _)) (NewL.of (Same.refl H) hz (e3.rep _))⟩
      rw [e3.length]
      exact Nat.le_trans hc.1 lim_line
    · have e0 : dMul (.list a) (.int k) = .bad := if_neg hc
      rw [e0] at h
      exact h.elim
  | _ => exact h.elim
/-- a list and a list: a new list -/
def r2L (X : Cx) : R2 := fun x y H Q => ∃ O d b, Dom O H ∧ DB X.K H O x d ∧ DB X.K H O y (.list b) ∧ (match dAdd d (.list b) with
  | .ok r => ∀ v H', Same H H' → DR X.K H' O v r → NewL X.K O H H' v r → Q v H'
  | _ => False)
theorem op_dcat : OpR X (binaryOp .Add) (r2L X) := by
  intro pins s σ H x y v u Q I rx ry ⟨O, d, b, dm, hx, hy, h⟩
  cases d with
  | list a =>
    by_cases hc : a.length + b.length ≤ LIM
    · have e0 : dAdd (.list a) (.list b) = .ok (.list (a ++ b)) := if_pos hc
      rw [e0] at h
      obtain ⟨p, xs, e1, e2, e3⟩ := hx.lst
      obtain ⟨q, ys, f1, f2, f3⟩ := hy.lst
      refine op_cat pins s σ H x y v u Q I rx ry ⟨p, q, xs, ys, e1, f1, e2, f2, ?_, fun z hz => h _ _ (same_new hz) (newL dm hz (e3.append f3)) (NewL.of (Same.refl H) hz (e3.append f3))⟩
      rw [e3.length, f3.length]
      exact Nat.le_trans hc lim_line
    · have e0 : dAdd (.list a) (.list b) = .bad := if_neg hc
      rw [e0] at h
      exact h.elim
  | _ => exact h.elim
theorem op_dbin (op : BOp) : OpR X (binaryOp (opOf op)) (r2D X (dBin op)) := by
  cases op with
  | add => exact op_dadd
  | mul => exact op_dmul
  | sub =>
    intro pins s σ H x y v u Q I rx ry ⟨O, d, e, dm, hx, hy, h⟩
    cases d with
    | int i =>
      cases e with
      | int j => exact op_sub pins s σ H x y v u Q I rx ry ⟨i, j, hx.int, hy.int, h _ H (Same.refl H) (.int _)⟩
      | _ => exact h.elim
    | _ => cases e <;> exact h.elim
  | div =>
    intro pins s σ H x y v u Q I rx ry ⟨O, d, e, dm, hx, hy, h⟩
    cases d with
    | int i =>
      cases e with
      | int j =>
        obtain ⟨hc, h⟩ := rdV_if (show rdV X H O (if 0 < j ∧ j < 1073741824 then .ok (.int (i / j)) else .bad) Q from h)
        exact op_fdiv pins s σ H x y v u Q I rx ry ⟨i, j, hx.int, hy.int, hc, h _ H (Same.refl H) (.int _)⟩
      | _ => exact h.elim
    | _ => cases e <;> exact h.elim
  | mod =>
    intro pins s σ H x y v u Q I rx ry ⟨O, d, e, dm, hx, hy, h⟩
    cases d with
    | int i =>
      cases e with
      | int j =>
        obtain ⟨hc, h⟩ := rdV_if (show rdV X H O (if 0 < j then .ok (.int (i % j)) else .bad) Q from h)
        exact op_mod pins s σ H x y v u Q I rx ry ⟨i, j, hx.int, hy.int, hc, h _ H (Same.refl H) (.int _)⟩
      | _ => exact h.elim
    | _ => cases e <;> exact h.elim
  | pow =>
    intro pins s σ H x y v u Q I rx ry ⟨O, d, e, dm, hx, hy, h⟩
    cases d with
    | int i =>
      cases e with
      | int j =>
        obtain ⟨hc, h⟩ := rdV_if (show rdV X H O (if 0 ≤ j ∧ j ≤ 1000000 ∧ i.natAbs < 2 ^ 64 then .ok (.int (i ^ j.toNat)) else .bad) Q from h)
        exact op_pow pins s σ H x y v u Q I rx ry ⟨i, j, hx.int, hy.int, hc, h _ H (Same.refl H) (.int _)⟩
      | _ => exact h.elim
    | _ => cases e <;> exact h.elim

/-! ### comparisons -/
def copOf : COp → CmpOp
  | .eq => .Eq
  | .ne => .NotEq
  | .lt => .Lt
  | .le => .LtE
  | .gt => .Gt
  | .ge => .GtE
  | .isin => .In
  | .notin => .NotIn
theorem DB.reads {pins : List (Addr × Obj)} {s : Shared} {σ : L2.St} {H : Hp} {O : Own} {x : V} {v : Value} {d : D} (I : Inv X pins σ H s) (h : DB X.K H O x d) (r : RelV x v) (p : d.plain = true) : ∃ as, Reads s.heap v d as := Dp.reads I d x v (h.dp p) r
theorem op_dord {op : CmpOp} {f : Int → Int → Bool} {g : D → D → Bool} (hu : X.A.units + 200 < cLine) (hi : OpR X (compareOp op) (rI0 fun i j => .bl (f i j)))
    (hd : ∀ {prog : Program} {w : World} {A : Around} {E : Value → Shared → Prop} {s : Shared} {a b : Value} {da db : PyData} {as bs : List Addr} {Q : Value → Shared → Prop}, Reads s.heap a da as → Reads s.heap b db bs → PySem.W.alike da db = true → da ≠ .none → A.units + min da.depth db.depth < cLine → Q (.bool (g da db)) s → wpAny (model prog w) A (compareOp op a b) Q E s) :
    OpR X (compareOp op) (r2D X (dOrd f g)) := by
  intro pins s σ H x y v u Q I rx ry ⟨O, d, e, dm, hx, hy, h⟩
  have gen : rdV X H O (if okLt d e then .ok (.bool (g d e)) else .bad) Q → wpAny (model X.prog X.w) X.A (compareOp op v u) (EP X pins σ Q) X.xe s := fun h => by
    obtain ⟨hc, h⟩ := rdV_if h
    unfold okLt at hc
    simp only [Bool.and_eq_true, decide_eq_true_eq] at hc
    obtain ⟨⟨⟨⟨h1, h2⟩, h3⟩, h4⟩, h5⟩ := hc
    obtain ⟨as, r1⟩ := hx.reads I rx h1
    obtain ⟨bs, r2⟩ := hy.reads I ry h2
    refine hd r1 r2 h3 (fun z => ?_) (by omega) ⟨.bl _, H, I, rfl, h _ H (Same.refl H) (.bl _)⟩
    rw [z] at h4
    cases h4
  cases d with
  | int i =>
    cases e with
    | int j => exact hi pins s σ H x y v u Q I rx ry ⟨i, j, hx.int, hy.int, h _ H (Same.refl H) (.bl _)⟩
    | _ => exact gen h
  | _ => exact gen h
theorem rdV_bind {H : Hp} {O : Own} {r : R Bool} {f : Bool → Bool} {Q : VK} (h : rdV X H O (r.bind fun b => .ok (.bool (f b))) Q) : ∃ b, r = .ok b ∧ Q (.bl (f b)) H := by
  cases r with
  | ok b => exact ⟨b, rfl, h _ H (Same.refl H) (.bl _)⟩
  | err x => exact h.elim
  | bad => exact h.elim
theorem op_din {op : CmpOp} {f : Bool → Bool} (hu : X.A.units + 200 < cLine)
    (hs : OpR X (compareOp op) (fun x y H Q => ∃ i j, x = .str i ∧ y = .str j ∧ Q (.bl (f (!(Builtin.Str.occurrences j i 0 j.length 1).isEmpty))) H))
    (hl : ∀ {prog : Program} {w : World} {A : Around} {E : Value → Shared → Prop} {s : Shared} {c x : Value} {xs : List PyData} {d : PyData} {as bs : List Addr} {Q : Value → Shared → Prop}, Reads s.heap c (.list xs) as → Reads s.heap x d bs → PyData.plainAll xs = true → d.plain = true → A.units + 1 + min (PyData.depthAll xs) d.depth < cLine → Q (.bool (f (xs.any fun y => PyData.eqv y d))) s → wpAny (model prog w) A (compareOp op x c) Q E s)
    (ht : ∀ {prog : Program} {w : World} {A : Around} {E : Value → Shared → Prop} {s : Shared} {c x : Value} {xs : List PyData} {d : PyData} {as bs : List Addr} {Q : Value → Shared → Prop}, Reads s.heap c (.tuple xs) as → Reads s.heap x d bs → PyData.plainAll xs = true → d.plain = true → A.units + 1 + min (PyData.depthAll xs) d.depth < cLine → Q (.bool (f (xs.any fun y => PyData.eqv y d))) s → wpAny (model prog w) A (compareOp op x c) Q E s) :
    OpR X (compareOp op) (r2D X fun a b => (dIn a b).bind fun r => .ok (.bool (f r))) := by
  intro pins s σ H x y v u Q I rx ry ⟨O, d, e, dm, hx, hy, h⟩
  obtain ⟨b, hb, hQ⟩ := rdV_bind h
  have key : ∀ {ds : List D}, (if okIn d ds then R.ok (ds.any fun z => PyData.eqv z d) else R.bad) = R.ok b → PyData.plainAll ds = true ∧ d.plain = true ∧ X.A.units + 1 + min (PyData.depthAll ds) d.depth < cLine ∧ (ds.any fun z => PyData.eqv z d) = b := fun {ds} hb => by
    by_cases hc : okIn d ds = true
    · rw [if_pos hc] at hb
      unfold okIn at hc
      simp only [Bool.and_eq_true, decide_eq_true_eq] at hc
      obtain ⟨⟨h1, h2⟩, h3⟩ := hc
      exact ⟨h1, h2, by omega, R.ok.inj hb⟩
    · rw [if_neg hc] at hb
      cases hb
  cases e with
  | list ds =>
    obtain ⟨h1, h2, h3, h4⟩ := key hb
    obtain ⟨as, r1⟩ := hx.reads I rx h2
    obtain ⟨bs, r2⟩ := hy.reads I ry (show PyData.plain (.list ds) = true by simpa only [PyData.plain] using h1)
    exact hl r2 r1 h1 h2 h3 ⟨.bl _, H, I, rfl, by rw [h4]; exact hQ⟩
  | tuple ds =>
    obtain ⟨h1, h2, h3, h4⟩ := key hb
    obtain ⟨as, r1⟩ := hx.reads I rx h2
    obtain ⟨bs, r2⟩ := hy.reads I ry (show PyData.plain (.tuple ds) = true by simpa only [PyData.plain] using h1)
    exact ht r2 r1 h1 h2 h3 ⟨.bl _, H, I, rfl, by rw [h4]; exact hQ⟩
  | str t =>
    cases d with
    | str z =>
      have e' := R.ok.inj hb
      exact hs pins s σ H x y v u Q I rx ry ⟨z, t, hx.str, hy.str, by rw [e']; exact hQ⟩
    | _ => cases hb
  | _ => cases hb
theorem op_dcmp (hu : X.A.units + 200 < cLine) (op : COp) : OpR X (compareOp (copOf op)) (r2D X (dCmp op)) := by
  cases op with
  | eq =>
    intro pins s σ H x y v u Q I rx ry ⟨O, d, e, dm, hx, hy, h⟩
    obtain ⟨hc, h⟩ := rdV_if (show rdV X H O (if okEq d e = true then .ok (.bool (PyData.eqv d e)) else .bad) Q from h)
    unfold okEq at hc
    simp only [Bool.and_eq_true, decide_eq_true_eq] at hc
    obtain ⟨⟨h1, h2⟩, h3⟩ := hc
    obtain ⟨as, r1⟩ := hx.reads I rx h1
    obtain ⟨bs, r2⟩ := hy.reads I ry h2
    exact SeqAt.eq_plain r1 r2 h1 h2 (by omega) ⟨.bl _, H, I, rfl, h _ H (Same.refl H) (.bl _)⟩
  | ne =>
    intro pins s σ H x y v u Q I rx ry ⟨O, d, e, dm, hx, hy, h⟩
    obtain ⟨hc, h⟩ := rdV_if (show rdV X H O (if okEq d e = true then .ok (.bool (!PyData.eqv d e)) else .bad) Q from h)
    unfold okEq at hc
    simp only [Bool.and_eq_true, decide_eq_true_eq] at hc
    obtain ⟨⟨h1, h2⟩, h3⟩ := hc
    obtain ⟨as, r1⟩ := hx.reads I rx h1
    obtain ⟨bs, r2⟩ := hy.reads I ry h2
    exact SeqAt.ne_plain r1 r2 h1 h2 (by omega) ⟨.bl _, H, I, rfl, h _ H (Same.refl H) (.bl _)⟩
  | lt => exact op_dord hu op_lt fun h1 h2 h3 h4 h5 h6 => PySem.W.lt_data h1 h2 h3 h4 h5 h6
  | le => exact op_dord hu op_le fun h1 h2 h3 h4 h5 h6 => PySem.W.le_data h1 h2 h3 h4 h5 h6
  | gt => exact op_dord hu op_gt fun h1 h2 h3 h4 h5 h6 => PySem.W.gt_data h1 h2 h3 h4 h5 h6
  | ge => exact op_dord hu op_ge fun h1 h2 h3 h4 h5 h6 => PySem.W.ge_data h1 h2 h3 h4 h5 h6
  | isin => exact op_din (f := fun b => b) hu op_in_str (fun h1 h2 h3 h4 h5 h6 => SeqAt.in_list_data h1 h2 h3 h4 h5 h6) fun h1 h2 h3 h4 h5 h6 => SeqAt.in_tuple_data h1 h2 h3 h4 h5 h6
  | notin => exact op_din (f := fun b => !b) hu op_notin_str (fun h1 h2 h3 h4 h5 h6 => SeqAt.notIn_list_data h1 h2 h3 h4 h5 h6) fun h1 h2 h3 h4 h5 h6 => SeqAt.notIn_tuple_data h1 h2 h3 h4 h5 h6

/-! ### truth, items, slices -/
theorem tru_v {K : PySem.W.Frag} {H : Hp} {O : Own} {v : V} {d : D} {k : Bool} (h : DB K H O v d) (e : tru d = .ok k) : TruV K v H k := by
  cases d with
  | none => rw [h.non]; exact (R.ok.inj e).symm
  | bool b => rw [h.bl]; exact (R.ok.inj e).symm
  | int i => rw [h.int]; exact (R.ok.inj e).symm
  | str s =>
    rw [h.str]
    have e' : (if s.length ≤ LIM then R.ok (s.length != 0) else .bad) = .ok k := e
    by_cases hc : s.length ≤ LIM
    · rw [if_pos hc] at e'
      refine ⟨Nat.le_trans hc lim_line, ?_⟩
      rw [← R.ok.inj e']
      by_cases z : s.length = 0
      · rw [z]; rfl
      · rw [show (s.length != 0) = true by simpa using z, show (((s.length : Nat) : Int) != 0) = true by simpa using z]
    · rw [if_neg hc] at e'
      cases e'
  | list ds =>
    obtain ⟨p, xs, e1, e2, e3⟩ := h.lst
    rw [e1]
    refine .inl ⟨xs, SqL.of e2, ?_⟩
    rw [← R.ok.inj e]
    cases e3 <;> rfl
  | tuple ds =>
    obtain ⟨p, xs, e1, e2, e3⟩ := h.tup
    rw [e1]
    refine .inr (.inl ⟨xs, SqT.of e2, ?_⟩)
    rw [← R.ok.inj e]
    cases e3 <;> rfl
  | dict _ => cases e
theorem DRs.atI {K : PySem.W.Frag} {H : Hp} {O : Own} {xs : List V} {ds : List D} {i : Int} {d : D} (h : DRs K H O xs ds) (e : L2.atI ds i = some d) : ∃ v, L2.atI xs i = some v ∧ DR K H O v d := by
  unfold L2.atI at e ⊢
  rw [h.length]
  cases q : ixN ds.length i with
  | none => rw [q] at e; cases e
  | some j =>
    rw [q] at e
    exact h.get (show ds[j]? = some d from e)
theorem ix_d : IxR X (r2D X dIdx) := by
  intro value slice pins s σ H x y v u Q I rx ry ⟨O, d, e, dm, hx, hy, h⟩ hs
  cases e with
  | int i =>
    cases d with
    | list ds =>
      have h : rdV X H O (match L2.atI ds i with | some d => R.ok d | none => .bad) Q := h
      cases q : L2.atI ds i with
      | none => rw [q] at h; exact h.elim
      | some d =>
        rw [q] at h
        obtain ⟨p, xs, e1, e2, e3⟩ := hx.lst
        obtain ⟨w, w1, w2⟩ := e3.atI q
        exact ix_list value slice pins s σ H x y v u Q I rx ry ⟨p, xs, i, w, e1, hy.int, SqL.of e2, w1, h _ H (Same.refl H) w2⟩ hs
    | tuple ds =>
      have h : rdV X H O (match L2.atI ds i with | some d => R.ok d | none => .bad) Q := h
      cases q : L2.atI ds i with
      | none => rw [q] at h; exact h.elim
      | some d =>
        rw [q] at h
        obtain ⟨p, xs, e1, e2, e3⟩ := hx.tup
        obtain ⟨w, w1, w2⟩ := e3.atI q
        exact ix_tup value slice pins s σ H x y v u Q I rx ry ⟨p, xs, i, w, e1, hy.int, SqT.of e2, w1, h _ H (Same.refl H) w2⟩ hs
    | str z =>
      have h : rdV X H O (if z.length ≤ LIM then (match L2.atI z.cps.toList i with | some c => R.ok (.str ⟨#[c]⟩) | none => .bad) else .bad) Q := h
      by_cases hc : z.length ≤ LIM
      · rw [if_pos hc] at h
        cases q : L2.atI z.cps.toList i with
        | none => rw [q] at h; exact h.elim
        | some c =>
          rw [q] at h
          exact ix_str value slice pins s σ H x y v u Q I rx ry ⟨z, i, c, hx.str, hy.int, Nat.le_trans hc lim_line, q, h _ H (Same.refl H) (.str _)⟩ hs
      · rw [if_neg hc] at h
        exact h.elim
    | dict kvs =>
      obtain ⟨a, ns, e1, e2, e3⟩ := hx.scr
      have h : rdV X H O (match L2.atI kvs i with | some (.int n, _) => R.ok (.int n) | _ => .bad) Q := h
      subst e3
      have hat : L2.atI (ns.map fun n => (PyData.int n, PyData.none)) i = (L2.atI ns i).map fun n => (PyData.int n, PyData.none) := by
        unfold L2.atI
        rw [List.length_map]
        cases ixN ns.length i with
        | none => rfl
        | some j => show (ns.map _)[j]? = (ns[j]?).map _; rw [List.getElem?_map]
      have hat2 : L2.atI (ns.map V.int) i = (L2.atI ns i).map V.int := by
        unfold L2.atI
        rw [List.length_map]
        cases ixN ns.length i with
        | none => rfl
        | some j => show (ns.map _)[j]? = (ns[j]?).map _; rw [List.getElem?_map]
      rw [hat] at h
      cases q : L2.atI ns i with
      | none => rw [q] at h; exact h.elim
      | some n =>
        rw [q] at h
        exact ix_list value slice pins s σ H x y v u Q I rx ry ⟨a, _, i, .int n, e1, hy.int, e2, by rw [hat2, q]; rfl, h _ H (Same.refl H) (.int n)⟩ hs
    | _ => exact h.elim
  | _ => cases d <;> exact h.elim
def rSlD (X : Cx) : V → Option Int → Option Int → Hp → VK → Prop := fun x lo hi H Q => ∃ O d, Dom O H ∧ DB X.K H O x d ∧ rdV X H O (dCut d lo hi) Q
theorem cut_all {α : Type} (xs : List α) {lo hi : Option Int} (h : HT.sIx xs.length 0 lo = 0 ∧ HT.sIx xs.length xs.length hi = xs.length) : cutL xs lo hi = xs := by
  unfold cutL
  rw [h.1, h.2]
  simp
theorem sl_d : SlR X (rSlD X) := by
  intro pins s σ H x v vl vu lo hi sl Q I rx hs pl pu ⟨O, d, dm, hx, h⟩
  cases d with
  | list ds =>
    obtain ⟨p, xs, e1, e2, e3⟩ := hx.lst
    exact sl_list pins s σ H x v vl vu lo hi sl Q I rx hs pl pu ⟨p, xs, e1, SqL.of e2, fun q hq => h _ _ (same_new hq) (newL dm hq (e3.cut lo hi))⟩
  | tuple ds =>
    obtain ⟨p, xs, e1, e2, e3⟩ := hx.tup
    have hd : DR X.K H O x (.tuple ds) := by
      rcases hx with hx | ⟨_, _, _, _, _, _, _, z⟩
      · exact hx
      · cases z
    refine sl_tupA pins s σ H x v vl vu lo hi sl Q I rx hs pl pu ⟨p, xs, e1, SqT.of e2, fun z => ?_, fun z q hq => h _ _ (same_new hq) (newT dm hq (e3.cut lo hi))⟩
    rw [← e1]
    refine h _ H (Same.refl H) ?_
    rw [e3.length] at z
    rw [cut_all ds z]
    exact hd
  | _ => exact h.elim

/-! ### calls of built-ins -/
def rC1 (X : Cx) (f : D → R D) : List V → Hp → VK → Prop := fun xs H Q => ∃ O x d, xs = [x] ∧ Dom O H ∧ DB X.K H O x d ∧ rdV X H O (f d) Q
def rC2 (X : Cx) (f : D → D → R D) : List V → Hp → VK → Prop := fun xs H Q => ∃ O x y d e, xs = [x, y] ∧ Dom O H ∧ DB X.K H O x d ∧ DB X.K H O y e ∧ rdV X H O (f d e) Q
theorem cr_len : CallR X (.builtin "len") (rC1 X dLen) := by
  intro pins s σ H xs us Q I r ⟨O, x, d, ex, dm, hx, h⟩
  subst ex
  cases d with
  | list es =>
    obtain ⟨p, ys, e1, e2, e3⟩ := hx.lst
    refine call_len pins s σ H [x] us Q I r ⟨x, es.length, rfl, ?_, h _ H (Same.refl H) (.int _)⟩
    rw [e1]
    exact .inl ⟨ys, SqL.of e2, e3.length.symm⟩
  | tuple es =>
    obtain ⟨p, ys, e1, e2, e3⟩ := hx.tup
    refine call_len pins s σ H [x] us Q I r ⟨x, es.length, rfl, ?_, h _ H (Same.refl H) (.int _)⟩
    rw [e1]
    exact .inr ⟨ys, SqT.of e2, e3.length.symm⟩
  | dict kvs =>
    obtain ⟨a, ns, e1, e2, e3⟩ := hx.scr
    refine call_len pins s σ H [x] us Q I r ⟨x, kvs.length, rfl, ?_, h _ H (Same.refl H) (.int _)⟩
    rw [e1]
    exact .inl ⟨_, e2, by rw [e3, List.length_map, List.length_map]⟩
  | str z =>
    obtain ⟨hc, h⟩ := rdV_if (show rdV X H O (if z.length ≤ LIM then .ok (.int z.length) else .bad) Q from h)
    refine call_len pins s σ H [x] us Q I r ⟨x, z.length, rfl, ?_, h _ H (Same.refl H) (.int _)⟩
    rw [hx.str]
    exact ⟨Nat.le_trans hc lim_line, rfl⟩
  | _ => exact h.elim
/-- sum(t) of a tuple of ints -/
def rSumT (K : PySem.W.Frag) : List V → Hp → VK → Prop := fun vs H Q => ∃ (a : Addr) (ns : List Int), vs = [V.ref a] ∧ SqT K H a (ns.map V.int) ∧ Q (.int ns.sum) H
theorem cr_sumT (hc : X.calm = true) : CallR X (.builtin "sum") (rSumT X.K) := by
  intro pins s σ H vs us Q I r h
  obtain ⟨a, ns, rfl, hs, q⟩ := h
  obtain ⟨its, rv, ht, _⟩ := I.tuple hs
  rw [Vals.ref1 r]
  have hi := rv.ints
  obtain ⟨xs, e⟩ := hi.allInts.items
  have hn : numsOf (intItems xs).toList = ns := by rw [← e]; exact hi.numsOf
  rw [nums_intItems] at hn
  have ht' : s.heap.IsTuple a its.toArray := by
    obtain ⟨o, ho, hc, n, hd⟩ := ht
    exact ⟨o, ho, hc, n, hd⟩
  rw [e] at ht'
  refine PySem.W.ktm_sumG (I.ok.hd hc) ht' fun h' tk t' hk => ?_
  rw [preSum_eq, List.take_of_length_le (by simp), hn]
  exact ⟨.int _, H, I.kept hk, ⟨_, rfl⟩, q⟩
theorem cr_dsum (hc : X.calm = true) : CallR X (.builtin "sum") (rC1 X dSum) := by
  intro pins s σ H xs us Q I r ⟨O, x, d, ex, dm, hx, h⟩
  subst ex
  cases d with
  | list es =>
    obtain ⟨p, ys, e1, e2, e3⟩ := hx.lst
    have h : rdV X H O (match intsOf es with | some ns => R.ok (.int ns.sum) | none => .bad) Q := h
    cases q : intsOf es with
    | none => rw [q] at h; exact h.elim
    | some ns =>
      rw [q] at h
      have e4 := e3.ints q
      subst e4
      exact cr_sum hc pins s σ H [x] us Q I r ⟨p, ns, by rw [e1], SqL.of e2, h _ H (Same.refl H) (.int _)⟩
  | tuple es =>
    obtain ⟨p, ys, e1, e2, e3⟩ := hx.tup
    have h : rdV X H O (match intsOf es with | some ns => R.ok (.int ns.sum) | none => .bad) Q := h
    cases q : intsOf es with
    | none => rw [q] at h; exact h.elim
    | some ns =>
      rw [q] at h
      have e4 := e3.ints q
      subst e4
      exact cr_sumT hc pins s σ H [x] us Q I r ⟨p, ns, by rw [e1], SqT.of e2, h _ H (Same.refl H) (.int _)⟩
  | _ => exact h.elim
theorem foldl_max : ∀ (ns : List Int) (n : Int), (ns.foldl max n ∈ n :: ns) ∧ ∀ y ∈ n :: ns, y ≤ ns.foldl max n
  | [], n => ⟨by simp, by simp⟩
  | m :: ns, n => by
    obtain ⟨h1, h2⟩ := foldl_max ns (max n m)
    constructor
    · rw [List.foldl_cons]
      rcases List.mem_cons.mp h1 with e | e
      · rw [e]
        rcases Int.le_total n m with z | z
        · rw [Int.max_eq_right z]; simp
        · rw [Int.max_eq_left z]; simp
      · exact List.mem_cons_of_mem _ (List.mem_cons_of_mem _ e)
    · intro y hy
      rw [List.foldl_cons]
      have hm := h2 (max n m) List.mem_cons_self
      rcases List.mem_cons.mp hy with e | e
      · subst e; exact Int.le_trans (Int.le_max_left _ _) hm
      · rcases List.mem_cons.mp e with e | e
        · subst e; exact Int.le_trans (Int.le_max_right _ _) hm
        · exact h2 y (List.mem_cons_of_mem _ e)
theorem foldl_min : ∀ (ns : List Int) (n : Int), (ns.foldl min n ∈ n :: ns) ∧ ∀ y ∈ n :: ns, ns.foldl min n ≤ y
  | [], n => ⟨by simp, by simp⟩
  | m :: ns, n => by
    obtain ⟨h1, h2⟩ := foldl_min ns (min n m)
    constructor
    · rw [List.foldl_cons]
      rcases List.mem_cons.mp h1 with e | e
      · rw [e]
        rcases Int.le_total n m with z | z
        · rw [Int.min_eq_left z]; simp
        · rw [Int.min_eq_right z]; simp
      · exact List.mem_cons_of_mem _ (List.mem_cons_of_mem _ e)
    · intro y hy
      rw [List.foldl_cons]
      have hm := h2 (min n m) List.mem_cons_self
      rcases List.mem_cons.mp hy with e | e
      · subst e; exact Int.le_trans hm (Int.min_le_left _ _)
      · rcases List.mem_cons.mp e with e | e
        · subst e; exact Int.le_trans hm (Int.min_le_right _ _)
        · exact h2 y (List.mem_cons_of_mem _ e)
theorem cr_dmax1 (hc : X.calm = true) : CallR X (.builtin "max") (rC1 X dMax1) := by
  intro pins s σ H xs us Q I r ⟨O, x, d, ex, dm, hx, h⟩
  subst ex
  cases d with
  | list es =>
    obtain ⟨p, ys, e1, e2, e3⟩ := hx.lst
    have h : rdV X H O (match (intsOf es).bind maxI with | some n => R.ok (.int n) | none => .bad) Q := h
    cases q : intsOf es with
    | none => rw [q] at h; exact h.elim
    | some ns =>
      rw [q] at h
      have e4 := e3.ints q
      subst e4
      cases ns with
      | nil => exact h.elim
      | cons n ns =>
        obtain ⟨m1, m2⟩ := foldl_max ns n
        refine cr_max hc pins s σ H [x] us Q I r ⟨p, n :: ns, by rw [e1], SqL.of e2, Nat.succ_pos _, fun m hm hle => ?_⟩
        rw [show m = ns.foldl max n from Int.le_antisymm (m2 m hm) (hle _ m1)]
        exact h _ H (Same.refl H) (.int _)
  | _ => exact h.elim
theorem cr_dmin1 (hc : X.calm = true) : CallR X (.builtin "min") (rC1 X dMin1) := by
  intro pins s σ H xs us Q I r ⟨O, x, d, ex, dm, hx, h⟩
  subst ex
  cases d with
  | list es =>
    obtain ⟨p, ys, e1, e2, e3⟩ := hx.lst
    have h : rdV X H O (match (intsOf es).bind minI with | some n => R.ok (.int n) | none => .bad) Q := h
    cases q : intsOf es with
    | none => rw [q] at h; exact h.elim
    | some ns =>
      rw [q] at h
      have e4 := e3.ints q
      subst e4
      cases ns with
      | nil => exact h.elim
      | cons n ns =>
        obtain ⟨m1, m2⟩ := foldl_min ns n
        refine cr_min hc pins s σ H [x] us Q I r ⟨p, n :: ns, by rw [e1], SqL.of e2, Nat.succ_pos _, fun m hm hle => ?_⟩
        rw [show m = ns.foldl min n from Int.le_antisymm (hle _ m1) (m2 m hm)]
        exact h _ H (Same.refl H) (.int _)
  | _ => exact h.elim
theorem cr_dmax2 (hc : X.calm = true) : CallR X (.builtin "max") (rC2 X dMax2) := by
  intro pins s σ H xs us Q I r ⟨O, x, y, d, e, ex, dm, hx, hy, h⟩
  subst ex
  cases d with
  | int i =>
    cases e with
    | int j => exact call_max2 hc pins s σ H [x, y] us Q I r ⟨i, j, by rw [hx.int, hy.int], h _ H (Same.refl H) (.int _)⟩
    | _ => exact h.elim
  | _ => cases e <;> exact h.elim
theorem cr_dmin2 (hc : X.calm = true) : CallR X (.builtin "min") (rC2 X dMin2) := by
  intro pins s σ H xs us Q I r ⟨O, x, y, d, e, ex, dm, hx, hy, h⟩
  subst ex
  cases d with
  | int i =>
    cases e with
    | int j => exact call_min2 hc pins s σ H [x, y] us Q I r ⟨i, j, by rw [hx.int, hy.int], h _ H (Same.refl H) (.int _)⟩
    | _ => exact h.elim
  | _ => cases e <;> exact h.elim
/-- a new list's freshness is told too -/
def rC1N (X : Cx) (f : D → R D) : List V → Hp → VK → Prop := fun xs H Q => ∃ O x d, xs = [x] ∧ Dom O H ∧ DB X.K H O x d ∧ (match f d with
  | .ok r => ∀ v H', Same H H' → DR X.K H' O v r → NewL X.K O H H' v r → Q v H'
  | _ => False)
theorem cr_dlist : CallR X (.type "list") (rC1N X dList) := by
  intro pins s σ H xs us Q I r ⟨O, x, d, ex, dm, hx, h⟩
  subst ex
  cases d with
  | list es =>
    obtain ⟨p, ys, e1, e2, e3⟩ := hx.lst
    exact call_list_of pins s σ H [x] us Q I r ⟨p, ys, by rw [e1], .inl (SqL.of e2), fun l hl => h _ _ (same_new hl) (newL dm hl e3) (NewL.of (Same.refl H) hl e3)⟩
  | tuple es =>
    obtain ⟨p, ys, e1, e2, e3⟩ := hx.tup
    exact call_list_of pins s σ H [x] us Q I r ⟨p, ys, by rw [e1], .inr (SqT.of e2), fun l hl => h _ _ (same_new hl) (newL dm hl e3) (NewL.of (Same.refl H) hl e3)⟩
  | _ => exact h.elim
theorem cr_dtuple : CallR X (.type "tuple") (rC1 X dTuple) := by
  intro pins s σ H xs us Q I r ⟨O, x, d, ex, dm, hx, h⟩
  subst ex
  cases d with
  | list es =>
    obtain ⟨p, ys, e1, e2, e3⟩ := hx.lst
    exact call_tuple_of pins s σ H [x] us Q I r ⟨p, ys, by rw [e1], .inl ⟨SqL.of e2, fun l hl => h _ _ (same_new hl) (newT dm hl e3)⟩⟩
  | tuple es =>
    obtain ⟨p, ys, e1, e2, e3⟩ := hx.tup
    have hd : DR X.K H O x (.tuple es) := by
      rcases hx with hx | ⟨_, _, _, _, _, _, _, z⟩
      · exact hx
      · cases z
    exact call_tuple_of pins s σ H [x] us Q I r ⟨p, ys, by rw [e1], .inr ⟨SqT.of e2, by rw [← e1]; exact h _ H (Same.refl H) hd⟩⟩
  | _ => exact h.elim
theorem cr_dint : CallR X (.type "int") (rC1 X dInt) := by
  intro pins s σ H xs us Q I r ⟨O, x, d, ex, dm, hx, h⟩
  subst ex
  cases d with
  | bool b => exact call_int1 pins s σ H [x] us Q I r (.inr ⟨b, by rw [hx.bl], h _ H (Same.refl H) (.int _)⟩)
  | int i => exact call_int1 pins s σ H [x] us Q I r (.inl ⟨i, by rw [hx.int], h _ H (Same.refl H) (.int _)⟩)
  | _ => exact h.elim
theorem cr_dstr : CallR X (.type "str") (rC1 X dStr) := by
  intro pins s σ H xs us Q I r ⟨O, x, d, ex, dm, hx, h⟩
  subst ex
  cases d with
  | int i =>
    obtain ⟨hc, h⟩ := rdV_if (show rdV X H O (if i.natAbs.log2 < 1920 then .ok (.str (toString i)) else .bad) Q from h)
    exact call_str_int pins s σ H [x] us Q I r ⟨i, by rw [hx.int], hc, h _ H (Same.refl H) (.str _)⟩
  | _ => exact h.elim
def tyN : Ty → String
  | .int => "int"
  | .bool => "bool"
  | .tuple => "tuple"
  | .list => "list"
  | .str => "str"
def rIsiD (X : Cx) (t : Ty) : List V → Hp → VK → Prop := fun xs H Q => ∃ O x d, xs = [x, .ty (tyN t)] ∧ Dom O H ∧ DB X.K H O x d ∧ rdV X H O (dIsi t d) Q
def tyD : D → String
  | .none => "NoneType"
  | .bool _ => "bool"
  | .int _ => "int"
  | .str _ => "str"
  | .list _ => "list"
  | .tuple _ => "tuple"
  | .dict _ => "dict"
theorem isi_kit : ∀ (t : Ty) (d : D) (b : Bool), isiD t d = .ok b → kitB (tyD d) (tyN t) = some b
  | .int, d, b, e => by cases d <;> cases e <;> (simp only [tyD, tyN]; decide +kernel)
  | .bool, d, b, e => by cases d <;> cases e <;> (simp only [tyD, tyN]; decide +kernel)
  | .tuple, d, b, e => by cases d <;> cases e <;> (simp only [tyD, tyN]; decide +kernel)
  | .list, d, b, e => by cases d <;> cases e <;> (simp only [tyD, tyN]; decide +kernel)
  | .str, d, b, e => by cases d <;> cases e <;> (simp only [tyD, tyN]; decide +kernel)
theorem isi_nodict {t : Ty} {kvs : List (D × D)} {b : Bool} (e : isiD t (.dict kvs) = .ok b) : False := by cases t <;> cases e
theorem cr_isi (t : Ty) : CallR X (.builtin "isinstance") (rIsiD X t) := by
  intro pins s σ H xs us Q I r ⟨O, x, d, ex, dm, hx, h⟩
  subst ex
  obtain ⟨b, hb, hq⟩ := rdV_bind (f := fun b => b) h
  have ty : TyX X.K H x (.type (tyD d)) := by
    cases d with
    | none => rw [hx.non]; exact .base .non
    | bool y => rw [hx.bl]; exact .base (.bl y)
    | int i => rw [hx.int]; exact .base (.int i)
    | str y => rw [hx.str]; exact .base (.str y)
    | list ds => obtain ⟨p, ys, e1, e2, e3⟩ := hx.lst; rw [e1]; exact .base (.lst e2)
    | tuple ds => obtain ⟨p, ys, e1, e2, e3⟩ := hx.tup; rw [e1]; exact .base (.tup e2)
    | dict kvs => exact (isi_nodict hb).elim
  exact call_isi pins s σ H _ us Q I r ⟨x, .ty (tyN t), .type (tyD d), .type (tyN t), b, rfl, .ty _, ty, kit_ty (isi_kit t d b hb), hq⟩
end
end Qw

set_option Elab.async false
set_option linter.all false
set_option maxRecDepth 100000
set_option maxHeartbeats 2000000
/-! The matcher: a term of the small language against the model's own syntax. By an AI agent. -/
namespace Qw
open PySem PySem.Spec PyProof.Rows L2

def plainX : Expr → Bool
  | .Starred .. => false
  | .Set .. => false
  | .Slice .. => false
  | _ => true
def visB (sc : Scope) (x : Str) : Bool := match sc.names.lookup x with
  | some .local => true
  | some .cell => true
  | some .free => true
  | _ => false
def glB (sc : Scope) (x : Str) : Bool := match sc.names.lookup x with
  | some .globalImplicit => true
  | _ => false
def flatEq : D → D → Bool
  | .none, .none => true
  | .bool a, .bool b => a == b
  | .int a, .int b => decide (a = b)
  | .str a, .str b => decide (a = b)
  | _, _ => false
def cstB : D → Const → Bool
  | .none, .none => true
  | .bool a, .bool b => a == b
  | .int a, .int b => decide (a = b)
  | .str a, .str b => decide (a = b)
  | _, _ => false
def opB (op : BOp) (o : Operator) : Bool := match op, o with
  | .add, .Add => true
  | .sub, .Sub => true
  | .mul, .Mult => true
  | .div, .FloorDiv => true
  | .mod, .Mod => true
  | .pow, .Pow => true
  | _, _ => false
def copB (op : COp) (o : CmpOp) : Bool := match op, o with
  | .eq, .Eq => true
  | .ne, .NotEq => true
  | .lt, .Lt => true
  | .le, .LtE => true
  | .gt, .Gt => true
  | .ge, .GtE => true
  | .isin, .In => true
  | .notin, .NotIn => true
  | _, _ => false
theorem opB_of {op : BOp} {o : Operator} (h : opB op o = true) : o = opOf op := by cases op <;> cases o <;> first | rfl | cases h
theorem copB_of {op : COp} {o : CmpOp} (h : copB op o = true) : o = copOf op := by cases op <;> cases o <;> first | rfl | cases h
def nameOk (N : List Str) (i : Nat) (x : Str) : Bool := decide (N[i]? = some x) && !(x == ("__debug__" : Str)) && !(x == ("__classdict__" : Str))
/-- a target: names of the block's own scope -/
def tgName (N : List Str) (sc : Scope) (i : Nat) : Expr → Bool
  | .Name x _ => decide (N[i]? = some x) && (match sc.names.lookup x with
    | some .local => true
    | some .cell => true
    | _ => false)
  | _ => false
def tgNames (N : List Str) (sc : Scope) : List Nat → List Expr → Bool
  | [], [] => true
  | i :: is, x :: xs => tgName N sc i x && tgNames N sc is xs
  | _, _ => false
def tgB (N : List Str) (sc : Scope) : Tg → Expr → Bool
  | .one i, x => tgName N sc i x
  | .many is, .Tuple xs _ _ => tgNames N sc is xs
  | _, _ => false
def isTupX : Expr → Bool
  | .Tuple .. => true
  | _ => false
/-- the own names of a block, by place -/
def ownOf (N : List Str) : List Nat → List (Str × Nat)
  | [] => []
  | i :: is => (match N[i]? with
    | some x => (x, i) :: ownOf N is
    | none => ownOf N is)
def biName : Bi → Str
  | .len => "len"
  | .sum => "sum"
  | .max1 => "max"
  | .max2 => "max"
  | .min1 => "min"
  | .min2 => "min"
  | .sorted => "sorted"
  | .sortset => "sorted"
  | .lenset => "len"
  | .list => "list"
  | .tuple => "tuple"
  | .listrange => "list"
  | .tuplerange => "tuple"
  | .int => "int"
  | .str => "str"
  | .isi _ => "isinstance"
def tyS : Ty → Str
  | .int => "int"
  | .bool => "bool"
  | .tuple => "tuple"
  | .list => "list"
  | .str => "str"
def esLen : Es → Nat
  | .nil => 0
  | .cons _ es => esLen es + 1
/-! the syntax taken apart -/
def xName : Expr → Option Str
  | .Name x _ => some x
  | _ => none
theorem xName_of {x : Expr} {n : Str} (h : xName x = some n) : ∃ pos, x = .Name n pos := by
  cases x <;> first | (cases h; exact ⟨_, rfl⟩) | cases h
def xConst : Expr → Option Const
  | .Constant c _ _ => some c
  | _ => none
theorem xConst_of {x : Expr} {c : Const} (h : xConst x = some c) : ∃ j pos, x = .Constant c j pos := by
  cases x <;> first | (cases h; exact ⟨_, _, rfl⟩) | cases h
def xTup : Expr → Option (List Expr)
  | .Tuple xs _ _ => some xs
  | _ => none
theorem xTup_of {x : Expr} {xs : List Expr} (h : xTup x = some xs) : ∃ j pos, x = .Tuple xs j pos := by
  cases x <;> first | (cases h; exact ⟨_, _, rfl⟩) | cases h
def xList : Expr → Option (List Expr)
  | .List xs _ => some xs
  | _ => none
theorem xList_of {x : Expr} {xs : List Expr} (h : xList x = some xs) : ∃ pos, x = .List xs pos := by
  cases x <;> first | (cases h; exact ⟨_, rfl⟩) | cases h
def xBin : Expr → Option (Expr × Operator × Expr)
  | .BinOp a o b _ => some (a, o, b)
  | _ => none
theorem xBin_of {x a b : Expr} {o : Operator} (h : xBin x = some (a, o, b)) : ∃ pos, x = .BinOp a o b pos := by
  cases x <;> first | (cases h; exact ⟨_, rfl⟩) | cases h
def xUn : Expr → Option (UnaryOp × Expr)
  | .UnaryOp o a _ => some (o, a)
  | _ => none
theorem xUn_of {x a : Expr} {o : UnaryOp} (h : xUn x = some (o, a)) : ∃ pos, x = .UnaryOp o a pos := by
  cases x <;> first | (cases h; exact ⟨_, rfl⟩) | cases h
def list1 {α : Type} : List α → Option α
  | [a] => some a
  | _ => none
theorem list1_of {α : Type} {l : List α} {a : α} (h : list1 l = some a) : l = [a] := by
  match l, h with
  | [b], h => cases h; rfl
  | [], h => cases h
  | _ :: _ :: _, h => cases h
def list2 {α : Type} : List α → Option (α × α)
  | [a, b] => some (a, b)
  | _ => none
theorem list2_of {α : Type} {l : List α} {a b : α} (h : list2 l = some (a, b)) : l = [a, b] := by
  match l, h with
  | [c, d], h => cases h; rfl
  | [], h => cases h
  | [_], h => cases h
  | _ :: _ :: _ :: _, h => cases h
def xCmp1 : Expr → Option (Expr × CmpOp × Expr)
  | .Compare a os bs _ => match list1 os, list1 bs with
    | some o, some b => some (a, o, b)
    | _, _ => none
  | _ => none
theorem xCmp1_of {x a b : Expr} {o : CmpOp} (h : xCmp1 x = some (a, o, b)) : ∃ pos, x = .Compare a [o] [b] pos := by
  cases x with
  | Compare c os bs pos =>
    have h : (match list1 os, list1 bs with | some o, some b => some (c, o, b) | _, _ => none) = some (a, o, b) := h
    cases h1 : list1 os with
    | none => rw [h1] at h; cases h
    | some o' =>
      cases h2 : list1 bs with
      | none => rw [h1, h2] at h; cases h
      | some b' =>
        rw [h1, h2] at h
        cases h
        rw [list1_of h1, list1_of h2]
        exact ⟨pos, rfl⟩
  | _ => cases h
def xCmp2 : Expr → Option (Expr × (CmpOp × CmpOp) × Expr × Expr)
  | .Compare a os bs _ => match list2 os, list2 bs with
    | some o, some b => some (a, o, b)
    | _, _ => none
  | _ => none
theorem xCmp2_of {x a b c : Expr} {o o' : CmpOp} (h : xCmp2 x = some (a, (o, o'), b, c)) : ∃ pos, x = .Compare a [o, o'] [b, c] pos := by
  cases x with
  | Compare d os bs pos =>
    have h : (match list2 os, list2 bs with | some o, some b => some (d, o, b) | _, _ => none) = some (a, (o, o'), b, c) := h
    cases h1 : list2 os with
    | none => rw [h1] at h; cases h
    | some p =>
      cases h2 : list2 bs with
      | none => rw [h1, h2] at h; cases h
      | some q =>
        rw [h1, h2] at h
        cases h
        rw [list2_of h1, list2_of h2]
        exact ⟨pos, rfl⟩
  | _ => cases h
def isNoneX : Expr → Bool
  | .Constant .none _ _ => true
  | _ => false
theorem isNoneX_of {x : Expr} (h : isNoneX x = true) : ∃ j pos, x = .Constant .none j pos := by
  cases x with
  | Constant c j pos => cases c <;> first | exact ⟨j, pos, rfl⟩ | cases h
  | _ => cases h
def xBool : Expr → Option (BoolOp × Expr × Expr × List Expr × Pos)
  | .BoolOp o (a :: b :: r) pos => some (o, a, b, r, pos)
  | _ => none
theorem xBool_of {x a b : Expr} {o : BoolOp} {r : List Expr} {pos : Pos} (h : xBool x = some (o, a, b, r, pos)) : x = .BoolOp o (a :: b :: r) pos := by
  cases x with
  | BoolOp o' vs pos' =>
    match vs, h with
    | [], h => cases h
    | [_], h => cases h
    | _ :: _ :: _, h => cases h; rfl
  | _ => cases h
def xIf : Expr → Option (Expr × Expr × Expr)
  | .IfExp a b c _ => some (a, b, c)
  | _ => none
theorem xIf_of {x a b c : Expr} (h : xIf x = some (a, b, c)) : ∃ pos, x = .IfExp a b c pos := by
  cases x <;> first | (cases h; exact ⟨_, rfl⟩) | cases h
def xSub : Expr → Option (Expr × Expr)
  | .Subscript a b _ => some (a, b)
  | _ => none
theorem xSub_of {x a b : Expr} (h : xSub x = some (a, b)) : ∃ pos, x = .Subscript a b pos := by
  cases x <;> first | (cases h; exact ⟨_, rfl⟩) | cases h
def xSlice : Expr → Option (Option Expr × Option Expr)
  | .Slice a b none _ => some (a, b)
  | _ => none
theorem xSlice_of {x : Expr} {a b : Option Expr} (h : xSlice x = some (a, b)) : ∃ pos, x = .Slice a b none pos := by
  cases x with
  | Slice l u s pos => cases s <;> first | (cases h; exact ⟨_, rfl⟩) | cases h
  | _ => cases h
/-- x[::-1] -/
def xRev : Expr → Option Expr
  | .Subscript p (.Slice none none (some (.UnaryOp .USub (.Constant (.int 1) _ _) _)) _) _ => some p
  | _ => none
theorem xRev_of {x p : Expr} (h : xRev x = some p) : ∃ k p1 p2 p3 pos, x = .Subscript p (.Slice none none (some (.UnaryOp .USub (.Constant (.int 1) k p1) p2)) p3) pos := by
  unfold xRev at h
  split at h
  · cases h
    exact ⟨_, _, _, _, _, rfl⟩
  · cases h
def xCall : Expr → Option (Str × List Expr)
  | .Call (.Name f _) args [] _ => some (f, args)
  | _ => none
theorem xCall_of {x : Expr} {f : Str} {args : List Expr} (h : xCall x = some (f, args)) : ∃ p pos, x = .Call (.Name f p) args [] pos := by
  cases x with
  | Call g as kws pos =>
    cases g with
    | Name n p =>
      cases kws with
      | nil => cases h; exact ⟨_, _, rfl⟩
      | cons _ _ => cases h
    | _ => cases h
  | _ => cases h
def xCall1 (x : Expr) : Option (Str × Expr) := match xCall x with
  | some (f, args) => (list1 args).map fun a => (f, a)
  | none => none
theorem xCall1_of {x a : Expr} {f : Str} (h : xCall1 x = some (f, a)) : ∃ p pos, x = .Call (.Name f p) [a] [] pos := by
  unfold xCall1 at h
  cases q : xCall x with
  | none => rw [q] at h; cases h
  | some z =>
    obtain ⟨g, args⟩ := z
    rw [q] at h
    have h : (list1 args).map (fun a => (g, a)) = some (f, a) := h
    cases q2 : list1 args with
    | none => rw [q2] at h; cases h
    | some b =>
      rw [q2] at h
      cases h
      rw [list1_of q2] at q
      exact xCall_of q
def xCall2 (x : Expr) : Option (Str × Expr × Expr) := match xCall x with
  | some (f, args) => (list2 args).map fun a => (f, a)
  | none => none
theorem xCall2_of {x a b : Expr} {f : Str} (h : xCall2 x = some (f, a, b)) : ∃ p pos, x = .Call (.Name f p) [a, b] [] pos := by
  unfold xCall2 at h
  cases q : xCall x with
  | none => rw [q] at h; cases h
  | some z =>
    obtain ⟨g, args⟩ := z
    rw [q] at h
    have h : (list2 args).map (fun a => (g, a)) = some (f, a, b) := h
    cases q2 : list2 args with
    | none => rw [q2] at h; cases h
    | some b =>
      rw [q2] at h
      cases h
      rw [list2_of q2] at q
      exact xCall_of q
def xComp : Expr → Option (Expr × List Comprehension × Scope)
  | .ListComp e gs sc _ => some (e, gs, sc)
  | _ => none
theorem xComp_of {x e : Expr} {gs : List Comprehension} {sc : Scope} (h : xComp x = some (e, gs, sc)) : ∃ pos, x = .ListComp e gs sc pos := by
  cases x <;> first | (cases h; exact ⟨_, rfl⟩) | cases h
def isNil {α : Type} : List α → Bool
  | [] => true
  | _ => false
/-- how a built-in's arguments stand -/
inductive BKind where
  | plain | isi (t : Ty) | inner (g : Str)
def biKind : Bi → BKind
  | .isi t => .isi t
  | .sortset => .inner "set"
  | .lenset => .inner "set"
  | .listrange => .inner "range"
  | .tuplerange => .inner "range"
  | _ => .plain
section
variable (fns : List Fn) (consts : List (Str × D))
mutual
def mE (N : List Str) (sc : Scope) : E → Expr → Bool
  | .var i, x => match xName x with
    | some n => nameOk N i n && visB sc n
    | none => false
  | .cst d, x => match xConst x with
    | some c => cstB d c
    | none => match xName x with
      | some n => glB sc n && !(n == ("__debug__" : Str)) && (match consts.lookup n with
        | some d' => flatEq d d'
        | none => false)
      | none => false
  | .tup es, x => match xTup x with
    | some xs => mEs N sc es xs && decide (esLen es ≤ 1000)
    | none => false
  | .lst es, x => match xList x with
    | some xs => mEs N sc es xs && decide (esLen es ≤ 1000)
    | none => false
  | .bin op a b, x => match xBin x with
    | some (p, o, q) => opB op o && mE N sc a p && mE N sc b q
    | none => false
  | .neg a, x => match xUn x with
    | some (o, p) => (match o with | .USub => true | _ => false) && mE N sc a p
    | none => false
  | .not a, x => match xUn x with
    | some (o, p) => (match o with | .Not => true | _ => false) && mE N sc a p
    | none => false
  | .cmp op a b, x => match xCmp1 x with
    | some (p, o, q) => copB op o && mE N sc a p && mE N sc b q && plainX q
    | none => false
  | .chain a b c, x => match xCmp2 x with
    | some (p, (o, o'), q, r) => (match o, o' with | .LtE, .LtE => true | _, _ => false) && mE N sc a p && mE N sc b q && mE N sc c r && plainX q && plainX r
    | none => false
  | .isN n a, x => match xCmp1 x with
    | some (p, o, q) => (match o with | .Is => !n | .IsNot => n | _ => false) && mE N sc a p && isNoneX q
    | none => false
  | .and a b, x => match xBool x with
    | some (o, p, q, rest, pos) => (match o with | .And => true | _ => false) && mE N sc a p && (if isNil rest then mE N sc b q else mE N sc b (.BoolOp .And (q :: rest) pos))
    | none => false
  | .or a b, x => match xBool x with
    | some (o, p, q, rest, pos) => (match o with | .Or => true | _ => false) && mE N sc a p && (if isNil rest then mE N sc b q else mE N sc b (.BoolOp .Or (q :: rest) pos))
    | none => false
  | .ifx c a b, x => match xIf x with
    | some (p, q, r) => tOk c && mE N sc c p && mE N sc a q && mE N sc b r
    | none => false
  | .idx a b, x => match xSub x with
    | some (p, q) => mE N sc a p && mE N sc b q && plainX q
    | none => false
  | .cut a lo hi, x => match xSub x with
    | some (p, q) => mE N sc a p && (match xSlice q with
      | some (l, h) => mEo N sc lo l && mEo N sc hi h
      | none => false)
    | none => false
  | .rev a, x => match xRev x with
    | some p => mE N sc a p
    | none => false
  | .bi b es, x => !isNil fns && (match xCall x with
    | some (f, args) => decide (f = biName b) && glB sc f && (match biKind b with
      | .plain => mEs N sc es args && !isNil args
      | .isi t => (match list2 args with
        | some (p, q) => (match xName q with
          | some n => decide (n = tyS t) && glB sc n && mEs N sc es [p]
          | none => false)
        | none => false)
      | .inner g => (match list1 args with
        | some y => (match xCall1 y with
          | some (h, z) => decide (h = g) && glB sc g && mEs N sc es [z]
          | none => false)
        | none => false))
    | none => false)
  | .call f es, x => match xCall x with
    | some (g, args) => glB sc g && !(g == ("__debug__" : Str)) && mEs N sc es args && !isNil args && (match fns[f]? with
      | some F => decide (F.name = g)
      | none => false)
    | none => false
  | .comp elt tg it cond, x => !isNil fns && (match xComp x with
    | some (xe, gs, scope) => (match list1 gs with
      | some c => decide (c.is_async = 0) && mIt N sc it c.target c.iter && blkC N sc scope (ownOf N tg.slots) && decide ((ownOf N tg.slots).map (·.2) = tg.slots) && plainX c.iter &&
          tgB N scope tg c.target && mC N (relS scope sc) cond c.ifs && mE N (relS scope sc) elt xe
      | none => false)
    | none => false)
  | .comp2 elt tg it cond tg2 it2 cond2, x => !isNil fns && (match xComp x with
    | some (xe, gs, scope) => (match list2 gs with
      | some (c, c2) => decide (c.is_async = 0) && decide (c2.is_async = 0) && mIt N sc it c.target c.iter && blkC N sc scope (ownOf N (tg.slots ++ tg2.slots)) && decide ((ownOf N (tg.slots ++ tg2.slots)).map (·.2) = tg.slots ++ tg2.slots) && plainX c.iter && plainX c2.iter &&
          tgB N scope tg c.target && mC N (relS scope sc) cond c.ifs && mIt N (relS scope sc) it2 c2.target c2.iter && tgB N scope tg2 c2.target && mC N (relS scope sc) cond2 c2.ifs && mE N (relS scope sc) elt xe
      | none => false)
    | none => false)
  | .isE i c, x => isNil fns && (match xCall2 x with
    | some (f, p, q) => decide (f = "isinstance") && glB sc "isinstance" && (match xName p, xName q with
      | some n, some y => nameOk N i n && visB sc n && decide (y = c) && glB sc c && !(c == ("__debug__" : Str)) && (match consts.lookup c with
        | some (.dict []) => true
        | _ => false)
      | _, _ => false)
    | none => false)
def mEs (N : List Str) (sc : Scope) : Es → List Expr → Bool
  | .nil, xs => isNil xs
  | .cons e es, xs => match xs with
    | x :: r => plainX x && mE N sc e x && mEs N sc es r
    | [] => false
def mEo (N : List Str) (sc : Scope) : Eo → Option Expr → Bool
  | .none, x => x.isNone
  | .some e, x => match x with
    | some y => mE N sc e y
    | none => false
def mC (N : List Str) (sc : Scope) : Eo → List Expr → Bool
  | .none, xs => isNil xs
  | .some e, xs => match list1 xs with
    | some x => tOk e && mE N sc e x
    | none => false
def mIt (N : List Str) (sc : Scope) : It → Expr → Expr → Bool
  | .seq e, _, x => mE N sc e x
  | .range1 e, _, x => match xCall1 x with
    | some (f, p) => decide (f = "range") && glB sc "range" && plainX p && mE N sc e p
    | none => false
  | .range2 a b, _, x => match xCall2 x with
    | some (f, p, q) => decide (f = "range") && glB sc "range" && plainX p && plainX q && mE N sc a p && mE N sc b q
    | none => false
  | .zip a b, t, x => match xCall2 x with
    | some (f, p, q) => decide (f = "zip") && glB sc "zip" && isTupX t && plainX p && plainX q && mE N sc a p && mE N sc b q
    | none => false
  | .enum a, t, x => match xCall1 x with
    | some (f, p) => decide (f = "enumerate") && glB sc "enumerate" && isTupX t && plainX p && mE N sc a p
    | none => false
end
end
/-! what a match says -/
section
variable {fns : List Fn} {consts : List (Str × D)} {N : List Str} {sc : Scope} {x : Expr}
theorem m_var {i : Nat} (m : mE fns consts N sc (.var i) x = true) : ∃ n pos, x = .Name n pos ∧ N[i]? = some n ∧ (n == ("__debug__" : Str)) = false ∧ (n == ("__classdict__" : Str)) = false ∧ visB sc n = true := by
  unfold mE at m
  cases q : xName x with
  | none => rw [q] at m; cases m
  | some n =>
    rw [q] at m
    obtain ⟨pos, e⟩ := xName_of q
    simp only [nameOk, Bool.and_eq_true, decide_eq_true_eq, Bool.not_eq_true'] at m
    obtain ⟨⟨⟨h1, h2⟩, h3⟩, h4⟩ := m
    exact ⟨n, pos, e, h1, h2, h3, h4⟩
theorem m_cst {d : D} (m : mE fns consts N sc (.cst d) x = true) : (∃ c j pos, x = .Constant c j pos ∧ cstB d c = true) ∨ ∃ n pos, x = .Name n pos ∧ glB sc n = true ∧ (n == ("__debug__" : Str)) = false ∧ ∃ d', consts.lookup n = some d' ∧ flatEq d d' = true := by
  unfold mE at m
  cases q : xConst x with
  | some c =>
    rw [q] at m
    obtain ⟨j, pos, e⟩ := xConst_of q
    exact .inl ⟨c, j, pos, e, m⟩
  | none =>
    rw [q] at m
    cases q2 : xName x with
    | none => rw [q2] at m; cases m
    | some n =>
      rw [q2] at m
      obtain ⟨pos, e⟩ := xName_of q2
      simp only [Bool.and_eq_true, Bool.not_eq_true'] at m
      obtain ⟨⟨h1, h2⟩, h3⟩ := m
      cases q3 : consts.lookup n with
      | none => rw [q3] at h3; cases h3
      | some d' =>
        rw [q3] at h3
        exact .inr ⟨n, pos, e, h1, h2, d', q3, h3⟩
theorem m_tup {es : Es} (m : mE fns consts N sc (.tup es) x = true) : ∃ xs j pos, x = .Tuple xs j pos ∧ mEs fns consts N sc es xs = true ∧ esLen es ≤ 1000 := by
  unfold mE at m
  cases q : xTup x with
  | none => rw [q] at m; cases m
  | some xs =>
    rw [q] at m
    obtain ⟨j, pos, e⟩ := xTup_of q
    simp only [Bool.and_eq_true, decide_eq_true_eq] at m
    exact ⟨xs, j, pos, e, m.1, m.2⟩
theorem m_lst {es : Es} (m : mE fns consts N sc (.lst es) x = true) : ∃ xs pos, x = .List xs pos ∧ mEs fns consts N sc es xs = true ∧ esLen es ≤ 1000 := by
  unfold mE at m
  cases q : xList x with
  | none => rw [q] at m; cases m
  | some xs =>
    rw [q] at m
    obtain ⟨pos, e⟩ := xList_of q
    simp only [Bool.and_eq_true, decide_eq_true_eq] at m
    exact ⟨xs, pos, e, m.1, m.2⟩
theorem m_bin {op : BOp} {a b : E} (m : mE fns consts N sc (.bin op a b) x = true) : ∃ p q pos, x = .BinOp p (opOf op) q pos ∧ mE fns consts N sc a p = true ∧ mE fns consts N sc b q = true := by
  unfold mE at m
  cases q : xBin x with
  | none => rw [q] at m; cases m
  | some z =>
    obtain ⟨p, o, r⟩ := z
    rw [q] at m
    obtain ⟨pos, e⟩ := xBin_of q
    simp only [Bool.and_eq_true] at m
    rw [opB_of m.1.1] at e
    exact ⟨p, r, pos, e, m.1.2, m.2⟩
theorem m_neg {a : E} (m : mE fns consts N sc (.neg a) x = true) : ∃ p pos, x = .UnaryOp .USub p pos ∧ mE fns consts N sc a p = true := by
  unfold mE at m
  cases q : xUn x with
  | none => rw [q] at m; cases m
  | some z =>
    obtain ⟨o, p⟩ := z
    rw [q] at m
    obtain ⟨pos, e⟩ := xUn_of q
    simp only [Bool.and_eq_true] at m
    cases o <;> first | exact ⟨p, pos, e, m.2⟩ | cases m.1
theorem m_not {a : E} (m : mE fns consts N sc (.not a) x = true) : ∃ p pos, x = .UnaryOp .Not p pos ∧ mE fns consts N sc a p = true := by
  unfold mE at m
  cases q : xUn x with
  | none => rw [q] at m; cases m
  | some z =>
    obtain ⟨o, p⟩ := z
    rw [q] at m
    obtain ⟨pos, e⟩ := xUn_of q
    simp only [Bool.and_eq_true] at m
    cases o <;> first | exact ⟨p, pos, e, m.2⟩ | cases m.1
theorem m_cmp {op : COp} {a b : E} (m : mE fns consts N sc (.cmp op a b) x = true) : ∃ p q pos, x = .Compare p [copOf op] [q] pos ∧ mE fns consts N sc a p = true ∧ mE fns consts N sc b q = true ∧ plainX q = true := by
  unfold mE at m
  cases q : xCmp1 x with
  | none => rw [q] at m; cases m
  | some z =>
    obtain ⟨p, o, r⟩ := z
    rw [q] at m
    obtain ⟨pos, e⟩ := xCmp1_of q
    simp only [Bool.and_eq_true] at m
    rw [copB_of m.1.1.1] at e
    exact ⟨p, r, pos, e, m.1.1.2, m.1.2, m.2⟩
theorem m_chain {a b c : E} (m : mE fns consts N sc (.chain a b c) x = true) : ∃ p q r pos, x = .Compare p [.LtE, .LtE] [q, r] pos ∧ mE fns consts N sc a p = true ∧ mE fns consts N sc b q = true ∧ mE fns consts N sc c r = true ∧ plainX q = true ∧ plainX r = true := by
  unfold mE at m
  cases q : xCmp2 x with
  | none => rw [q] at m; cases m
  | some z =>
    obtain ⟨p, ⟨o, o'⟩, s, t⟩ := z
    rw [q] at m
    obtain ⟨pos, e⟩ := xCmp2_of q
    simp only [Bool.and_eq_true] at m
    obtain ⟨⟨⟨⟨⟨h0, h1⟩, h2⟩, h3⟩, h4⟩, h5⟩ := m
    cases o <;> first | (cases o' <;> first | exact ⟨p, s, t, pos, e, h1, h2, h3, h4, h5⟩ | cases h0) | cases h0
theorem m_isN {n : Bool} {a : E} (m : mE fns consts N sc (.isN n a) x = true) : ∃ p j p' pos, mE fns consts N sc a p = true ∧ ((n = false ∧ x = .Compare p [.Is] [.Constant .none j p'] pos) ∨ (n = true ∧ x = .Compare p [.IsNot] [.Constant .none j p'] pos)) := by
  unfold mE at m
  cases q : xCmp1 x with
  | none => rw [q] at m; cases m
  | some z =>
    obtain ⟨p, o, r⟩ := z
    rw [q] at m
    obtain ⟨pos, e⟩ := xCmp1_of q
    simp only [Bool.and_eq_true] at m
    obtain ⟨⟨h0, h1⟩, h2⟩ := m
    obtain ⟨j, p', e2⟩ := isNoneX_of h2
    rw [e2] at e
    cases o with
    | Is => exact ⟨p, j, p', pos, h1, .inl ⟨by simpa using h0, e⟩⟩
    | IsNot => exact ⟨p, j, p', pos, h1, .inr ⟨h0, e⟩⟩
    | _ => cases h0
theorem isNil_of {α : Type} {l : List α} (h : isNil l = true) : l = [] := by cases l <;> first | rfl | cases h
theorem m_and {a b : E} (m : mE fns consts N sc (.and a b) x = true) : ∃ p q rest pos, x = .BoolOp .And (p :: q :: rest) pos ∧ mE fns consts N sc a p = true ∧ ((rest = [] ∧ mE fns consts N sc b q = true) ∨ mE fns consts N sc b (.BoolOp .And (q :: rest) pos) = true) := by
  unfold mE at m
  cases q : xBool x with
  | none => rw [q] at m; cases m
  | some z =>
    obtain ⟨o, p, r, rest, pos⟩ := z
    rw [q] at m
    have e := xBool_of q
    simp only [Bool.and_eq_true] at m
    obtain ⟨⟨h0, h1⟩, h2⟩ := m
    cases o with
    | Or => cases h0
    | And =>
      refine ⟨p, r, rest, pos, e, h1, ?_⟩
      by_cases hn : isNil rest = true
      · rw [if_pos hn] at h2; exact .inl ⟨isNil_of hn, h2⟩
      · rw [if_neg hn] at h2; exact .inr h2
theorem m_or {a b : E} (m : mE fns consts N sc (.or a b) x = true) : ∃ p q rest pos, x = .BoolOp .Or (p :: q :: rest) pos ∧ mE fns consts N sc a p = true ∧ ((rest = [] ∧ mE fns consts N sc b q = true) ∨ mE fns consts N sc b (.BoolOp .Or (q :: rest) pos) = true) := by
  unfold mE at m
  cases q : xBool x with
  | none => rw [q] at m; cases m
  | some z =>
    obtain ⟨o, p, r, rest, pos⟩ := z
    rw [q] at m
    have e := xBool_of q
    simp only [Bool.and_eq_true] at m
    obtain ⟨⟨h0, h1⟩, h2⟩ := m
    cases o with
    | And => cases h0
    | Or =>
      refine ⟨p, r, rest, pos, e, h1, ?_⟩
      by_cases hn : isNil rest = true
      · rw [if_pos hn] at h2; exact .inl ⟨isNil_of hn, h2⟩
      · rw [if_neg hn] at h2; exact .inr h2
theorem m_ifx {c a b : E} (m : mE fns consts N sc (.ifx c a b) x = true) : ∃ p q r pos, x = .IfExp p q r pos ∧ tOk c = true ∧ mE fns consts N sc c p = true ∧ mE fns consts N sc a q = true ∧ mE fns consts N sc b r = true := by
  unfold mE at m
  cases q : xIf x with
  | none => rw [q] at m; cases m
  | some z =>
    obtain ⟨p, s, t⟩ := z
    rw [q] at m
    obtain ⟨pos, e⟩ := xIf_of q
    simp only [Bool.and_eq_true] at m
    exact ⟨p, s, t, pos, e, m.1.1.1, m.1.1.2, m.1.2, m.2⟩
theorem m_idx {a b : E} (m : mE fns consts N sc (.idx a b) x = true) : ∃ p q pos, x = .Subscript p q pos ∧ mE fns consts N sc a p = true ∧ mE fns consts N sc b q = true ∧ plainX q = true := by
  unfold mE at m
  cases q : xSub x with
  | none => rw [q] at m; cases m
  | some z =>
    obtain ⟨p, s⟩ := z
    rw [q] at m
    obtain ⟨pos, e⟩ := xSub_of q
    simp only [Bool.and_eq_true] at m
    exact ⟨p, s, pos, e, m.1.1, m.1.2, m.2⟩
theorem m_cut {a : E} {lo hi : Eo} (m : mE fns consts N sc (.cut a lo hi) x = true) : ∃ p l h p2 pos, x = .Subscript p (.Slice l h none p2) pos ∧ mE fns consts N sc a p = true ∧ mEo fns consts N sc lo l = true ∧ mEo fns consts N sc hi h = true := by
  unfold mE at m
  cases q : xSub x with
  | none => rw [q] at m; cases m
  | some z =>
    obtain ⟨p, s⟩ := z
    rw [q] at m
    obtain ⟨pos, e⟩ := xSub_of q
    simp only [Bool.and_eq_true] at m
    obtain ⟨h1, h2⟩ := m
    cases q2 : xSlice s with
    | none => rw [q2] at h2; cases h2
    | some y =>
      obtain ⟨l, h⟩ := y
      rw [q2] at h2
      obtain ⟨p2, e2⟩ := xSlice_of q2
      subst e2
      simp only [Bool.and_eq_true] at h2
      exact ⟨p, l, h, p2, pos, e, h1, h2.1, h2.2⟩
theorem notNil_of {α : Type} {l : List α} (h : (!isNil l) = true) : ∃ a r, l = a :: r := by
  cases l with
  | nil => cases h
  | cons a r => exact ⟨a, r, rfl⟩
/-- a built-in by its name -/
theorem m_bi {b : Bi} {es : Es} (m : mE fns consts N sc (.bi b es) x = true) : ∃ p pos args, x = .Call (.Name (biName b) p) args [] pos ∧ glB sc (biName b) = true ∧ (match biKind b with
    | .plain => mEs fns consts N sc es args = true ∧ ∃ a r, args = a :: r
    | .isi t => ∃ y p2, args = [y, .Name (tyS t) p2] ∧ glB sc (tyS t) = true ∧ mEs fns consts N sc es [y] = true
    | .inner g => ∃ y p2 pos2, args = [.Call (.Name g p2) [y] [] pos2] ∧ glB sc g = true ∧ mEs fns consts N sc es [y] = true) := by
  unfold mE at m
  rw [Bool.and_eq_true] at m
  obtain ⟨mc, m⟩ := m
  cases q : xCall x with
  | none => rw [q] at m; cases m
  | some z =>
    obtain ⟨f, args⟩ := z
    rw [q] at m
    obtain ⟨p, pos, e⟩ := xCall_of q
    simp only [Bool.and_eq_true, decide_eq_true_eq] at m
    obtain ⟨⟨h0, h1⟩, h2⟩ := m
    subst h0
    refine ⟨p, pos, args, e, h1, ?_⟩
    revert h2
    cases biKind b with
    | plain =>
      intro h2
      have h2 : (mEs fns consts N sc es args && !isNil args) = true := h2
      rw [Bool.and_eq_true] at h2
      exact ⟨h2.1, notNil_of h2.2⟩
    | isi t =>
      intro h2
      dsimp only at h2 ⊢
      cases q2 : list2 args with
      | none => rw [q2] at h2; cases h2
      | some y =>
        obtain ⟨y, w⟩ := y
        rw [q2] at h2
        dsimp only at h2
        cases q3 : xName w with
        | none => rw [q3] at h2; cases h2
        | some n =>
          rw [q3] at h2
          obtain ⟨p2, e2⟩ := xName_of q3
          simp only [Bool.and_eq_true, decide_eq_true_eq] at h2
          obtain ⟨⟨k1, k2⟩, k3⟩ := h2
          subst k1
          subst e2
          exact ⟨y, p2, list2_of q2, k2, k3⟩
    | inner g =>
      intro h2
      dsimp only at h2 ⊢
      cases q2 : list1 args with
      | none => rw [q2] at h2; cases h2
      | some y =>
        rw [q2] at h2
        dsimp only at h2
        cases q3 : xCall1 y with
        | none => rw [q3] at h2; cases h2
        | some w =>
          obtain ⟨h, w⟩ := w
          rw [q3] at h2
          simp only [Bool.and_eq_true, decide_eq_true_eq] at h2
          obtain ⟨⟨k1, k2⟩, k3⟩ := h2
          subst k1
          obtain ⟨p2, pos2, e2⟩ := xCall1_of q3
          rw [e2] at q2
          exact ⟨w, p2, pos2, list1_of q2, k2, k3⟩
theorem m_rev {a : E} (m : mE fns consts N sc (.rev a) x = true) : ∃ p k p1 p2 p3 pos, x = .Subscript p (.Slice none none (some (.UnaryOp .USub (.Constant (.int 1) k p1) p2)) p3) pos ∧ mE fns consts N sc a p = true := by
  unfold mE at m
  cases q : xRev x with
  | none => rw [q] at m; cases m
  | some p =>
    rw [q] at m
    obtain ⟨k, p1, p2, p3, pos, e⟩ := xRev_of q
    exact ⟨p, k, p1, p2, p3, pos, e, m⟩
theorem m_biC {b : Bi} {es : Es} (m : mE fns consts N sc (.bi b es) x = true) : (!isNil fns) = true := by
  unfold mE at m
  exact (Bool.and_eq_true_iff.mp m).1
theorem m_compC {elt : E} {tg : Tg} {it : It} {cond : Eo} (m : mE fns consts N sc (.comp elt tg it cond) x = true) : (!isNil fns) = true := by
  unfold mE at m
  exact (Bool.and_eq_true_iff.mp m).1
theorem m_comp2C {elt : E} {tg tg2 : Tg} {it it2 : It} {cond cond2 : Eo} (m : mE fns consts N sc (.comp2 elt tg it cond tg2 it2 cond2) x = true) : (!isNil fns) = true := by
  unfold mE at m
  exact (Bool.and_eq_true_iff.mp m).1
theorem m_isE {i : Nat} {c : Str} (m : mE fns consts N sc (.isE i c) x = true) : fns = [] ∧ ∃ p1 n p2 p3 pos, x = .Call (.Name "isinstance" p1) [.Name n p2, .Name c p3] [] pos ∧ glB sc "isinstance" = true ∧ N[i]? = some n ∧ (n == ("__debug__" : Str)) = false ∧ (n == ("__classdict__" : Str)) = false ∧ visB sc n = true ∧ glB sc c = true ∧ (c == ("__debug__" : Str)) = false ∧ consts.lookup c = some (.dict []) := by
  unfold mE at m
  rw [Bool.and_eq_true] at m
  obtain ⟨mc, m⟩ := m
  have hnil : fns = [] := by
    cases fns with
    | nil => rfl
    | cons _ _ => cases mc
  refine ⟨hnil, ?_⟩
  cases q : xCall2 x with
  | none => rw [q] at m; cases m
  | some z =>
    obtain ⟨f, p, y⟩ := z
    rw [q] at m
    obtain ⟨p1, pos, e⟩ := xCall2_of q
    simp only [Bool.and_eq_true, decide_eq_true_eq] at m
    obtain ⟨⟨h0, h1⟩, h2⟩ := m
    subst h0
    cases q1 : xName p with
    | none => rw [q1] at h2; cases h2
    | some n =>
      cases q2 : xName y with
      | none => rw [q1, q2] at h2; cases h2
      | some w =>
        rw [q1, q2] at h2
        obtain ⟨pa, ea⟩ := xName_of q1
        obtain ⟨pb, eb⟩ := xName_of q2
        simp only [nameOk, Bool.and_eq_true, decide_eq_true_eq, Bool.not_eq_true'] at h2
        obtain ⟨⟨⟨⟨⟨⟨⟨k1, k2⟩, k3⟩, k4⟩, k5⟩, k6⟩, k7⟩, k8⟩ := h2
        subst k5
        refine ⟨p1, n, pa, pb, pos, by rw [e, ea, eb], h1, k1, k2, k3, k4, k6, k7, ?_⟩
        revert k8
        split
        · intro _; assumption
        · intro h; cases h
theorem m_call {f : Nat} {es : Es} (m : mE fns consts N sc (.call f es) x = true) : ∃ F p pos a r, fns[f]? = some F ∧ x = .Call (.Name F.name p) (a :: r) [] pos ∧ glB sc F.name = true ∧ (F.name == ("__debug__" : Str)) = false ∧ mEs fns consts N sc es (a :: r) = true := by
  unfold mE at m
  cases q : xCall x with
  | none => rw [q] at m; cases m
  | some z =>
    obtain ⟨g, args⟩ := z
    rw [q] at m
    obtain ⟨p, pos, e⟩ := xCall_of q
    simp only [Bool.and_eq_true, Bool.not_eq_true'] at m
    obtain ⟨⟨⟨⟨h0, h1⟩, h2⟩, h3⟩, h4⟩ := m
    cases q2 : fns[f]? with
    | none => rw [q2] at h4; cases h4
    | some F =>
      rw [q2] at h4
      have h4 : F.name = g := of_decide_eq_true h4
      subst h4
      obtain ⟨a, r, rfl⟩ := notNil_of (l := args) (by rw [h3]; rfl)
      exact ⟨F, p, pos, a, r, rfl, e, h0, h1, h2⟩
theorem m_comp {elt : E} {tg : Tg} {it : It} {cond : Eo} (m : mE fns consts N sc (.comp elt tg it cond) x = true) : ∃ xe xt xi xc scope pos, x = .ListComp xe [⟨xt, xi, xc, 0⟩] scope pos ∧ mIt fns consts N sc it xt xi = true ∧ blkC N sc scope (ownOf N tg.slots) = true ∧ (ownOf N tg.slots).map (·.2) = tg.slots ∧ plainX xi = true ∧
    tgB N scope tg xt = true ∧ mC fns consts N (relS scope sc) cond xc = true ∧ mE fns consts N (relS scope sc) elt xe = true := by
  unfold mE at m
  rw [Bool.and_eq_true] at m
  obtain ⟨mc, m⟩ := m
  cases q : xComp x with
  | none => rw [q] at m; cases m
  | some z =>
    obtain ⟨xe, gs, scope⟩ := z
    rw [q] at m
    dsimp only at m
    obtain ⟨pos, e⟩ := xComp_of q
    cases q2 : list1 gs with
    | none => rw [q2] at m; cases m
    | some c =>
      obtain ⟨xt, xi, xc, ia⟩ := c
      rw [q2] at m
      rw [list1_of q2] at e
      simp only [Bool.and_eq_true, decide_eq_true_eq] at m
      obtain ⟨⟨⟨⟨⟨⟨⟨h0, h1⟩, h2⟩, h3⟩, h4⟩, h5⟩, h6⟩, h7⟩ := m
      subst h0
      exact ⟨xe, xt, xi, xc, scope, pos, e, h1, h2, h3, h4, h5, h6, h7⟩
theorem m_comp2 {elt : E} {tg tg2 : Tg} {it it2 : It} {cond cond2 : Eo} (m : mE fns consts N sc (.comp2 elt tg it cond tg2 it2 cond2) x = true) : ∃ xe xt xi xc xt2 xi2 xc2 scope pos, x = .ListComp xe [⟨xt, xi, xc, 0⟩, ⟨xt2, xi2, xc2, 0⟩] scope pos ∧ mIt fns consts N sc it xt xi = true ∧ blkC N sc scope (ownOf N (tg.slots ++ tg2.slots)) = true ∧ (ownOf N (tg.slots ++ tg2.slots)).map (·.2) = tg.slots ++ tg2.slots ∧ plainX xi = true ∧ plainX xi2 = true ∧
    tgB N scope tg xt = true ∧ mC fns consts N (relS scope sc) cond xc = true ∧ mIt fns consts N (relS scope sc) it2 xt2 xi2 = true ∧ tgB N scope tg2 xt2 = true ∧ mC fns consts N (relS scope sc) cond2 xc2 = true ∧ mE fns consts N (relS scope sc) elt xe = true := by
  unfold mE at m
  rw [Bool.and_eq_true] at m
  obtain ⟨mc, m⟩ := m
  cases q : xComp x with
  | none => rw [q] at m; cases m
  | some z =>
    obtain ⟨xe, gs, scope⟩ := z
    rw [q] at m
    dsimp only at m
    obtain ⟨pos, e⟩ := xComp_of q
    cases q2 : list2 gs with
    | none => rw [q2] at m; cases m
    | some c =>
      obtain ⟨⟨xt, xi, xc, ia⟩, ⟨xt2, xi2, xc2, ia2⟩⟩ := c
      rw [q2] at m
      rw [list2_of q2] at e
      simp only [Bool.and_eq_true, decide_eq_true_eq] at m
      obtain ⟨⟨⟨⟨⟨⟨⟨⟨⟨⟨⟨⟨h0, h0'⟩, h1⟩, h2⟩, h3⟩, h4⟩, h4'⟩, h5⟩, h6⟩, h7⟩, h8⟩, h9⟩, h10⟩ := m
      subst h0
      subst h0'
      exact ⟨xe, xt, xi, xc, xt2, xi2, xc2, scope, pos, e, h1, h2, h3, h4, h4', h5, h6, h7, h8, h9, h10⟩
end
theorem vis_of {sc : Scope} {x : Str} (h : visB sc x = true) : Vis sc x := by
  unfold visB at h
  split at h
  · exact .inl (by assumption)
  · exact .inr (.inl (by assumption))
  · exact .inr (.inr (by assumption))
  · cases h
theorem gl_of {X : Cx} {x : Str} (h : glB X.env.scope x = true) : Gl X x := by
  unfold glB at h
  split at h
  · assumption
  · cases h
theorem star_plain {e : Expr} {es : List Expr} {env : PySem.Env} (h : plainX e = true) : starEach (e :: es) env = (false, eval e env) :: starEach es env := by
  cases e <;> first | rfl | cases h
theorem any_plain : ∀ {es : List Expr} {env : PySem.Env} {pos : Pos}, es.all plainX = true → (backTo pos (starEach es env)).any (·.1) = false
  | [], _, _, _ => rfl
  | e :: es, env, pos, h => by
    have h' : plainX e = true ∧ es.all plainX = true := by simpa using h
    rw [star_plain h'.1]
    show (false || (backTo pos (starEach es env)).any (·.1)) = false
    rw [any_plain h'.2]
    rfl
theorem mEs_plain {fns : List Fn} {consts : List (Str × D)} {N : List Str} {sc : Scope} : ∀ {es : Es} {xs : List Expr}, mEs fns consts N sc es xs = true → xs.all plainX = true
  | .nil, xs, h => by
    unfold mEs at h
    rw [isNil_of h]
    rfl
  | .cons e es, x :: xs, h => by
    unfold mEs at h
    simp only [Bool.and_eq_true] at h
    show (plainX x && xs.all plainX) = true
    rw [h.1.1, mEs_plain h.2]
    rfl
  | .cons _ _, [], h => by unfold mEs at h; cases h
theorem plain_ix {y : Expr} (h : plainX y = true) : PlainIx y := by
  intro o i
  cases y <;> first | rfl | cases h
theorem no_marks {op : CmpOp} {y : Expr} (h : plainX y = true) : behindInMarks op y = false := by
  cases y <;> first | rfl | cases h
theorem no_fold {x : Expr} {env : PySem.Env} (h : plainX x = true) : ∀ v, foldedSetIterable x env v = pure v := by
  intro v
  cases x <;> first | rfl | cases h
end Qw

set_option Elab.async false
set_option linter.all false
set_option maxRecDepth 100000
set_option maxHeartbeats 4000000
/-! Expressions: the model does what the evaluator says. By an AI agent. -/
namespace Qw
open PySem PySem.Spec PyProof.Rows L2

/-! ### the pure operations raise nothing -/
def NoErr {α : Type} (r : R α) : Prop := ∀ x, r ≠ .err x
theorem noerr_ok {α : Type} {a : α} : NoErr (R.ok a) := fun _ h => by cases h
theorem noerr_bad {α : Type} : NoErr (R.bad : R α) := fun _ h => by cases h
theorem noerr_if {α : Type} {c : Prop} [Decidable c] {a b : R α} (h1 : NoErr a) (h2 : NoErr b) : NoErr (if c then a else b) := by
  by_cases h : c
  · rw [if_pos h]; exact h1
  · rw [if_neg h]; exact h2
theorem noerr_bind {α β : Type} {r : R α} {f : α → R β} (h1 : NoErr r) (h2 : ∀ a, NoErr (f a)) : NoErr (r.bind f) := by
  cases r with
  | ok a => exact h2 a
  | err x => exact absurd rfl (h1 x)
  | bad => exact noerr_bad
theorem noerr_dbin (op : BOp) (d e : D) : NoErr (dBin op d e) := by
  cases op <;> cases d <;> cases e <;> first | exact noerr_ok | exact noerr_bad | exact noerr_if noerr_ok noerr_bad
theorem noerr_dord (f : Int → Int → Bool) (g : D → D → Bool) (d e : D) : NoErr (dOrd f g d e) := by
  have gen : NoErr (if okLt d e then R.ok (PyData.bool (g d e)) else .bad) := noerr_if noerr_ok noerr_bad
  cases d <;> cases e <;> first | exact noerr_ok | exact gen
theorem noerr_din (d e : D) : NoErr (dIn d e) := by
  cases e with
  | list _ => exact noerr_if noerr_ok noerr_bad
  | tuple _ => exact noerr_if noerr_ok noerr_bad
  | str _ => cases d <;> first | exact noerr_ok | exact noerr_bad
  | _ => exact noerr_bad
theorem noerr_dcmp (op : COp) (d e : D) : NoErr (dCmp op d e) := by
  cases op with
  | eq => exact noerr_if noerr_ok noerr_bad
  | ne => exact noerr_if noerr_ok noerr_bad
  | lt => exact noerr_dord _ _ _ _
  | le => exact noerr_dord _ _ _ _
  | gt => exact noerr_dord _ _ _ _
  | ge => exact noerr_dord _ _ _ _
  | isin => exact noerr_bind (noerr_din _ _) fun _ => noerr_ok
  | notin => exact noerr_bind (noerr_din _ _) fun _ => noerr_ok
theorem noerr_tru (d : D) : NoErr (tru d) := by
  cases d <;> first | exact noerr_ok | exact noerr_bad | exact noerr_if noerr_ok noerr_bad
theorem noerr_didx (d e : D) : NoErr (dIdx d e) := by
  have h1 : ∀ o : Option D, NoErr (match o with | some d => R.ok d | none => .bad) := fun o => by cases o <;> first | exact noerr_ok | exact noerr_bad
  cases e with
  | int i =>
    cases d with
    | list ds => exact h1 _
    | tuple ds => exact h1 _
    | str s =>
      refine noerr_if ?_ noerr_bad
      cases L2.atI s.cps.toList i <;> first | exact noerr_ok | exact noerr_bad
    | dict kvs =>
      show NoErr (match L2.atI kvs i with | some (.int n, _) => R.ok (PyData.int n) | _ => .bad)
      cases L2.atI kvs i with
      | none => exact noerr_bad
      | some p =>
        obtain ⟨a, b⟩ := p
        cases a <;> first | exact noerr_ok | exact noerr_bad
    | _ => exact noerr_bad
  | _ => cases d <;> exact noerr_bad
theorem noerr_dcut (d : D) (lo hi : Option Int) : NoErr (dCut d lo hi) := by
  cases d <;> first | exact noerr_ok | exact noerr_bad
theorem noerr_items (d : D) : NoErr (itemsOf d) := by
  cases d <;> first | exact noerr_ok | exact noerr_bad
theorem noerr_one {f : D → R D} (h : ∀ d, NoErr (f d)) (ds : List D) : NoErr (one f ds) := by
  match ds with
  | [] => exact noerr_bad
  | [d] => exact h d
  | _ :: _ :: _ => exact noerr_bad
theorem noerr_two {f : D → D → R D} (h : ∀ d e, NoErr (f d e)) (ds : List D) : NoErr (two f ds) := by
  match ds with
  | [] => exact noerr_bad
  | [d] => exact noerr_bad
  | [d, e] => exact h d e
  | _ :: _ :: _ :: _ => exact noerr_bad
theorem noerr_isi (t : Ty) (d : D) : NoErr (isiD t d) := by
  cases t <;> cases d <;> first | exact noerr_ok | exact noerr_bad
theorem noerr_opt {o : Option Int} : NoErr (match o with | some n => R.ok (PyData.int n) | none => .bad) := by
  cases o <;> first | exact noerr_ok | exact noerr_bad
theorem noerr_dbi (b : Bi) (ds : List D) : NoErr (dBi b ds) := by
  cases b with
  | len => exact noerr_one (fun d => by cases d <;> first | exact noerr_ok | exact noerr_bad | exact noerr_if noerr_ok noerr_bad) ds
  | sum => exact noerr_one (fun d => by
      cases d with
      | list es =>
        show NoErr (match intsOf es with | some ns => R.ok (PyData.int ns.sum) | none => .bad)
        cases intsOf es <;> first | exact noerr_ok | exact noerr_bad
      | tuple es =>
        show NoErr (match intsOf es with | some ns => R.ok (PyData.int ns.sum) | none => .bad)
        cases intsOf es <;> first | exact noerr_ok | exact noerr_bad
      | _ => exact noerr_bad) ds
  | max1 => exact noerr_one (fun d => by
      cases d with
      | list es => exact noerr_opt (o := (intsOf es).bind maxI)
      | _ => exact noerr_bad) ds
  | min1 => exact noerr_one (fun d => by
      cases d with
      | list es => exact noerr_opt (o := (intsOf es).bind minI)
      | _ => exact noerr_bad) ds
  | max2 => exact noerr_two (fun d e => by cases d <;> cases e <;> first | exact noerr_ok | exact noerr_bad) ds
  | min2 => exact noerr_two (fun d e => by cases d <;> cases e <;> first | exact noerr_ok | exact noerr_bad) ds
  | sorted => exact noerr_one (fun d => noerr_bind (noerr_items d) fun _ => noerr_if noerr_ok noerr_bad) ds
  | sortset => exact noerr_one (fun d => by
      cases d with
      | list es =>
        show NoErr (match tupsK es with | some ks => if ks.length < 64 then R.ok (PyData.list ((sortK (nubK ks)).map encK)) else .bad | none => .bad)
        cases tupsK es with
        | none => exact noerr_bad
        | some ks => exact noerr_if noerr_ok noerr_bad
      | tuple es =>
        show NoErr (match intsOf es with | some ns => if ns.length < 64 then R.ok (PyData.list ((sortI (nubI ns)).map PyData.int)) else .bad | none => .bad)
        cases intsOf es with
        | none => exact noerr_bad
        | some ks => exact noerr_if noerr_ok noerr_bad
      | _ => exact noerr_bad) ds
  | lenset => exact noerr_one (fun d => noerr_bad) ds
  | list => exact noerr_one (fun d => noerr_bind (noerr_items d) fun _ => noerr_ok) ds
  | tuple => exact noerr_one (fun d => noerr_bind (noerr_items d) fun _ => noerr_ok) ds
  | listrange => exact noerr_one (fun d => by cases d <;> first | exact noerr_bad | exact noerr_if noerr_ok noerr_bad) ds
  | tuplerange => exact noerr_one (fun d => by cases d <;> first | exact noerr_bad | exact noerr_if noerr_ok noerr_bad) ds
  | int => exact noerr_one (fun d => by cases d <;> first | exact noerr_ok | exact noerr_bad) ds
  | str => exact noerr_one (fun d => by cases d <;> first | exact noerr_bad | exact noerr_if noerr_ok noerr_bad) ds
  | isi t => exact noerr_one (fun d => noerr_bind (noerr_isi t d) fun _ => noerr_ok) ds

/-! ### a def's promise; the context -/
def spF (K : PySem.W.Frag) (mg : Str → Option Value) (fns : List Fn) (k : Nat) (f : Nat) : Sp := fun vs H Q E => ∃ O ds, Dom O H ∧ DRs K H O vs ds ∧ (∃ F, fns[f]? = some F ∧ ds.length = F.params.length) ∧ (match evFn fns k f ds with
  | .ok d => ∀ v H', Same H H' → DR K H' O v d → Q v H'
  | .err x => ∀ H', Same H H' → ErrOk mg E x H'
  | .bad => False)
def biAll : List Str := ["len", "sum", "max", "min", "sorted", "set", "list", "tuple", "range", "zip", "enumerate", "int", "str", "bool", "isinstance"]
/-- a class of exceptions over ValueError, without an own __init__ -/
def ExcAt (K : PySem.W.Frag) (mg : Str → Option Value) (x : Str) : Prop := ∃ C, mg x = some (.ref C) ∧ PySem.W.excIn K C [.type "ValueError", .type "Exception", .type "BaseException", .type "object"] "ValueError.__new__" = true ∧ PySem.W.keepIn K (.ref C) = true ∧
  PySem.W.subIn K (.ref C) (.type "BaseException") = some true ∧ PySem.W.typeIn K (.ref C) = some (.type "type")
/-- what the classes of exceptions are to each other -/
def ExcRel (K : PySem.W.Frag) (mg : Str → Option Value) (consts : List (Str × D)) : Prop := ∀ x y A B, consts.lookup x = some (.dict []) → consts.lookup y = some (.dict []) → mg x = some (.ref A) → mg y = some (.ref B) →
  L2.ExcC K A ∧ PySem.W.exmOne K (.ref A) (.ref B) = some (isA x y) ∧ PySem.W.kitOne K (.ref A) (.ref B) = some (isA x y)
/-- the place of the defs and classes; the table is empty within an except suite -/
structure Gd (fns : List Fn) (consts : List (Str × D)) (k : Nat) (X : Cx) (W : WT) : Prop where
  calm : (!isNil fns) = true → X.calm = true
  nd : X.N.Nodup
  room : (!isNil fns) = true → Room k X.A
  un : X.A.units + 200 < cLine
  takes : Takes X W.w
  fn : ∀ (f : Nat) (F : Fn), fns[f]? = some F → ∃ (a : Addr) (fd : FuncData), X.mg F.name = some (.ref a) ∧ PySem.W.keepIn X.K (.ref a) = true ∧ Binds X.K fd F.params [] ∧ FnOk X.prog X.w X.K X.mg X.base (L2.CX X.prog X.w) k a fd F.params (spF X.K X.mg fns k f)
  bi : ∀ x, x ∈ biAll → X.mg x = none
  cs : ∀ x d, consts.lookup x = some d → flatD d = true → ∃ v u, X.mg x = some u ∧ RelV v u ∧ ∀ H O, DR X.K H O v d
  ex : ∀ x, consts.lookup x = some (.dict []) → ExcAt X.K X.mg x
  xr : ExcRel X.K X.mg consts
  ext : isNil fns = true → ∀ a x, W.t a x → ∃ A, X.mg x.cls = some (.ref A) ∧ consts.lookup x.cls = some (.dict [])
  exn : isNil fns = true → CallR X (.builtin "isinstance") fun xs H Q => ∃ a x A, W.t a x ∧ X.mg x.cls = some (.ref A) ∧ rIsE X.K A a xs H Q
theorem Gd.blk {fns : List Fn} {consts : List (Str × D)} {k : Nat} {X : Cx} {W : WT} (g : Gd fns consts k X W) (hc : (!isNil fns) = true) (s : Shared) (H : Hp) (scope : Scope) (env : PySem.Env) (fp : List Addr) : Gd fns consts k (X.blk s H scope env fp) (noW W.t) :=
  ⟨g.calm, g.nd, g.room, g.un, takes0, g.fn, g.bi, g.cs, g.ex, g.xr, fun h => (by rw [h] at hc; cases hc), fun h => (by rw [h] at hc; cases hc)⟩

/-! ### sequencing of readings -/
section
variable {X : Cx} {W : WT} {O : Own} {σ : L2.St} {H : Hp}
theorem rdB_of {o : Bool} {ra : R D} {f : D → R D} {new : Bool} {Q : VK} {Q' : VK} (h : rdE X W O σ H new (ra.bind f) Q) (k : ∀ d v H1, ra = .ok d → Same H H1 → Sz H1 → DB X.K H1 O v d → rdE X W O σ H1 new (f d) Q → Q' v H1) : rdB X W O σ H o ra Q' := by
  cases ra with
  | ok d => exact fun v H1 s z db _ => k d v H1 rfl s z db (h.later s)
  | err x => exact h
  | bad => exact h.elim
theorem rdE_of {ra : R D} {f : D → R D} {new new' : Bool} {Q : VK} {Q' : VK} (h : rdE X W O σ H new (ra.bind f) Q) (k : ∀ d v H1, ra = .ok d → Same H H1 → Sz H1 → DR X.K H1 O v d → rdE X W O σ H1 new (f d) Q → Q' v H1) : rdE X W O σ H new' ra Q' := by
  cases ra with
  | ok d => exact fun v H1 s z dr _ => k d v H1 rfl s z dr (h.later s)
  | err x => exact h
  | bad => exact h.elim
theorem rdV_of {r : R D} {Q : VK} (n : NoErr r) (h : rdE X W O σ H false r Q) : rdV X H O r (fun v H' => Sz H' → Q v H') := by
  cases r with
  | ok d => exact fun v H1 s dr z => h v H1 s z dr fun q => by cases q
  | err x => exact absurd rfl (n x)
  | bad => exact h.elim
def rdT (X : Cx) (W : WT) (σ : L2.St) (H : Hp) (r : R Bool) (Q : Bool → Hp → Prop) : Prop := match r with
  | .ok b => ∀ H', Same H H' → Sz H' → Q b H'
  | .err x => ∀ H', Same H H' → ErrOk X.mg (fun c d H'' => W.w c d σ H'') x H'
  | .bad => False
theorem rdT.later {H1 : Hp} {r : R Bool} {Q : Bool → Hp → Prop} (e : Same H H1) (h : rdT X W σ H r Q) : rdT X W σ H1 r Q := by
  cases r with
  | ok d => exact fun H' s z => h H' (e.trans s) z
  | err x => exact fun H' s => h H' (e.trans s)
  | bad => exact h
theorem rdBT_of {o : Bool} {ra : R D} {f : D → R Bool} {Q : Bool → Hp → Prop} {Q' : VK} (h : rdT X W σ H (ra.bind f) Q) (k : ∀ d v H1, ra = .ok d → Same H H1 → Sz H1 → DB X.K H1 O v d → rdT X W σ H1 (f d) Q → Q' v H1) : rdB X W O σ H o ra Q' := by
  cases ra with
  | ok d => exact fun v H1 s z db _ => k d v H1 rfl s z db (h.later s)
  | err x => exact h
  | bad => exact h.elim
theorem rdET_of {ra : R D} {f : D → R Bool} {new : Bool} {Q : Bool → Hp → Prop} {Q' : VK} (h : rdT X W σ H (ra.bind f) Q) (k : ∀ d v H1, ra = .ok d → Same H H1 → Sz H1 → DR X.K H1 O v d → rdT X W σ H1 (f d) Q → Q' v H1) : rdE X W O σ H new ra Q' := by
  cases ra with
  | ok d => exact fun v H1 s z dr _ => k d v H1 rfl s z dr (h.later s)
  | err x => exact h
  | bad => exact h.elim
end

section
variable (fns : List Fn) (consts : List (Str × D)) (k : Nat)
abbrev ev (ρ : Env) (e : E) : R D := evE (evFn fns k) ρ e
abbrev evb (ρ : Env) (e : E) : R D := bor ρ e (evE (evFn fns k) ρ e)
def tE (X : Cx) (W : WT) (e : E) : TE := fun σ H Q => ∃ O ρ, RelE X.K W.t H O σ ρ ∧ rdE X W O σ H (isNew e) (ev fns k ρ e) Q
def tBo (X : Cx) (W : WT) (e : E) : TE := fun σ H Q => ∃ O ρ, RelE X.K W.t H O σ ρ ∧ rdB X W O σ H (isOwn ρ e) (evb fns k ρ e) Q
def tTe (X : Cx) (W : WT) (e : E) : TT := fun σ H Q => ∃ O ρ, RelE X.K W.t H O σ ρ ∧ rdT X W σ H ((evb fns k ρ e).bind tru) Q
def SE (e : E) : Prop := ∀ (X : Cx) (W : WT) (x : Expr), Gd fns consts k X W → mE fns consts X.N X.env.scope e x = true → PE X x (tE fns k X W e)
def SBo (e : E) : Prop := ∀ (X : Cx) (W : WT) (x : Expr), Gd fns consts k X W → mE fns consts X.N X.env.scope e x = true → PE X x (tBo fns k X W e)
def ST (e : E) : Prop := tOk e = true → ∀ (X : Cx) (W : WT) (x : Expr), Gd fns consts k X W → mE fns consts X.N X.env.scope e x = true → PT X x (tTe fns k X W e)
end
section
variable {fns : List Fn} {consts : List (Str × D)} {k : Nat}
theorem fin {X : Cx} {W : WT} {x : Expr} {e : E} {t : TE} (h : PE X x t) (m : ∀ σ H Q O ρ, Sz H → RelE X.K W.t H O σ ρ → rdE X W O σ H (isNew e) (ev fns k ρ e) Q → t σ H (fun v H' => Sz H' → Q v H')) : PE X x (tE fns k X W e) :=
  PE.weak (PE.sized h) fun σ H Q ⟨O, ρ, r, q⟩ z => m σ H Q O ρ z r q
theorem finT {X : Cx} {W : WT} {x : Expr} {e : E} {t : TT} (h : PT X x t) (m : ∀ σ H Q O ρ, Sz H → RelE X.K W.t H O σ ρ → rdT X W σ H ((evb fns k ρ e).bind tru) Q → t σ H (fun v H' => Sz H' → Q v H')) : PT X x (tTe fns k X W e) :=
  PT.weak (PT.sized h) fun σ H Q ⟨O, ρ, r, q⟩ z => m σ H Q O ρ z r q
theorem rd_end {X : Cx} {W : WT} {O : Own} {σ : L2.St} {H : Hp} {d : D} {Q : VK} {v : V} (h : rdE X W O σ H false (.ok d) Q) (dr : DR X.K H O v d) (z : Sz H) : Q v H := h v H (Same.refl H) z dr fun q => by cases q

/-- whatever is not a name is looked at as it is -/
theorem bor_of {ρ : Env} {e : E} {r : R D} (h : ∀ i, e ≠ .var i) : bor ρ e r = r := by
  cases e with
  | var i => exact absurd rfl (h i)
  | _ => rfl
theorem SBo.of_ne {e : E} (h : SE fns consts k e) (hv : ∀ i, e ≠ .var i) : SBo fns consts k e := fun X W x g m =>
  PE.weak (h X W x g m) fun σ H Q ⟨O, ρ, r, q⟩ => ⟨O, ρ, r, by
    have q' : rdB X W O σ H (isOwn ρ e) (bor ρ e (ev fns k ρ e)) Q := q
    rw [bor_of hv] at q'
    revert q'
    generalize ev fns k ρ e = z
    intro q'
    cases z with
    | ok d => exact fun v H' s z dr _ => q' v H' s z (.inl dr) fun _ => dr
    | err x => exact q'
    | bad => exact q'⟩
theorem s_var (i : Nat) : SE fns consts k (.var i) := by
  intro X W x g m
  obtain ⟨n, pos, rfl, h1, h2, h3, h4⟩ := m_var m
  refine fin (pe_var h1 (vis_of h4) h2 h3) fun σ H Q O ρ z r q => ?_
  have q : rdE X W O σ H false (match ρ[i]? with | some (.val d) => R.ok d | _ => .bad) Q := q
  cases e : ρ[i]? with
  | none => rw [e] at q; exact q.elim
  | some c =>
    rw [e] at q
    cases c with
    | val d =>
      obtain ⟨v, e1, e2⟩ := r.val i d e
      exact ⟨v, e1, fun z' => rd_end q e2 z'⟩
    | _ => exact q.elim
theorem sb_var (i : Nat) : SBo fns consts k (.var i) := by
  intro X W x g m
  obtain ⟨n, pos, rfl, h1, h2, h3, h4⟩ := m_var m
  refine PE.weak (PE.sized (pe_var h1 (vis_of h4) h2 h3)) fun σ H Q ⟨O, ρ, r, q⟩ z => ?_
  have q : rdB X W O σ H (match ρ[i]? with | some (.own _) => true | _ => false) (match ρ[i]? with | some (.own ds) => .ok (.list ds) | _ => (match ρ[i]? with | some (.val d) => R.ok d | _ => .bad)) Q := q
  cases e : ρ[i]? with
  | none => rw [e] at q; exact q.elim
  | some c =>
    rw [e] at q
    cases c with
    | val d =>
      obtain ⟨v, e1, e2⟩ := r.val i d e
      exact ⟨v, e1, fun z' => q v H (Same.refl H) z' (.inl e2) fun _ => e2⟩
    | own ds =>
      obtain ⟨p, xs, e1, e2, e3, e4⟩ := r.own i ds e
      exact ⟨.ref p, e1, fun z' => q _ H (Same.refl H) z' (.inr ⟨p, xs, ds, rfl, e2, e3, e4, rfl⟩) fun z => by cases z⟩
    | _ => exact q.elim
theorem SBo.of {e : E} (h : SE fns consts k e) : SBo fns consts k e := by
  cases e with
  | var i => exact sb_var i
  | _ => exact SBo.of_ne h fun i z => by cases z
theorem cst_of {X : Cx} {d : D} {c : Const} {n : Nat} {pos : Pos} (h : cstB d c = true) : ∃ v, PE X (.Constant c n pos) (tC v) ∧ ∀ H O, DR X.K H O v d := by
  cases d <;> cases c <;> first | cases h | skip
  · exact ⟨_, pe_non, fun _ _ => .non⟩
  · rename_i a b
    have e : a = b := eq_of_beq h
    subst e
    exact ⟨_, pe_bl, fun _ _ => .bl _⟩
  · rename_i a b
    have e : a = b := of_decide_eq_true h
    subst e
    exact ⟨_, pe_int, fun _ _ => .int _⟩
  · rename_i a b
    have e : a = b := of_decide_eq_true h
    subst e
    exact ⟨_, pe_str, fun _ _ => .str _⟩
theorem flatEq_of {d e : D} (h : flatEq d e = true) : d = e := by
  cases d with
  | none => cases e <;> first | rfl | cases h
  | bool a =>
    cases e with
    | bool b => have q : a = b := eq_of_beq h; rw [q]
    | _ => cases h
  | int a =>
    cases e with
    | int b => have q : a = b := of_decide_eq_true h; rw [q]
    | _ => cases h
  | str a =>
    cases e with
    | str b => have q : a = b := of_decide_eq_true h; rw [q]
    | _ => cases h
  | _ => cases e <;> cases h
theorem R.bind_assoc {α β γ : Type} (r : R α) (f : α → R β) (g : β → R γ) : (r.bind f).bind g = r.bind fun x => (f x).bind g := by
  cases r <;> rfl
theorem dcmp_bool {op : COp} {d e r : D} (h : dCmp op d e = .ok r) : ∃ b, r = .bool b := by
  have hi : ∀ {c : Prop} [Decidable c] {b : Bool}, (if c then R.ok (PyData.bool b) else .bad) = .ok r → ∃ b, r = .bool b := fun {c} _ {b} h => by
    by_cases hc : c
    · rw [if_pos hc] at h; exact ⟨b, (R.ok.inj h).symm⟩
    · rw [if_neg hc] at h; cases h
  have ho : ∀ {f : Int → Int → Bool} {g : D → D → Bool}, dOrd f g d e = .ok r → ∃ b, r = .bool b := fun {f g} h => by
    have gen : (if okLt d e then R.ok (PyData.bool (g d e)) else .bad) = .ok r → ∃ b, r = .bool b := hi
    cases d <;> cases e <;> first | exact ⟨_, (R.ok.inj h).symm⟩ | exact gen h
  have hb : ∀ {z : R Bool} {f : Bool → Bool}, (z.bind fun r => R.ok (PyData.bool (f r))) = .ok r → ∃ b, r = .bool b := fun {z f} h => by
    cases z with
    | ok b => exact ⟨_, (R.ok.inj h).symm⟩
    | err x => cases h
    | bad => cases h
  cases op with
  | eq => exact hi h
  | ne => exact hi h
  | lt => exact ho h
  | le => exact ho h
  | gt => exact ho h
  | ge => exact ho h
  | isin => exact hb (f := fun b => b) h
  | notin => exact hb (f := fun b => !b) h
/-- a pure answer that is a truth value, as a test -/
theorem rdV_test {X : Cx} {W : WT} {σ : L2.St} {H : Hp} {O : Own} {r : R D} {Q : Bool → Hp → Prop} (n : NoErr r) (hb : ∀ d, r = .ok d → ∃ b, d = .bool b) (h : rdT X W σ H (r.bind tru) Q) : rdV X H O r (fun v H' => ∃ k, v = .bl k ∧ (Sz H' → Q k H')) := by
  cases r with
  | ok d =>
    obtain ⟨b, rfl⟩ := hb d rfl
    intro v H' s dr
    cases dr
    exact ⟨b, rfl, fun z => h H' s z⟩
  | err x => exact absurd rfl (n x)
  | bad => exact h.elim
theorem s_cst (d : D) : SE fns consts k (.cst d) := by
  intro X W x g m
  rcases m_cst m with ⟨c, n, pos, rfl, m⟩ | ⟨n, pos, rfl, h1, h2, d', h3, h4⟩
  · obtain ⟨v, h1, h2⟩ := cst_of (X := X) (n := n) (pos := pos) m
    exact fin h1 fun σ H Q O ρ z r q => fun z' => rd_end q (h2 H O) z'
  · have := flatEq_of h4
    subst this
    obtain ⟨v, u, e1, e2, e3⟩ := g.cs n d h3 (by cases d <;> first | rfl | cases h4)
    exact fin (pe_glob (gl_of h1) e1 e2 h2) fun σ H Q O ρ z r q => fun z' => rd_end q (e3 H O) z'
theorem new_bin {op : BOp} {a b : E} (h : isNew (.bin op a b) = true) : (op = .mul ∧ ∃ es, a = .lst es) ∨ (op = .add ∧ ∃ es, b = .lst es) := by
  cases op with
  | mul =>
    cases a with
    | lst es => exact .inl ⟨rfl, es, rfl⟩
    | _ => cases h
  | add =>
    cases b with
    | lst es => exact .inr ⟨rfl, es, rfl⟩
    | _ => cases a <;> cases h
  | _ => cases a <;> cases b <;> cases h
theorem lst_list {ρ : Env} {es : Es} {d : D} (e1 : evE (evFn fns k) ρ (.lst es) = .ok d) : ∃ ds, d = .list ds := by
  unfold evE at e1
  cases hes : evEs (evFn fns k) ρ es with
  | ok ds => rw [hes] at e1; cases e1; exact ⟨ds, rfl⟩
  | err x => rw [hes] at e1; cases e1
  | bad => rw [hes] at e1; cases e1
theorem s_bin {op : BOp} {a b : E} (ha : SE fns consts k a) (hb : SE fns consts k b) : SE fns consts k (.bin op a b) := by
  intro X W x g m
  obtain ⟨x, y, pos, rfl, h2, h3⟩ := m_bin m
  cases hn : isNew (.bin op a b) with
  | false =>
    exact fin (pe_op (op_dbin op) (SBo.of ha X W x g h2) (SBo.of hb X W y g h3)) fun σ H Q O ρ z r q => by
      rw [hn] at q
      exact ⟨O, ρ, r, rdB_of q fun d v H1 _ s1 z1 db q1 => ⟨O, ρ, r.same s1, rdB_of q1 fun d' v' H2 _ s2 z2 db' q2 => ⟨O, d, d', ((r.same s1).same s2).dom, db.same s2, db', rdV_of (noerr_dbin _ _ _) q2⟩⟩⟩
  | true =>
    rcases new_bin hn with ⟨rfl, es, rfl⟩ | ⟨rfl, es, rfl⟩
    · refine fin (pe_op op_drep (SBo.of ha X W x g h2) (SBo.of hb X W y g h3)) fun σ H Q O ρ z r q => ?_
      refine ⟨O, ρ, r, rdB_of q fun d v H1 e1 s1 z1 db q1 => ⟨O, ρ, r.same s1, rdB_of q1 fun d' v' H2 _ s2 z2 db' q2 => ?_⟩⟩
      obtain ⟨ds, rfl⟩ := lst_list (show evE (evFn fns k) ρ (.lst es) = .ok d from e1)
      refine ⟨O, ds, d', ((r.same s1).same s2).dom, db.same s2, db', ?_⟩
      have q2 : rdE X W O σ H2 true (dMul (.list ds) d') Q := q2
      revert q2
      have nr : NoErr (dMul (.list ds) d') := noerr_dbin .mul _ _
      revert nr
      generalize dMul (.list ds) d' = rr
      intro nr q2
      cases rr with
      | ok d2 => exact fun v H' s3 dr nl z3 => q2 v H' s3 z3 dr fun _ => nl
      | err x => exact absurd rfl (nr x)
      | bad => exact q2.elim
    · refine fin (pe_op op_dcat (SBo.of ha X W x g h2) (SBo.of hb X W y g h3)) fun σ H Q O ρ z r q => ?_
      rw [hn] at q
      refine ⟨O, ρ, r, rdB_of q fun d v H1 e1 s1 z1 db q1 => ⟨O, ρ, r.same s1, rdB_of q1 fun d' v' H2 e2 s2 z2 db' q2 => ?_⟩⟩
      obtain ⟨ds, rfl⟩ := lst_list (show evE (evFn fns k) ρ (.lst es) = .ok d' from e2)
      refine ⟨O, d, ds, ((r.same s1).same s2).dom, db.same s2, db', ?_⟩
      have q2 : rdE X W O σ H2 true (dAdd d (.list ds)) Q := q2
      revert q2
      have nr : NoErr (dAdd d (.list ds)) := noerr_dbin .add _ _
      revert nr
      generalize dAdd d (.list ds) = rr
      intro nr q2
      cases rr with
      | ok d2 => exact fun v H' s3 dr nl z3 => q2 v H' s3 z3 dr fun _ => nl
      | err x => exact absurd rfl (nr x)
      | bad => exact q2.elim
theorem s_cmp {op : COp} {a b : E} (ha : SE fns consts k a) (hb : SE fns consts k b) : SE fns consts k (.cmp op a b) ∧ ST fns consts k (.cmp op a b) := by
  constructor
  · intro X W x g m
    obtain ⟨x, y, pos, rfl, h2, h3, h4⟩ := m_cmp m
    exact fin (pe_cmpR (op_dcmp g.un op) (SBo.of ha X W x g h2) (SBo.of hb X W y g h3) (no_marks h4)) fun σ H Q O ρ z r q =>
      ⟨O, ρ, r, rdB_of q fun d v H1 _ s1 z1 db q1 => ⟨O, ρ, r.same s1, rdB_of q1 fun d' v' H2 _ s2 z2 db' q2 => ⟨O, d, d', ((r.same s1).same s2).dom, db.same s2, db', rdV_of (noerr_dcmp _ _ _) q2⟩⟩⟩
  · intro _ X W x g m
    obtain ⟨x, y, pos, rfl, h2, h3, h4⟩ := m_cmp m
    refine finT (pt_cmpR (op_dcmp g.un op) (SBo.of ha X W x g h2) (SBo.of hb X W y g h3) (no_marks h4)) fun σ H Q O ρ z r q => ?_
    have q : rdT X W σ H (((evb fns k ρ a).bind fun x => (evb fns k ρ b).bind fun y => dCmp op x y).bind tru) Q := q
    rw [R.bind_assoc] at q
    refine ⟨O, ρ, r, rdBT_of q fun d v H1 _ s1 z1 db q1 => ⟨O, ρ, r.same s1, ?_⟩⟩
    rw [R.bind_assoc] at q1
    exact rdBT_of q1 fun d' v' H2 _ s2 z2 db' q2 => ⟨O, d, d', ((r.same s1).same s2).dom, db.same s2, db', rdV_test (noerr_dcmp _ _ _) (fun _ => dcmp_bool) q2⟩
end
end Qw

set_option Elab.async false
set_option linter.all false
set_option maxRecDepth 100000
set_option maxHeartbeats 4000000
/-! Expressions, further. By an AI agent. -/
namespace Qw
open PySem PySem.Spec PyProof.Rows L2
section
variable {fns : List Fn} {consts : List (Str × D)} {k : Nat}
theorem evb_of {ρ : Env} {e : E} (h : ev fns k ρ e ≠ .bad) : evb fns k ρ e = ev fns k ρ e := by
  cases e with
  | var i =>
    have h : (match ρ[i]? with | some (.val d) => R.ok d | _ => .bad) ≠ .bad := h
    show (match ρ[i]? with | some (.own ds) => R.ok (.list ds) | _ => (match ρ[i]? with | some (.val d) => R.ok d | _ => .bad)) = (match ρ[i]? with | some (.val d) => R.ok d | _ => .bad)
    cases e : ρ[i]? with
    | none => rfl
    | some c =>
      rw [e] at h
      cases c with
      | own ds => exact absurd rfl h
      | _ => rfl
  | _ => rfl
/-! ### tests by truth -/
def plainT : Expr → Bool
  | .UnaryOp .Not _ _ => false
  | .BoolOp .. => false
  | .IfExp .. => false
  | .Compare .. => false
  | _ => true
theorem true_plain {x : Expr} {env : PySem.Env} (h : plainT x = true) : ∀ whole, isTrue x env whole = (do let v ← whole; standAt x.pos; holding [v] (truthy v)) := by
  intro whole
  cases x with
  | UnaryOp op a pos => cases op <;> first | rfl | cases h
  | _ => first | rfl | cases h
theorem ST.gen {e : E} (h : SE fns consts k e) (hx : ∀ N sc x, mE fns consts N sc e x = true → plainT x = true) : ST fns consts k e := fun _ X W x g m => by
  refine finT (pt_truth (SBo.of h X W x g m) (true_plain (hx _ _ _ m))) fun σ H Q O ρ z r q => ⟨O, ρ, r, rdBT_of q fun d v H1 _ s1 z1 db q1 => ?_⟩
  cases hk : tru d with
  | ok b =>
    rw [hk] at q1
    exact ⟨b, tru_v db hk, fun z2 => q1 H1 (Same.refl H1) z2⟩
  | err x => exact absurd hk (noerr_tru d x)
  | bad => rw [hk] at q1; exact q1.elim
/-! ### -a, a is None, a <= b <= c -/
theorem s_neg {a : E} (ha : SE fns consts k a) : SE fns consts k (.neg a) := by
  intro X W x g m
  obtain ⟨x, pos, rfl, m⟩ := m_neg m
  refine fin (pe_un un_neg (ha X W x g m)) fun σ H Q O ρ z r q => ⟨O, ρ, r, rdE_of q fun d v H1 _ s1 z1 dr q1 => ?_⟩
  cases d with
  | int i =>
    cases dr
    exact ⟨i, rfl, fun z2 => rd_end q1 (.int _) z2⟩
  | _ => exact q1.elim
theorem isNon {K : PySem.W.Frag} {H : Hp} {O : Own} {v : V} {d : D} (dr : DR K H O v d) : decide (v = V.non) = (match d with | .none => true | _ => false) := by
  cases dr <;> first | rfl | exact decide_eq_false fun z => by cases z
theorem s_isN {n : Bool} {a : E} (ha : SE fns consts k a) : SE fns consts k (.isN n a) ∧ ST fns consts k (.isN n a) := by
  have val : ∀ {X : Cx} {W : WT} {σ : L2.St} {H : Hp} {O : Own} {v : V} {d : D} {Q : VK}, DR X.K H O v d → Sz H → rdE X W O σ H false (match d with | .none => .ok (.bool (!n)) | .dict _ => .bad | _ => .ok (.bool n)) Q → Q (.bl (if n then !decide (v = V.non) else decide (v = V.non))) H := fun {X W σ H O v d Q} dr z q => by
    rw [isNon dr]
    cases d with
    | dict _ => exact q.elim
    | none => cases n <;> exact rd_end q (.bl _) z
    | _ => cases n <;> exact rd_end q (.bl _) z
  constructor
  · intro X W x g m
    obtain ⟨y, j, p, pos, m', h⟩ := m_isN m
    rcases h with ⟨rfl, rfl⟩ | ⟨rfl, rfl⟩
    · exact fin (pe_cmp (pc_isN (ha X W y g m')) rfl) fun σ H Q O ρ z r q => ⟨O, ρ, r, rdE_of q fun d v H1 _ s1 z1 dr q1 => fun z2 => val dr z2 q1⟩
    · exact fin (pe_cmp (pc_notN (ha X W y g m')) rfl) fun σ H Q O ρ z r q => ⟨O, ρ, r, rdE_of q fun d v H1 _ s1 z1 dr q1 => fun z2 => val dr z2 q1⟩
  · intro _ X W x g m
    obtain ⟨y, j, p, pos, m', h⟩ := m_isN m
    have tst : ∀ {σ : L2.St} {H : Hp} {O : Own} {v : V} {d : D} {Q : Bool → Hp → Prop}, DR X.K H O v d → rdT X W σ H ((match d with | .none => R.ok (PyData.bool (!n)) | .dict _ => .bad | _ => .ok (.bool n)).bind tru) Q → Sz H → Q (if n then !decide (v = V.non) else decide (v = V.non)) H := fun {σ H O v d Q} dr q z => by
      rw [isNon dr]
      cases d with
      | dict _ => exact q.elim
      | none => cases n <;> exact q H (Same.refl H) z
      | _ => cases n <;> exact q H (Same.refl H) z
    rcases h with ⟨rfl, rfl⟩ | ⟨rfl, rfl⟩
    · refine finT (pt_cmp (pc_isN (ha X W y g m')) rfl) fun σ H Q O ρ z r q => ?_
      have q : rdT X W σ H (((ev fns k ρ a).bind fun x => match x with | .none => R.ok (PyData.bool (!false)) | .dict _ => .bad | _ => .ok (.bool false)).bind tru) Q := q
      rw [R.bind_assoc] at q
      exact ⟨O, ρ, r, rdET_of q fun d v H1 _ s1 z1 dr q1 => ⟨_, rfl, fun z2 => tst dr q1 z2⟩⟩
    · refine finT (pt_cmp (pc_notN (ha X W y g m')) rfl) fun σ H Q O ρ z r q => ?_
      have q : rdT X W σ H (((ev fns k ρ a).bind fun x => match x with | .none => R.ok (PyData.bool (!true)) | .dict _ => .bad | _ => .ok (.bool true)).bind tru) Q := q
      rw [R.bind_assoc] at q
      exact ⟨O, ρ, r, rdET_of q fun d v H1 _ s1 z1 dr q1 => ⟨_, rfl, fun z2 => tst dr q1 z2⟩⟩
theorem last_marks {o o' : CmpOp} {y z : Expr} (hz : plainX z = true) : lastMarks [o, o'] [y, z] = false := by
  show behindInMarks o' z = false
  exact no_marks hz
theorem s_chain {a b c : E} (ha : SE fns consts k a) (hb : SE fns consts k b) (hc : SE fns consts k c) : SE fns consts k (.chain a b c) ∧ ST fns consts k (.chain a b c) := by
  constructor
  · intro X W x g m
    obtain ⟨p, q, r, pos, rfl, m1, m2, m3, m4, m5⟩ := m_chain m
    refine fin (pe_chain op_le op_le (ha X W p g m1) (hb X W q g m2) (hc X W r g m3) (last_marks m5)) fun σ H Q O ρ z rel q => ⟨O, ρ, rel, rdE_of q fun d v H1 _ s1 z1 dr q1 => ⟨O, ρ, rel.same s1, rdE_of q1 fun d' v' H2 _ s2 z2 dr' q2 => ?_⟩⟩
    cases d with
    | int i =>
      cases d' with
      | int j =>
        cases dr
        cases dr'
        refine ⟨i, j, rfl, rfl, decide (i ≤ j), rfl, ?_⟩
        have q2 : rdE X W O σ H2 false (if i ≤ j then (ev fns k ρ c).bind fun z => (match z with | .int k => .ok (.bool (decide (j ≤ k))) | _ => .bad) else .ok (.bool false)) Q := q2
        by_cases h : i ≤ j
        · rw [if_pos h] at q2
          rw [decide_eq_true h, if_pos rfl]
          refine ⟨O, ρ, (rel.same s1).same s2, rdE_of q2 fun e w H3 _ s3 z3 dr3 q3 => ?_⟩
          cases e with
          | int l =>
            cases dr3
            exact ⟨j, l, rfl, rfl, fun z4 => rd_end q3 (.bl _) z4⟩
          | _ => exact q3.elim
        · rw [if_neg h] at q2
          rw [decide_eq_false h, if_neg Bool.false_ne_true]
          exact fun z4 => rd_end q2 (.bl _) z4
      | _ => exact q2.elim
    | _ => cases d' <;> exact q2.elim
  · intro _ X W x g m
    obtain ⟨p, q, r, pos, rfl, m1, m2, m3, m4, m5⟩ := m_chain m
    refine finT (pt_chain op_le op_le (ha X W p g m1) (hb X W q g m2) (hc X W r g m3) (last_marks m5)) fun σ H Q O ρ z rel q => ?_
    have q : rdT X W σ H (((ev fns k ρ a).bind fun x => (ev fns k ρ b).bind fun y => (match x, y with
      | .int i, .int j => if i ≤ j then (ev fns k ρ c).bind fun z => (match z with | .int k => R.ok (PyData.bool (decide (j ≤ k))) | _ => .bad) else .ok (.bool false)
      | _, _ => .bad)).bind tru) Q := q
    rw [R.bind_assoc] at q
    refine ⟨O, ρ, rel, rdET_of q fun d v H1 _ s1 z1 dr q1 => ⟨O, ρ, rel.same s1, ?_⟩⟩
    rw [R.bind_assoc] at q1
    refine rdET_of q1 fun d' v' H2 _ s2 z2 dr' q2 => ?_
    cases d with
    | int i =>
      cases d' with
      | int j =>
        cases dr
        cases dr'
        refine ⟨i, j, rfl, rfl, decide (i ≤ j), rfl, ?_⟩
        have q2 : rdT X W σ H2 ((if i ≤ j then (ev fns k ρ c).bind fun z => (match z with | .int k => R.ok (PyData.bool (decide (j ≤ k))) | _ => .bad) else .ok (.bool false)).bind tru) Q := q2
        by_cases h : i ≤ j
        · rw [if_pos h, R.bind_assoc] at q2
          rw [decide_eq_true h, if_pos rfl]
          refine ⟨O, ρ, (rel.same s1).same s2, rdET_of q2 fun e w H3 _ s3 z3 dr3 q3 => ?_⟩
          cases e with
          | int l =>
            cases dr3
            exact ⟨j, l, rfl, rfl, _, rfl, fun z4 => q3 H3 (Same.refl H3) z4⟩
          | _ => exact q3.elim
        · rw [if_neg h] at q2
          rw [decide_eq_false h, if_neg Bool.false_ne_true]
          exact ⟨false, rfl, fun z4 => q2 H2 (Same.refl H2) z4⟩
      | _ => exact q2.elim
    | _ => cases d' <;> exact q2.elim
/-! ### and, or, not, if -/
theorem rdT_b {X : Cx} {W : WT} {σ : L2.St} {H : Hp} {ρ : Env} {e : E} {Q : Bool → Hp → Prop} (h : rdT X W σ H ((ev fns k ρ e).bind tru) Q) : rdT X W σ H ((evb fns k ρ e).bind tru) Q := by
  by_cases hz : ev fns k ρ e = .bad
  · rw [hz] at h; exact h.elim
  · rw [evb_of hz]; exact h
theorem tru_cases {X : Cx} {W : WT} {O : Own} {σ : L2.St} {H : Hp} {new : Bool} {d : D} {f : Bool → R D} {Q : VK} (q : rdE X W O σ H new ((tru d).bind f) Q) : ∃ b, tru d = .ok b ∧ rdE X W O σ H new (f b) Q := by
  cases hk : tru d with
  | ok b => rw [hk] at q; exact ⟨b, rfl, q⟩
  | err x => exact absurd hk (noerr_tru d x)
  | bad => rw [hk] at q; exact q.elim
theorem tru_casesT {X : Cx} {W : WT} {σ : L2.St} {H : Hp} {d : D} {f : Bool → R Bool} {Q : Bool → Hp → Prop} (q : rdT X W σ H ((tru d).bind f) Q) : ∃ b, tru d = .ok b ∧ rdT X W σ H (f b) Q := by
  cases hk : tru d with
  | ok b => rw [hk] at q; exact ⟨b, rfl, q⟩
  | err x => exact absurd hk (noerr_tru d x)
  | bad => rw [hk] at q; exact q.elim
theorem rdE_q {X : Cx} {W : WT} {O : Own} {σ : L2.St} {H : Hp} {new : Bool} {r : R D} {Q : VK} (q : rdE X W O σ H false r Q) : rdE X W O σ H new r (fun v H' => Sz H' → Q v H') := by
  cases r with
  | ok d => exact fun v H' s z dr _ z2 => q v H' s z dr fun h => by cases h
  | err x => exact q
  | bad => exact q
/-- a test by and, or, whatever its 'whole' is -/
def SW (e : E) : Prop := tOk e = true → ∀ (X : Cx) (W : WT) (o : BoolOp) (vs : List Expr) (pos : Pos), Gd fns consts k X W → mE fns consts X.N X.env.scope e (.BoolOp o vs pos) = true → PW X (.BoolOp o vs pos) (tTe fns k X W e)
theorem PW.weak {X : Cx} {x : Expr} {t t' : TT} (h : PW X x t) (m : ∀ σ H Q, t' σ H Q → t σ H Q) : PW X x t' := ⟨fun wh pins s σ H Q I q => h.run wh pins s σ H Q I (m σ H Q q)⟩
theorem PW.sized {X : Cx} {x : Expr} {t : TT} (h : PW X x t) : PW X x (fun σ H Q => Sz H → t σ H fun v H' => Sz H' → Q v H') := ⟨fun wh pins s σ H Q I q =>
  thn (h.run wh pins s σ H _ I (q (Inv.sz' I))) fun b s' ⟨H', I', k⟩ => ⟨H', I', k (Inv.sz' I')⟩⟩
theorem s_and {a b : E} (ha : SE fns consts k a) (hb : SE fns consts k b) (ta : ST fns consts k a) (tb : ST fns consts k b) (wb : SW (fns := fns) (consts := consts) (k := k) b) : SE fns consts k (.and a b) ∧ ST fns consts k (.and a b) ∧ SW (fns := fns) (consts := consts) (k := k) (.and a b) := by
  have w : SW (fns := fns) (consts := consts) (k := k) (.and a b) := by
    intro ok X W o vs pos g m
    have ok' : tOk a = true ∧ tOk b = true := by simpa [tOk] using ok
    obtain ⟨p, q, rest, pos', e, m1, m2⟩ := m_and m
    obtain ⟨rfl, rfl, rfl⟩ : o = .And ∧ vs = p :: q :: rest ∧ pos = pos' := by
      injection e with e1 e2 e3
      exact ⟨e1, e2, e3⟩
    have hw : PW X (.BoolOp .And (q :: rest) pos) (tTe fns k X W b) := by
      rcases m2 with ⟨rfl, m2⟩ | m2
      · exact pw_and1 (tb ok'.2 X W q g m2)
      · exact wb ok'.2 X W .And (q :: rest) pos g m2
    refine PW.weak (PW.sized (pw_and (ta ok'.1 X W p g m1) hw)) fun σ H Q ⟨O, ρ, r, q⟩ z => ?_
    have q : rdT X W σ H (((ev fns k ρ a).bind fun x => (tru x).bind fun k' => if k' = true then ev fns k ρ b else .ok x).bind tru) Q := q
    rw [R.bind_assoc] at q
    refine ⟨O, ρ, r, rdT_b ?_⟩
    cases hv : ev fns k ρ a with
    | bad => rw [hv] at q; exact q.elim
    | err x => rw [hv] at q; exact q
    | ok d =>
      rw [hv] at q
      have q : rdT X W σ H (((tru d).bind fun k' => if k' = true then ev fns k ρ b else .ok d).bind tru) Q := q
      rw [R.bind_assoc] at q
      obtain ⟨c, hc, q⟩ := tru_casesT q
      show rdT X W σ H (tru d) _
      rw [hc]
      intro H1 s1 z1
      cases c with
      | true =>
        rw [if_pos rfl] at q
        rw [if_pos rfl]
        refine ⟨O, ρ, r.same s1, rdT_b ?_⟩
        have q := q.later s1
        revert q
        generalize (ev fns k ρ b).bind tru = z
        intro q
        cases z with
        | ok b => exact fun H' s z' => fun z2 => q H' s z'
        | err x => exact q
        | bad => exact q
      | false =>
        rw [if_neg Bool.false_ne_true] at q
        rw [if_neg Bool.false_ne_true]
        have q : rdT X W σ H (tru d) Q := q
        rw [hc] at q
        exact fun z2 => q H1 s1 z2
  refine ⟨?_, ?_, w⟩
  · intro X W x g m
    obtain ⟨p, q, rest, pos, rfl, m1, m2⟩ := m_and m
    have hr : PE X (.BoolOp .And (q :: rest) pos) (tE fns k X W b) := by
      rcases m2 with ⟨rfl, m2⟩ | m2
      · exact pe_one (hb X W q g m2)
      · exact hb X W _ g m2
    refine fin (pe_andT (ha X W p g m1) hr) fun σ H Q O ρ z r q => ⟨O, ρ, r, rdE_of q fun d v H1 _ s1 z1 dr q1 => ?_⟩
    obtain ⟨c, hc, q1⟩ := tru_cases q1
    refine ⟨c, tru_v (.inl dr) hc, ?_⟩
    cases c with
    | true =>
      rw [if_pos rfl] at q1
      rw [if_pos rfl]
      exact ⟨O, ρ, r.same s1, rdE_q q1⟩
    | false =>
      rw [if_neg Bool.false_ne_true] at q1
      rw [if_neg Bool.false_ne_true]
      exact fun z2 => rd_end q1 dr z2
  · intro ok X W x g m
    obtain ⟨p, q, rest, pos, rfl, m1, m2⟩ := m_and m
    exact (w ok X W .And _ pos g m).pt
theorem s_or {a b : E} (ha : SE fns consts k a) (hb : SE fns consts k b) (ta : ST fns consts k a) (tb : ST fns consts k b) (wb : SW (fns := fns) (consts := consts) (k := k) b) : SE fns consts k (.or a b) ∧ ST fns consts k (.or a b) ∧ SW (fns := fns) (consts := consts) (k := k) (.or a b) := by
  have w : SW (fns := fns) (consts := consts) (k := k) (.or a b) := by
    intro ok X W o vs pos g m
    have ok' : tOk a = true ∧ tOk b = true := by simpa [tOk] using ok
    obtain ⟨p, q, rest, pos', e, m1, m2⟩ := m_or m
    obtain ⟨rfl, rfl, rfl⟩ : o = .Or ∧ vs = p :: q :: rest ∧ pos = pos' := by
      injection e with e1 e2 e3
      exact ⟨e1, e2, e3⟩
    have hw : PW X (.BoolOp .Or (q :: rest) pos) (tTe fns k X W b) := by
      rcases m2 with ⟨rfl, m2⟩ | m2
      · exact pw_or1 (tb ok'.2 X W q g m2)
      · exact wb ok'.2 X W .Or (q :: rest) pos g m2
    refine PW.weak (PW.sized (pw_or (ta ok'.1 X W p g m1) hw)) fun σ H Q ⟨O, ρ, r, q⟩ z => ?_
    have q : rdT X W σ H (((ev fns k ρ a).bind fun x => (tru x).bind fun k' => if k' = true then .ok x else ev fns k ρ b).bind tru) Q := q
    rw [R.bind_assoc] at q
    refine ⟨O, ρ, r, rdT_b ?_⟩
    cases hv : ev fns k ρ a with
    | bad => rw [hv] at q; exact q.elim
    | err x => rw [hv] at q; exact q
    | ok d =>
      rw [hv] at q
      have q : rdT X W σ H (((tru d).bind fun k' => if k' = true then .ok d else ev fns k ρ b).bind tru) Q := q
      rw [R.bind_assoc] at q
      obtain ⟨c, hc, q⟩ := tru_casesT q
      show rdT X W σ H (tru d) _
      rw [hc]
      intro H1 s1 z1
      cases c with
      | false =>
        rw [if_neg Bool.false_ne_true] at q
        rw [if_neg Bool.false_ne_true]
        refine ⟨O, ρ, r.same s1, rdT_b ?_⟩
        have q := q.later s1
        revert q
        generalize (ev fns k ρ b).bind tru = z
        intro q
        cases z with
        | ok b => exact fun H' s z' => fun z2 => q H' s z'
        | err x => exact q
        | bad => exact q
      | true =>
        rw [if_pos rfl] at q
        rw [if_pos rfl]
        have q : rdT X W σ H (tru d) Q := q
        rw [hc] at q
        exact fun z2 => q H1 s1 z2
  refine ⟨?_, ?_, w⟩
  · intro X W x g m
    obtain ⟨p, q, rest, pos, rfl, m1, m2⟩ := m_or m
    have hr : PE X (.BoolOp .Or (q :: rest) pos) (tE fns k X W b) := by
      rcases m2 with ⟨rfl, m2⟩ | m2
      · exact pe_one (hb X W q g m2)
      · exact hb X W _ g m2
    refine fin (pe_orT (ha X W p g m1) hr) fun σ H Q O ρ z r q => ⟨O, ρ, r, rdE_of q fun d v H1 _ s1 z1 dr q1 => ?_⟩
    obtain ⟨c, hc, q1⟩ := tru_cases q1
    refine ⟨c, tru_v (.inl dr) hc, ?_⟩
    cases c with
    | false =>
      rw [if_neg Bool.false_ne_true] at q1
      rw [if_neg Bool.false_ne_true]
      exact ⟨O, ρ, r.same s1, rdE_q q1⟩
    | true =>
      rw [if_pos rfl] at q1
      rw [if_pos rfl]
      exact fun z2 => rd_end q1 dr z2
  · intro ok X W x g m
    obtain ⟨p, q, rest, pos, rfl, m1, m2⟩ := m_or m
    exact (w ok X W .Or _ pos g m).pt
theorem s_not {a : E} (ha : SE fns consts k a) (ta : ST fns consts k a) : SE fns consts k (.not a) ∧ ST fns consts k (.not a) := by
  constructor
  · intro X W x g m
    obtain ⟨x, pos, rfl, m⟩ := m_not m
    refine fin (pe_notT (SBo.of ha X W x g m)) fun σ H Q O ρ z r q => ⟨O, ρ, r, rdB_of q fun d v H1 _ s1 z1 db q1 => ?_⟩
    obtain ⟨c, hc, q1⟩ := tru_cases q1
    exact ⟨c, tru_v db hc, fun z2 => rd_end q1 (.bl _) z2⟩
  · intro ok X W x g m
    obtain ⟨x, pos, rfl, m⟩ := m_not m
    refine finT (pt_not (ta ok X W x g m)) fun σ H Q O ρ z r q => ⟨O, ρ, r, ?_⟩
    have q : rdT X W σ H (((evb fns k ρ a).bind fun x => (tru x).bind fun k' => R.ok (PyData.bool (!k'))).bind tru) Q := q
    rw [R.bind_assoc] at q
    revert q
    generalize evb fns k ρ a = y
    intro q
    cases y with
    | bad => exact q.elim
    | err x => exact q
    | ok d =>
      have q : rdT X W σ H (((tru d).bind fun k' => R.ok (PyData.bool (!k'))).bind tru) Q := q
      rw [R.bind_assoc] at q
      obtain ⟨c, hc, q⟩ := tru_casesT q
      show rdT X W σ H (tru d) _
      rw [hc]
      exact fun H1 s1 z1 z2 => q H1 s1 z1
theorem s_ifx {c a b : E} (tc : ST fns consts k c) (ha : SE fns consts k a) (hb : SE fns consts k b) : SE fns consts k (.ifx c a b) := by
  intro X W x g m
  obtain ⟨x, y, z, pos, rfl, h0, h1, h2, h3⟩ := m_ifx m
  refine fin (pe_ifExp (tc h0 X W x g h1) (ha X W y g h2) (hb X W z g h3)) fun σ H Q O ρ z r q => ⟨O, ρ, r, ?_⟩
  have q : rdE X W O σ H false ((evb fns k ρ c).bind fun x => (tru x).bind fun k' => if k' = true then ev fns k ρ a else ev fns k ρ b) Q := q
  revert q
  generalize evb fns k ρ c = y
  intro q
  cases y with
  | bad => exact q.elim
  | err x => exact q
  | ok d =>
    obtain ⟨t, ht, q⟩ := tru_cases (show rdE X W O σ H false ((tru d).bind fun k' => if k' = true then ev fns k ρ a else ev fns k ρ b) Q from q)
    show rdT X W σ H (tru d) _
    rw [ht]
    intro H1 s1 z1
    cases t with
    | true =>
      rw [if_pos rfl] at q
      rw [if_pos rfl]
      exact ⟨O, ρ, r.same s1, rdE_q (q.later s1)⟩
    | false =>
      rw [if_neg Bool.false_ne_true] at q
      rw [if_neg Bool.false_ne_true]
      exact ⟨O, ρ, r.same s1, rdE_q (q.later s1)⟩
/-! ### items, slices -/
theorem s_idx {a b : E} (ha : SE fns consts k a) (hb : SE fns consts k b) : SE fns consts k (.idx a b) := by
  intro X W x g m
  obtain ⟨x, y, pos, rfl, h1, h2, h3⟩ := m_idx m
  exact fin (pe_ix ix_d (SBo.of ha X W x g h1) (hb X W y g h2) (plain_ix h3)) fun σ H Q O ρ z r q =>
    ⟨O, ρ, r, rdB_of q fun d v H1 _ s1 z1 db q1 => ⟨O, ρ, r.same s1, rdE_of q1 fun d' v' H2 _ s2 z2 dr' q2 => ⟨O, d, d', ((r.same s1).same s2).dom, db.same s2, .inl dr', rdV_of (noerr_didx _ _) q2⟩⟩⟩
end
end Qw

set_option Elab.async false
set_option linter.all false
set_option maxRecDepth 100000
set_option maxHeartbeats 4000000
/-! Tuples, the empty one too, can be sorted. By an AI agent. -/
namespace Qw
open PySem PySem.SeqAt PyProof.Rows PySem.W
section
variable {prog : Program} {w : World} {A : Around} {s : Shared} {E : Value → Shared → Prop}
theorem call_tup_lt {Q : Value → Shared → Prop} {l b : Addr} {items items2 : Array Value} {e r : Nat → Bool} (hl : s.heap.IsTuple l items) (hb : s.heap.IsTuple b items2)
    (he : ∀ j (h1 : j < items.size) (h2 : j < items2.size), EqAt A.in1 s items[j] items2[j] (e j))
    (hr : ∀ j (h1 : j < items.size) (h2 : j < items2.size), e j = false → RcLt A.in1 s items[j] items2[j] (r j))
    (h : Q (.bool (firstLt e r (decide (items.size < items2.size)) (List.range (min items.size items2.size)))) s) : wpAny (model prog w) A (call (.builtin "tuple.__lt__") [.ref l, .ref b]) Q E s := by
  obtain ⟨o1, ho, hc, n, hd⟩ := id hl
  obtain ⟨o2, ho2, hc2, n2, hd2⟩ := id hb
  obtain ⟨cls, dd, data, sl⟩ := o1
  obtain ⟨cls2, dd2, data2, sl2⟩ := o2
  dsimp only at hc hd hc2 hd2
  subst hc hd hc2 hd2
  exact call_meets F.slot_tuple_lt ⟨_, ho, rfl⟩ F.entry_tuple_lt (F.args_tuple_lt_2 _ _) (tuple_ltAt l b items items2 n n2 dd dd2 sl sl2 e r) ⟨ho, ho2, he, hr, h⟩
theorem oneLt_tup {xs ys : List PyData} {a b : Value} {as bs : List Addr} {Q : Bool → Shared → Prop} (ra : Reads s.heap a (.tuple xs) as) (rb : Reads s.heap b (.tuple ys) bs) (hal : alikeAll xs ys = true)
    (hu : A.units + min (PyData.depth (.tuple xs)) (PyData.depth (.tuple ys)) < cLine) (hq : Q (dataLt (.tuple xs) (.tuple ys)) s) : wpAny (model prog w) A (oneLt' true a b) Q E s := by
  cases ra with
  | @tuple l o vs n _ as₁ h1 h2 h3 h4 =>
    cases rb with
    | @tuple l' o' vs' n' _ bs₁ k1 k2 k3 k4 =>
      have n1 : vs.size = xs.length := by simpa using SeqAt.ReadsAll.length _ _ _ h4
      have n2 : vs'.size = ys.length := by simpa using SeqAt.ReadsAll.length _ _ _ k4
      rw [dataLt_tuple, ← firstLt_toks xs ys hal, ← n1, ← n2] at hq
      rw [oneLt'_eq]
      simp only [if_true]
      refine wpAny_bind (wpAny_cRoomFor (SeqAt.room_here hu) ?_)
      refine wpAny_bind (wpAny_callSpecialIfBound?_slot (T := "tuple") ⟨_, h1, h2⟩ F.slot_tuple_lt (call_tup_lt (e := pairEq xs ys) (r := fun j => dataLt (xs.getD j .none) (ys.getD j .none)) ⟨_, h1, h2, _, h3⟩ ⟨_, k1, k2, _, k3⟩ (fun j j1 j2 => ?_) (fun j j1 j2 hj => ?_) ?_))
      · have := eqAt_alikeAll xs ys A.in1 s vs.toList vs'.toList _ _ h4 k4 hal (SeqAt.room_in hu) j (by simpa using j1) (by simpa using j2)
        simpa using this
      · have := rcLt_alikeAll xs ys A.in1 s vs.toList vs'.toList _ _ h4 k4 hal (SeqAt.room_in hu) j (by simpa using j1) (by simpa using j2) hj
        simpa using this
      · exact wpAny_truthy_bool hq
def firstO : PyData → Bool
  | .tuple (_ :: _) => true
  | _ => false
/-- the firsts of tuples -/
theorem tup_firsts {M : Model} : ∀ (vs : List Value) (ds : List PyData) {Q : List (Option Value) → Shared → Prop}, EachIs (fun v d => ∃ as, Reads s.heap v d as) vs ds → (∀ d ∈ ds, ∃ xs, d = .tuple xs) → (∀ fs : List (Option Value), fs.map (fun o => o.isSome) = ds.map firstO → Q fs s) → wpAny M A (vs.mapM firstOfTuple') Q E s
  | _, _, _, .nil, _, h => by rw [List.mapM_nil]; exact wpAny_pure (h [] rfl)
  | _, _, Q, .cons (a := v) (as := vs) (b := d) (bs := ds) ⟨as, r⟩ t, ht, h => by
    obtain ⟨xs, rfl⟩ := ht d (List.mem_cons_self ..)
    cases r with
    | @tuple l o its n _ as₁ h1 h2 h3 h4 =>
      rw [List.mapM_cons]
      refine wpAny_bind ?_
      rw [kas_first_eq]
      refine wpAny_bind (Looks.here (show Looks M s.heap (typeOf (.ref l)) o.cls from (Looks.ld h1).andThen .now) ?_)
      rw [h2, if_neg (by first | decide | simp)]
      refine wpAny_bind (listItems_at h1 h3 (wpAny_pure ?_))
      refine wpAny_bind (tup_firsts vs ds (Q := fun bs s' => wpAny M A (pure (its[0]? :: bs)) Q E s') t (fun d hd => ht d (List.mem_cons_of_mem _ hd)) fun fs hf => wpAny_pure (h _ ?_))
      rw [List.map_cons, List.map_cons, hf]
      congr 1
      have e : its[0]? = its.toList[0]? := by rw [Array.getElem?_toList]
      rw [e]
      cases q : its.toList with
      | nil =>
        rw [q] at h4
        cases h4
        rfl
      | cons f fr =>
        rw [q] at h4
        cases h4
        rfl
theorem tup_kind {M : Model} {vs : List Value} {ds : List PyData} {Q : SortKind → Shared → Prop} (e : EachIs (fun v d => ∃ as, Reads s.heap v d as) vs ds) (ht : ∀ d ∈ ds, ∃ xs, d = .tuple xs) (hne : ∃ d ∈ ds, firstO d = false) (hq : Q (if (ds.head?.map firstO) = some true then general' else oneType') s) : wpAny M A (keyKind' vs.toArray) Q E s := by
  rw [kat_kind_eq, List.mapM_toArray, map_eq_pure_bind]
  refine wpAny_bind (wpAny_bind (tup_firsts vs ds e ht fun fs hf => wpAny_pure ?_))
  have hall : ¬ (fs.toArray.all fun x => x.isSome) = true := by
    intro z
    rw [List.all_toArray] at z
    obtain ⟨d, hd, hd2⟩ := hne
    have m : false ∈ fs.map (fun o => o.isSome) := by rw [hf]; exact List.mem_map.mpr ⟨d, hd, hd2⟩
    obtain ⟨o, ho, ho2⟩ := List.mem_map.mp m
    have := List.all_eq_true.mp z o ho
    rw [ho2] at this
    cases this
  rw [if_neg hall]
  have h0 : (fs.toArray[0]?.bind id).isSome = true ↔ ds.head?.map firstO = some true := by
    rw [List.getElem?_toArray]
    cases fs with
    | nil =>
      cases ds with
      | nil => simp
      | cons d ds => cases hf
    | cons o fs =>
      cases ds with
      | nil => cases hf
      | cons d ds =>
        have : o.isSome = firstO d := (List.cons.inj hf).1
        simp only [List.getElem?_cons_zero, Option.bind_some, id, List.head?_cons, Option.map_some, Option.some.injEq]
        rw [this]
  by_cases hh : ds.head?.map firstO = some true
  · rw [if_pos (h0.mpr hh)]
    rw [if_pos hh] at hq
    exact wpAny_pure hq
  · rw [if_neg fun z => hh (h0.mp z)]
    rw [if_neg hh] at hq
    have hT : ∀ v ∈ vs, Looks M s.heap (typeOf v) (Value.type "tuple") := fun v hv => by
      obtain ⟨d, hd, as, r⟩ := e.left v hv
      obtain ⟨xs, rfl⟩ := ht d hd
      exact looks_reads r
    cases vs with
    | nil =>
      cases e
      obtain ⟨d, hd, _⟩ := hne
      cases hd
    | cons v₁ rest =>
      rw [oneTypeOnly'_eq, List.mapM_toArray, map_eq_pure_bind]
      refine wpAny_bind (wpAny_bind (wpAny_bind (kas_mapM (r := Value.type "tuple") _ (fun v hv Q' hq => (hT v hv).here hq) (wpAny_pure ?_))))
      have hall2 : ((List.map (fun _ => Value.type "tuple") (v₁ :: rest)).toArray.all fun x => x == Value.type "tuple") = true := by
        simp only [List.all_toArray, List.all_map, List.all_eq_true]
        intro _ _
        exact beq_self_eq_true _
      have h00 : (List.map (fun _ => Value.type "tuple") (v₁ :: rest)).toArray[0]? = some (Value.type "tuple") := by simp
      rw [h00]
      simp only [hall2, if_true]
      exact wpAny_pure (wpAny_pure hq)
/-- tuples can be sorted, the empty one among them -/
theorem sorts_tups {vs : List Value} {ds : List PyData} (e : EachIs (fun v d => ∃ as, Reads s.heap v d as) vs ds) (hal : AllAlike ds) (ht : ∀ d ∈ ds, ∃ xs, d = .tuple xs) (hu : ∀ d, d ∈ ds → A.units + d.depth < cLine) : SortsAt prog w A s (dataKind s.heap ds) vs := by
  by_cases hne : ∃ d ∈ ds, firstO d = false
  · have room : ∀ {d d' : PyData}, d ∈ ds → A.units + min d.depth d'.depth < cLine := fun {d d'} hd => Nat.lt_of_le_of_lt (Nat.add_le_add_left (Nat.min_le_left _ _) _) (hu d hd)
    refine ⟨fun v hv => ?_, (if (ds.head?.map firstO) = some true then general' else oneType'), ?_, fun h2 E Q hq => tup_kind e ht hne hq⟩
    · obtain ⟨d, hd, as, r⟩ := e.left v hv
      exact ⟨_, dataKind_some hal hd r⟩
    · intro E x y a b Q ha hb hq
      obtain ⟨d, as, hd, ra, rfl⟩ := dataKind_inv ha
      obtain ⟨d', as', hd', rb, rfl⟩ := dataKind_inv hb
      have hdd := hal d hd d' hd'
      have hroom := room (d' := d') hd
      obtain ⟨xs, rfl⟩ := ht d hd
      obtain ⟨ys, rfl⟩ := ht d' hd'
      by_cases hh : ds.head?.map firstO = some true
      · rw [if_pos hh]
        show wpAny (model prog w) A (oneLt' false x y) Q E s
        exact oneLt_alike (fun z => by cases z) ra rb hdd (fun z => by cases z) hroom hq
      · rw [if_neg hh]
        rw [keyLt'_oneType]
        exact oneLt_tup ra rb (by simpa [alike] using hdd) hroom hq
  · refine SortsAt.data e hal (.inl fun d hd => ?_) hu
    obtain ⟨xs, rfl⟩ := ht d hd
    cases xs with
    | nil => exact absurd ⟨_, hd, rfl⟩ hne
    | cons x r => exact ⟨x, r, rfl⟩
end
end Qw
namespace Qw
open PySem PySem.Calls PySem.SeqAt PyProof.Rows PySem.W
/-- a list or a tuple of these -/
def Sq (h : Heap) (l : Addr) (vs : List Value) : Prop := ∃ o n, h.get? l = some o ∧ (o.cls = .type "list" ∨ o.cls = .type "tuple") ∧ o.data = .seq vs.toArray n
section
variable {prog : Program} {w : World} {A : Around} {s : Shared} {E : Value → Shared → Prop} {κ : PyProof.Rows.KeyKind}
theorem collect_sq {l : Addr} {vs : List Value} {Q : List Value → Shared → Prop} (hl : Sq s.heap l vs) (hsz : vs.length ≤ sizeLine)
    (h : Q vs { s with heap := (s.heap.push (seqObj "list" #[] 0)).update s.heap.objs.size (Obj.mapSeq (· ++ vs.toArray)) }) : wpAny (model prog w) A (collect (.ref l)) Q E s := by
  obtain ⟨ob, n, gl, hc, hd⟩ := hl
  have gl' : (s.heap.push (seqObj "list" #[] 0)).get? l = some ob := Heap.get?_push_of_some _ gl
  have new0 : (s.heap.push (seqObj "list" #[] 0)).get? s.heap.objs.size = some (seqObj "list" #[] 0) := Heap.get?_push_size _ rfl
  unfold collect
  refine wpAny_bind (wpAny_runValue (codeAny_builtin entry_proto_collect' ?_))
  refine (show wpAny _ _ (do again (.builtin "list.__iadd__" ⟨[← newList [], .ref l], []⟩)) _ _ s from ?_)
  refine wpAny_bind (wpAny_newList (wpAny_pure ⟨Code.quiet_builtin _ (by decide +kernel), codeAny_builtin entry_list_iadd' ?_⟩))
  refine (show wpAny _ _ (Builtin.List.listExtendWith (.ref s.heap.objs.size) (.ref l) (.ref s.heap.objs.size)) _ _ { s with heap := s.heap.push (seqObj "list" #[] 0) } from ?_)
  unfold Builtin.List.listExtendWith
  have fin : wpAny (model prog w) A (do
      let o ← load s.heap.objs.size
      match o.data with
      | .seq xs _ => pure xs.toList
      | _ => unsupported "internal:collect") Q E { s with heap := (s.heap.push (seqObj "list" #[] 0)).update s.heap.objs.size (Obj.mapSeq (· ++ vs.toArray)) } := by
    refine wpAny_bind (wpAny_load (get?_update_seq new0 _) ?_)
    have e : ((#[] : Array Value) ++ vs.toArray).toList = vs := by simp
    refine (show wpAny _ _ (pure ((#[] : Array Value) ++ vs.toArray).toList) Q E _ from ?_)
    rw [e]
    exact wpAny_pure h
  have up : (#[] ++ vs.toArray : Array Value).size ≤ sizeLine + 1 := by
    simp only [Array.size_append, List.size_toArray, List.length_nil]
    omega
  rcases hc with hc | hc
  · refine wpAny_bind (wpAny_typeOf (T := "list") ⟨ob, gl', hc⟩ ?_)
    rw [if_pos (by rw [show (Value.type "list" == Value.type "list") = true from beq_self_eq_true _]; simp)]
    refine wpAny_bind (listItems_at gl' hd (wpAny_bind (listItems_at (xs := #[]) (n := 0) new0 rfl ?_)))
    rw [if_neg (by simp)]
    exact wpAny_bind (listUpdate_at (xs := #[]) (n := 0) new0 rfl (wpAny_pure fin) (Nat.zero_le _) up)
  · refine wpAny_bind (wpAny_typeOf (T := "tuple") ⟨ob, gl', hc⟩ ?_)
    rw [if_pos (by rw [show (Value.type "tuple" == Value.type "tuple") = true from beq_self_eq_true _]; simp)]
    refine wpAny_bind (listItems_at gl' hd (wpAny_bind (listItems_at (xs := #[]) (n := 0) new0 rfl ?_)))
    rw [if_neg (by simp)]
    exact wpAny_bind (listUpdate_at (xs := #[]) (n := 0) new0 rfl (wpAny_pure fin) (Nat.zero_le _) up)
theorem sorted_sq {l : Addr} {vs : List Value} {Q : Value → Shared → Prop} (hl : Sq s.heap l vs) (S : SortsAt prog w A.in1.in1 { s with heap := sortingHeap (copyHeap s.heap vs) (s.heap.objs.size + 1) vs } κ vs) (hL : vs.length ≤ sizeLine)
    (h : Q (.ref (s.heap.objs.size + 1)) { s with heap := sortedAll s.heap vs (sortVals κ false vs vs).toArray }) : wpAny (model prog w) A (call (.builtin "sorted") [.ref l]) Q E s := by
  refine call_function_entry_kw kind_sorted plain_sorted entry_sorted (args_sorted1 _) ?_
  unfold Builtin.«sorted»
  refine wpAny_bind (m := checkCount "sorted" 1 1 _) (wpAny_pure (wpAny_bind (collect_sq hl hL (wpAny_bind (wpAny_newList ?_ hL)))))
  have big : ((s.heap.push (seqObj "list" #[] 0)).update s.heap.objs.size (Obj.mapSeq (· ++ vs.toArray))).objs.size = s.heap.objs.size + 1 := by rw [Heap.size_update, size_push']
  refine (show wpAny _ _ _ _ _ { s with heap := copyHeap s.heap vs } from ?_)
  rw [big]
  refine wpAny_bind (wpAny_holding (wpAny_call_entry_kw slot_list_sort ⟨_, copyHeap_at s.heap vs, rfl⟩ entry_list_sort ?_ (args_list_sort _)))
  refine (show wpAny (model prog w) A.in1.in1 (Builtin.«list.sort» ⟨[.ref (s.heap.objs.size + 1)], []⟩) _ _ _ from ?_)
  exact list_sort_vals (s := { s with heap := copyHeap s.heap vs }) (copyHeap_at s.heap vs) S hL ⟨_, rfl, wpAny_pure ⟨_, rfl, h⟩⟩
/-- sorted(xs) over data: R is whatever the items stand for -/
theorem sorted_dat {l : Addr} {vs : List Value} {ds : List PyData} {R : Value → PyData → Prop} {Q : Value → Shared → Prop} (hl : Sq s.heap l vs) (e : EachIs R vs ds) (er : EachIs (fun v d => ∃ as, Reads s.heap v d as) vs ds) (hal : AllAlike ds) (hk : (∀ d ∈ ds, ∃ xs, d = .tuple xs) ∨ ∀ d ∈ ds, d ≠ .none ∧ ∀ xs, d ≠ .tuple xs) (hL : ds.length ≤ sizeLine)
    (hu : ∀ d ∈ ds, A.units + 2 + d.depth < cLine) (h : ∀ out, out.length = ds.length → EachIs R out (ds.mergeSort (dataLe false id)) → Q (.ref (s.heap.objs.size + 1)) { s with heap := sortedAll s.heap vs (List.toArray out) }) :
    wpAny (model prog w) A (call (.builtin "sorted") [.ref l]) Q E s := by
  have er' : EachIs (fun v d => ∃ as, Reads (sortingHeap (copyHeap s.heap vs) (s.heap.objs.size + 1) vs) v (id d) as) vs ds := er.mono fun _ _ ⟨as, r⟩ => ⟨as, PyProof.Rows.Reads.keeps (fun _ _ => sorting_copy_old) r⟩
  have S : SortsAt prog w A.in1.in1 { s with heap := sortingHeap (copyHeap s.heap vs) (s.heap.objs.size + 1) vs } (dataKind (sortingHeap (copyHeap s.heap vs) (s.heap.objs.size + 1) vs) (ds.map id)) vs := by
    rw [List.map_id]
    rcases hk with hk | hk
    · exact sorts_tups (s := { s with heap := sortingHeap (copyHeap s.heap vs) (s.heap.objs.size + 1) vs }) er' hal hk hu
    · exact SortsAt.data (s := { s with heap := sortingHeap (copyHeap s.heap vs) (s.heap.objs.size + 1) vs }) er' hal (.inr hk) hu
  exact sorted_sq hl S (by rw [e.length]; exact hL) (h _ (by rw [sortVals_length false rfl]; exact e.length) (sortVals_data false e er' (by rw [List.map_id]; exact hal)))
end
end Qw

set_option Elab.async false
set_option linter.all false
set_option maxRecDepth 100000
set_option maxHeartbeats 4000000
/-! sorted(set(xs)), xs a list of tuples of ints. By an AI agent. -/
namespace Qw
open PySem PySem.Spec PyProof.Rows L2
open PySem.W (EachIs)
/-! ### the order of the keys -/
theorem le_tr (a b c : List Int) (h1 : decide (a ≤ b) = true) (h2 : decide (b ≤ c) = true) : decide (a ≤ c) = true := by
  rw [decide_eq_true_eq] at h1 h2 ⊢
  exact List.le_trans h1 h2
theorem le_tot (a b : List Int) : (decide (a ≤ b) || decide (b ≤ a)) = true := by
  rw [Bool.or_eq_true, decide_eq_true_eq, decide_eq_true_eq]
  exact List.le_total a b
theorem sortK_pw (ks : List (List Int)) : (sortK ks).Pairwise fun a b => decide (a ≤ b) = true := List.pairwise_mergeSort le_tr le_tot ks
theorem sortK_perm (ks : List (List Int)) : (sortK ks).Perm ks := List.mergeSort_perm ks _
theorem sortK_eq {ks js : List (List Int)} (h : ks.Perm js) : sortK ks = sortK js :=
  List.Perm.eq_of_pairwise (le := fun a b => decide (a ≤ b) = true) (fun a b _ _ h1 h2 => List.le_antisymm (of_decide_eq_true h1) (of_decide_eq_true h2)) (sortK_pw ks) (sortK_pw js) ((sortK_perm ks).trans (h.trans (sortK_perm js).symm))
theorem dataLe_K (a b : List Int) : PySem.W.dataLe false id (encK a) (encK b) = decide (a ≤ b) := by
  rw [PySem.W.dataLe_eq]
  show (!PySem.W.dataLt (encK b) (encK a)) = _
  unfold encK
  rw [PySem.W.dataLt_tuple]
  show (!PySem.W.rowLt (b.map .int) (a.map .int)) = _
  rw [PySem.W.dataLt_ints, ← decide_not]
  rfl
theorem sortD_K (ks : List (List Int)) : sortD (ks.map encK) = (sortK ks).map encK := by
  unfold sortD sortK
  exact (List.map_mergeSort fun a _ b _ => (dataLe_K a b).symm).symm
theorem nubK_mem : ∀ {ks : List (List Int)} {k : List Int}, k ∈ nubK ks ↔ k ∈ ks
  | [], k => Iff.rfl
  | j :: ks, k => by
    unfold nubK
    rw [List.mem_cons, List.mem_cons, List.mem_filter, nubK_mem]
    constructor
    · rintro (h | ⟨h, _⟩)
      · exact .inl h
      · exact .inr h
    · intro h
      by_cases e : k = j
      · exact .inl e
      · refine h.elim .inl fun h => .inr ⟨h, ?_⟩
        rw [decide_eq_false e]
        rfl
theorem nubK_nd : ∀ ks : List (List Int), (nubK ks).Nodup
  | [] => List.nodup_nil
  | k :: ks => by
    unfold nubK
    refine List.nodup_cons.mpr ⟨fun h => ?_, (nubK_nd ks).filter _⟩
    have := (List.mem_filter.mp h).2
    rw [decide_eq_true rfl] at this
    cases this
theorem alike_K (a b : List Int) : PySem.W.alike (encK a) (encK b) = true := by
  unfold encK
  simp only [PySem.W.alike]
  exact PySem.W.alike_ints a b
theorem depth_K (a : List Int) : (encK a).depth ≤ 64 := by
  unfold encK
  simp only [PyData.depth, PySem.W.depth_ints]
  omega
theorem perm_back {α β : Type} {f : α → β} {vs us : List β} (h : vs.Perm us) : ∀ L : List α, us = L.map f → ∃ L1 : List α, L1.Perm L ∧ vs = L1.map f := by
  induction h with
  | nil =>
    intro L e
    cases L with
    | nil => exact ⟨[], .nil, rfl⟩
    | cons _ _ => cases e
  | cons x _ ih =>
    intro L e
    cases L with
    | nil => cases e
    | cons y L =>
      obtain ⟨e1, e2⟩ := List.cons.inj e
      obtain ⟨L1, p, q⟩ := ih L e2
      exact ⟨y :: L1, p.cons y, by rw [List.map_cons, e1, q]⟩
  | swap x y l =>
    intro L e
    match L, e with
    | a :: b :: L, e =>
      obtain ⟨e1, e2⟩ := List.cons.inj e
      obtain ⟨e3, e4⟩ := List.cons.inj e2
      exact ⟨b :: a :: L, .swap _ _ _, by rw [List.map_cons, List.map_cons, e1, e3, e4]⟩
  | trans _ _ ih1 ih2 =>
    intro L e
    obtain ⟨L2, p2, q2⟩ := ih2 L e
    obtain ⟨L1, p1, q1⟩ := ih1 L2 q2
    exact ⟨L1, p1.trans p2, q1⟩
section
variable {P : Program} {w : World} {A : Around} {s : Shared} {E : Value → Shared → Prop}
theorem ints_reads {h : Heap} : ∀ {vs : List Value} {k : List Int}, IntsAre vs k → ∃ as, ReadsAll h vs (k.map PyData.int) as
  | _, _, .nil => ⟨_, .nil⟩
  | _, _, .cons _ _ t => by
    obtain ⟨as, r⟩ := ints_reads t
    exact ⟨_, .cons (.int _ _) r⟩
theorem isT_reads {h : Heap} {k : List Int} {b : Addr} (x : IsT P w h k b) : ∃ as, Reads h (.ref b) (encK k) as := by
  obtain ⟨o, its, n, ho, hc, hd, hi⟩ := x
  obtain ⟨as, r⟩ := ints_reads (h := h) (ints_of_items hi)
  exact ⟨_, .tuple ho hc hd r⟩
/-- an entry of the set and its key -/
def Ek (L : List (Addr × List Int)) (u : Value) (d : D) : Prop := ∃ q ∈ L, u = .ref q.1 ∧ d = encK q.2
theorem each_ek {L : List (Addr × List Int)} : ∀ L1 : List (Addr × List Int), (∀ q ∈ L1, q ∈ L) → EachIs (Ek L) (L1.map fun q => Value.ref q.1) (L1.map fun q => encK q.2)
  | [], _ => .nil
  | q :: L1, h => .cons ⟨q, h q List.mem_cons_self, rfl, rfl⟩ (each_ek L1 fun r hr => h r (List.mem_cons_of_mem _ hr))
theorem ek_each {L : List (Addr × List Int)} : ∀ {us : List Value} {ks : List (List Int)}, EachIs (Ek L) us (ks.map encK) → ∃ L' : List (Addr × List Int), us = L'.map (fun q => Value.ref q.1) ∧ L'.map (fun q => encK q.2) = ks.map encK ∧ ∀ q ∈ L', q ∈ L
  | us, [], h => by cases h; exact ⟨[], rfl, rfl, fun q hq => by cases hq⟩
  | us, k :: ks, h => by
    cases h with
    | cons h1 h2 =>
      obtain ⟨q, hq, rfl, e⟩ := h1
      obtain ⟨L', e1, e2, e3⟩ := ek_each h2
      refine ⟨q :: L', by rw [e1]; rfl, by rw [List.map_cons, e2, ← e]; rfl, fun r hr => ?_⟩
      rcases List.mem_cons.mp hr with z | z
      · rw [z]; exact hq
      · exact e3 r z
theorem sorted_setK {a : Addr} {L : List (Addr × List Int)} {es : Array (Int × Value)} {ep : Nat} {t : SetTable} {Q : Value → Shared → Prop} (R : SetTR P w s.heap a L es ep t) (hh : A.handled = none) (hu : A.units + 190 < cLine)
    (hQ : ∀ s' p (out : Array Value) (c : Nat) (L' : List (Addr × List Int)), (∀ b o, s.heap.get? b = some o → s'.heap.get? b = some o) → s'.gens = s.gens → s'.os = s.os → s.heap.objs.size ≤ p → s'.heap.get? p = some (seqObj "list" out c) →
      out.toList = L'.map (fun q => Value.ref q.1) → L'.map (fun q => encK q.2) = (sortK (L.map fun q => q.2)).map encK → (∀ q ∈ L', q ∈ L) → Q (.ref p) s') :
    wpAny (model P w) A (call (.builtin "sorted") [.ref a]) Q E s := by
  obtain ⟨o, ho, hex, hd⟩ := R.ob
  have few := R.few
  have hes : es.toList.map (·.2) = L.map fun q => Value.ref q.1 := by
    rw [R.rows]
    unfold rowsOf
    rw [List.map_map] <;> rfl
  refine Calls.call_function_entry kind_sorted plain_sorted entry_sorted (args_sorted1 _) ?_
  unfold Builtin.«sorted»
  refine wpAny_bind (m := checkCount "sorted" 1 1 _) (wpAny_pure (wpAny_bind (collect_set (A := A.in1) hh ⟨o, ho, hex.1, hd⟩ R.fits (by have := R.size; unfold scanBound; omega) R.tab.ris R.led fun s1 vs k1 hz g1 o1 pm => ?_)))
  rw [hes] at pm
  obtain ⟨L1, p1, e1⟩ := perm_back pm L rfl
  have hvl : vs.length < 64 := by rw [e1, List.length_map, p1.length_eq]; exact few
  have hvz : vs.length ≤ sizeLine := by rw [sizeLine_eq]; omega
  refine wpAny_bind (wpAny_newList ?_ hvz)
  have here : (s1.heap.push (seqObj "list" vs.toArray 0)).get? s1.heap.objs.size = some (seqObj "list" vs.toArray 0) := Heap.get?_push_size _ rfl
  have ek : EachIs (Ek L) vs (L1.map fun q => encK q.2) := by rw [e1]; exact each_ek L1 fun q hq => p1.mem_iff.mp hq
  have old : ∀ b o, s.heap.get? b = some o → (PySem.W.sortingHeap (s1.heap.push (seqObj "list" vs.toArray 0)) s1.heap.objs.size vs).get? b = some o := fun b o e =>
    PySem.W.sortingHeap_old (Nat.ne_of_lt (Heap.lt_size (k1 b o e))) (Heap.get?_push_of_some _ (k1 b o e))
  have rd : EachIs (fun v d => ∃ as, Reads (PySem.W.sortingHeap (s1.heap.push (seqObj "list" vs.toArray 0)) s1.heap.objs.size vs) v (id d) as) vs (L1.map fun q => encK q.2) := ek.mono fun u d ⟨q, hq, eu, ed⟩ => by
    rw [eu, ed]
    exact isT_reads (isT_keep (R.tup q hq) old)
  have al : PySem.W.AllAlike (L1.map fun q => encK q.2) := fun d hd d' hd' => by
    obtain ⟨q, _, rfl⟩ := List.mem_map.mp hd
    obtain ⟨r, _, rfl⟩ := List.mem_map.mp hd'
    exact alike_K _ _
  have srt := sorts_tups (prog := P) (w := w) (A := A.in1.in1) (s := { s1 with heap := PySem.W.sortingHeap (s1.heap.push (seqObj "list" vs.toArray 0)) s1.heap.objs.size vs }) rd al (fun d hd => by
    obtain ⟨q, _, rfl⟩ := List.mem_map.mp hd
    exact ⟨_, rfl⟩) (fun d hd => by
    obtain ⟨q, _, rfl⟩ := List.mem_map.mp hd
    have := depth_K q.2
    show A.units + 1 + 1 + _ < cLine
    omega)
  have fin := PySem.W.sortVals_data (enc := id) false ek rd (by rw [List.map_id]; exact al)
  rw [List.map_id] at fin
  have ed : (L1.map fun q => encK q.2).mergeSort (PySem.W.dataLe false id) = (sortK (L.map fun q => q.2)).map encK := by
    have e2 : (L1.map fun q => encK q.2) = (L1.map fun q => q.2).map encK := by rw [List.map_map]; rfl
    rw [e2]
    show sortD _ = _
    rw [sortD_K, sortK_eq (p1.map _)]
  rw [ed] at fin
  obtain ⟨L', f1, f2, f3⟩ := ek_each fin
  refine wpAny_bind (wpAny_holding (wpAny_call_entry slot_list_sort ⟨_, here, rfl⟩ entry_list_sort (PySem.W.list_sort_vals (s := { s1 with heap := s1.heap.push (seqObj "list" vs.toArray 0) }) here srt hvz ⟨_, rfl, ?_⟩) (args_list_sort _)))
  obtain ⟨c, hc⟩ := sortedHeap_at (vs := vs) (out := (PySem.W.sortVals (PySem.W.dataKind (PySem.W.sortingHeap (s1.heap.push (seqObj "list" vs.toArray 0)) s1.heap.objs.size vs) (L1.map fun q => encK q.2)) false vs vs).toArray) here
  refine wpAny_pure ⟨_, rfl, hQ _ s1.heap.objs.size _ c L' (fun b u e => ?_) g1 o1 hz hc f1 f2 f3⟩
  have q := k1 b u e
  have hlt := Heap.lt_size q
  show (sortedHeap (s1.heap.push (seqObj "list" vs.toArray 0)) s1.heap.objs.size vs _).get? b = some u
  rw [sortedHeap_old (Nat.ne_of_lt hlt) (by rw [size_push']; exact Nat.lt_succ_of_lt hlt)]
  exact Heap.get?_push_of_some _ q
end
end Qw

set_option Elab.async false
set_option linter.all false
set_option maxRecDepth 100000
set_option maxHeartbeats 4000000
/-! sorted, sorted(set(..)), len(set(..)) over data. By an AI agent. -/
namespace Qw
open PySem PySem.Spec PyProof.Rows L2
open PySem.W (EachIs)
section
variable {X : Cx}
/-- what a value of the heap stands for -/
def Vd (K : PySem.W.Frag) (H : Hp) (O : Own) (u : Value) (d : D) : Prop := ∃ v, RelV v u ∧ DR K H O v d
theorem each_vd {K : PySem.W.Frag} {H : Hp} {O : Own} : ∀ {xs : List V} {us : List Value} {ds : List D}, Vals xs us → DRs K H O xs ds → EachIs (Vd K H O) us ds
  | _, _, _, .nil, h => by cases h; exact .nil
  | _, _, _, .cons r t, h => by
    cases h with
    | cons d t2 => exact .cons ⟨_, r, d⟩ (each_vd t t2)
theorem vd_each {K : PySem.W.Frag} {H : Hp} {O : Own} : ∀ {us : List Value} {ds : List D}, EachIs (Vd K H O) us ds → ∃ xs, Vals xs us ∧ DRs K H O xs ds
  | _, _, .nil => ⟨[], .nil, .nil⟩
  | _, _, .cons ⟨v, r, d⟩ t => by
    obtain ⟨xs, h1, h2⟩ := vd_each t
    exact ⟨v :: xs, .cons r h1, .cons d h2⟩
theorem sq_of {pins : List (Addr × Obj)} {s : Shared} {σ : L2.St} {H : Hp} {O : Own} {x : V} {d : D} {ds : List D} (I : Inv X pins σ H s) (hx : DB X.K H O x d) (hi : itemsOf d = .ok ds) : ∃ p xs its, x = .ref p ∧ Sq s.heap p its ∧ Vals xs its ∧ DRs X.K H O xs ds ∧ ds.length ≤ sizeLine := by
  cases d with
  | list es =>
    cases hi
    obtain ⟨p, xs, e1, e2, e3⟩ := hx.lst
    obtain ⟨z, its, n, r, e⟩ := I.hok p _ e2
    exact ⟨p, xs, its, e1, ⟨_, n, e, .inl rfl, rfl⟩, r, e3, by rw [← e3.length]; exact z⟩
  | tuple es =>
    cases hi
    obtain ⟨p, xs, e1, e2, e3⟩ := hx.tup
    obtain ⟨z, its, r, o, h1, h2, n, h3⟩ := I.hok p _ e2
    exact ⟨p, xs, its, e1, ⟨o, n, h1, .inr h2, h3⟩, r, e3, by rw [← e3.length]; exact z⟩
  | _ => cases hi
theorem each_of {α β : Type} {R : α → β → Prop} {R' : α → β → Prop} : ∀ {as : List α} {bs : List β}, EachIs R as bs → (∀ a b, b ∈ bs → R a b → R' a b) → EachIs R' as bs
  | _, _, .nil, _ => .nil
  | _, _, .cons h t, f => .cons (f _ _ List.mem_cons_self h) (each_of t fun a b hb => f a b (List.mem_cons_of_mem _ hb))
theorem sortOk_of {ds : List D} (h : sortOk ds = true) : PySem.W.AllAlike ds ∧ (∀ d ∈ ds, d.depth ≤ 64) ∧ ((∀ d ∈ ds, ∃ xs, d = .tuple xs) ∨ ∀ d ∈ ds, d ≠ .none ∧ ∀ xs, d ≠ .tuple xs) := by
  unfold sortOk at h
  simp only [Bool.and_eq_true, Bool.or_eq_true, List.all_eq_true, decide_eq_true_eq] at h
  obtain ⟨h1, h2⟩ := h
  refine ⟨fun d hd e he => (h1 d hd).1 e he, fun d hd => (h1 d hd).2, ?_⟩
  rcases h2 with h2 | h2
  · refine .inl fun d hd => ?_
    have := h2 d hd
    cases d with
    | tuple xs => exact ⟨xs, rfl⟩
    | _ => cases this
  · refine .inr fun d hd => ?_
    have := h2 d hd
    exact ⟨fun z => (by subst z; cases this), fun xs z => (by subst z; cases this)⟩
theorem cr_dsorted (hc : X.calm = true) (hu : X.A.units + 200 < cLine) : CallR X (.builtin "sorted") (rC1N X dSorted) := by
  intro pins s σ H xs us Q I r ⟨O, x, d, ex, dm, hx, h⟩
  subst ex
  cases hi : itemsOf d with
  | bad => unfold dSorted at h; rw [hi] at h; exact h.elim
  | err e => unfold dSorted at h; rw [hi] at h; exact h.elim
  | ok ds =>
    have hd : dSorted d = if sortOk ds then .ok (.list (sortD ds)) else .bad := by unfold dSorted; rw [hi]; rfl
    rw [hd] at h
    by_cases ho : sortOk ds = true
    · rw [if_pos ho] at h
      obtain ⟨p, ys, its, e1, e2, e3, e4, e5⟩ := sq_of I hx hi
      subst e1
      rw [Vals.ref1 r]
      obtain ⟨o1, o2, o3⟩ := sortOk_of ho
      have ev := each_vd e3 e4
      refine sorted_dat e2 ev (each_of ev fun u d hd ⟨v, h1, h2⟩ => Dp.reads I d v u (DR.dp d v h2 (plain_of_alike d (o1 d hd d hd))) h1) o1 o3 e5 (fun d hd => ?_) fun out hl eo => ?_
      · have := o2 d hd
        omega
      · obtain ⟨zs, z1, z2⟩ := vd_each eo
        have fr : H (s.heap.objs.size + 1) = none := I.hok.fresh (Nat.le_succ _)
        obtain ⟨ep, he'⟩ := PyProof.Rows.sortedAll_at s.heap its out.toArray
        have hlen : zs.length ≤ sizeLine := by rw [z1.length, hl]; exact e5
        refine ⟨.ref _, upd H (s.heap.objs.size + 1) (.lst zs), I.laid (t' := s.toks) (fun _ _ => PyProof.Rows.sortedAll_old) (Nat.le_succ _) ⟨hlen, out, ep, z1, he'⟩, rfl, ?_⟩
        exact h _ _ (same_new fr) (newL dm fr z2) (NewL.of (Same.refl H) fr z2)
    · rw [if_neg ho] at h
      exact h.elim
/-- sorted(set), tuples of ints -/
def rSortK (X : Cx) : List V → Hp → VK → Prop := fun vs H Q => ∃ (a : Addr) (L : List (Addr × List Int)), vs = [V.ref a] ∧ H a = some (SetTO X.prog X.w a L) ∧ (∀ p ∈ L, SqT X.K H p.1 (p.2.map V.int)) ∧
  ∀ (L' : List (Addr × List Int)) (p : Addr), L'.map (fun q => encK q.2) = (sortK (L.map fun q => q.2)).map encK → (L.map fun q => q.2).Nodup → (∀ q ∈ L', q ∈ L) → H p = none → Q (.ref p) (upd H p (.lst (L'.map fun q => V.ref q.1)))
theorem cr_sortK (hc : X.calm = true) (hu : X.A.units + 200 < cLine) : CallR X (.builtin "sorted") (rSortK X) := by
  intro pins s σ H vs us Q I r ⟨a, L, ev, ha, hk, q⟩
  subst ev
  have R0 : SetT0 X.prog X.w s.heap a L := (I.hok a _ ha).1
  obtain ⟨es, ep, t, R⟩ := R0.full fun p hp => I.isT (hk p hp)
  rw [Vals.ref1 r]
  refine sorted_setK R (I.ok.hd hc) (by omega) fun s' p out c L' k g o hp hg hout e1 e2 => ?_
  have len : L'.length < 64 := by
    have z := congrArg List.length e1
    rw [List.length_map, List.length_map, (sortK_perm _).length_eq, List.length_map] at z
    rw [z]
    exact R.few
  have hlen : (L'.map fun q => V.ref q.1).length ≤ sizeLine := by rw [List.length_map, sizeLine_eq]; omega
  have hn : H p = none := I.hok.fresh hp
  have J : Inv X pins σ (upd H p (.lst (L'.map fun q => V.ref q.1))) { s with heap := s'.heap, gens := s'.gens, drawn := s'.drawn, toks := s'.toks } :=
    I.call (ch := []) (Un.laid k hp hn) (I.hok.laid k hp ⟨hlen, out.toList, c, by rw [hout]; exact vals_of_refs L', hg⟩) (by rw [g]; exact I.bare) (fun _ z => nomatch z)
  have e : s' = { s with heap := s'.heap, gens := s'.gens, drawn := s'.drawn, toks := s'.toks } := by
    obtain ⟨h1, h2, h3, h4, h5⟩ := s'
    obtain ⟨k1, k2, k3, k4, k5⟩ := s
    cases o
    rfl
  rw [e]
  exact ⟨.ref p, _, J, rfl, q L' p e1 R.nd e2 hn⟩
/-- a list of tuples of ints, by addresses -/
theorem tups_at {H : Hp} {O : Own} : ∀ {xs : List V} {ds : List D} {ks : List (List Int)}, DRs X.K H O xs ds → tupsK ds = some ks → ∃ L : List (Addr × List Int), xs = L.map (fun p => V.ref p.1) ∧ L.map (fun p => p.2) = ks ∧ ∀ p ∈ L, ¬ O p.1 ∧ H p.1 = some (.tup (p.2.map V.int))
  | [], [], ks, _, h => by cases h; exact ⟨[], rfl, rfl, fun p hp => by cases hp⟩
  | [], _ :: _, _, h, _ => by cases h
  | _ :: _, [], _, h, _ => by cases h
  | x :: xs, d :: ds, ks, h, hk => by
    cases h with
    | cons h1 h2 =>
      unfold tupsK at hk
      cases e1 : tupK d with
      | none => rw [e1] at hk; cases hk
      | some k =>
        cases e2 : tupsK ds with
        | none => rw [e1, e2] at hk; cases hk
        | some ks' =>
          rw [e1, e2] at hk
          cases hk
          obtain ⟨L, l1, l2, l3⟩ := tups_at h2 e2
          cases d with
          | tuple es =>
            cases h1 with
            | tup n hp dr =>
              have := dr.ints (show intsOf es = some k from e1)
              subst this
              refine ⟨(_, k) :: L, by rw [l1]; rfl, by rw [List.map_cons, l2], fun p hp' => ?_⟩
              rcases List.mem_cons.mp hp' with z | z
              · subst z; exact ⟨n, hp⟩
              · exact l3 p z
          | _ => cases e1
theorem drs_at {H : Hp} {O : Own} : ∀ {L : List (Addr × List Int)}, (∀ p ∈ L, ¬ O p.1 ∧ H p.1 = some (.tup (p.2.map V.int))) → DRs X.K H O (L.map fun p => V.ref p.1) (L.map fun p => encK p.2)
  | [], _ => .nil
  | p :: L, h => .cons (.tup (h p List.mem_cons_self).1 (h p List.mem_cons_self).2 (DRs.of_ints _)) (drs_at fun q hq => h q (List.mem_cons_of_mem _ hq))
theorem PE.mono {e : Expr} {te : TE} (h : PE X e te) : PE X e (fun σ H Q => ∃ Q' : VK, te σ H Q' ∧ ∀ v H', Q' v H' → Q v H') := ⟨fun pins s σ H Q I ⟨Q', h1, h2⟩ =>
  thn (h.run pins s σ H Q' I h1) fun u s' ⟨v, H', I', r, k⟩ => ⟨v, H', I', r, h2 v H' k⟩⟩
theorem CallR.either {f : Value} {r1 r2 : List V → Hp → VK → Prop} (h1 : CallR X f r1) (h2 : CallR X f r2) : CallR X f (fun xs H Q => r1 xs H Q ∨ r2 xs H Q) := fun pins s σ H xs us Q I r h =>
  h.elim (fun z => h1 pins s σ H xs us Q I r z) fun z => h2 pins s σ H xs us Q I r z
/-- set(t), t a tuple of ints -/
def rSetTI (K : PySem.W.Frag) (w : World) : List V → Hp → VK → Prop := fun xs H Q => ∃ (p : Addr) (ns : List Int), xs = [V.ref p] ∧ SqT K H p (ns.map V.int) ∧ ns.length < 64 ∧
  ∀ a c, H a = none → c ≤ ns.length → Q (.ref a) (upd H a (SetO w a (fun j => decide (j ∈ ns)) c))
theorem cr_setTI (hc : X.calm = true) : CallR X (.type "set") (rSetTI X.K X.w) := by
  intro pins s σ H xs us Q I r h
  obtain ⟨p, ns, rfl, hq, hl, q⟩ := h
  cases r with
  | cons r rr =>
    cases rr
    cases r
    obtain ⟨its, rv, pt, hz⟩ := I.tuple hq
    refine call_set_tupI ns (I.ok.hd hc) (show s.heap.IsTuple p its.toArray from pt) (ints_of_vals rv) (by unfold scanBound; omega) fun h' tk c R1 hcn k => ?_
    exact ⟨.ref _, _, I.laid (t' := tk) k (Nat.le_refl _) (setO_new R1), rfl, q _ c (I.hok.fresh (Nat.le_refl _)) hcn⟩
theorem sortI_perm' (l : List Int) : (sortI l).Perm l := List.mergeSort_perm l _
theorem nubI_mem : ∀ {ks : List Int} {k : Int}, k ∈ nubI ks ↔ k ∈ ks
  | [], k => Iff.rfl
  | j :: ks, k => by
    unfold nubI
    rw [List.mem_cons, List.mem_cons, List.mem_filter, nubI_mem]
    by_cases e : k = j <;> simp [e]
theorem nubI_nd : ∀ ks : List Int, (nubI ks).Nodup
  | [] => List.nodup_nil
  | j :: ks => by
    unfold nubI
    refine List.nodup_cons.mpr ⟨fun z => ?_, (nubI_nd ks).filter _⟩
    have := (List.mem_filter.mp z).2
    simp at this
theorem inc_eq : ∀ {a b : List Int}, a.Pairwise (· < ·) → b.Pairwise (· < ·) → (∀ x, x ∈ a ↔ x ∈ b) → a = b := by
  intro a b ha hb h
  have na : a.Nodup := ha.imp fun z => by omega
  have nb : b.Nodup := hb.imp fun z => by omega
  have p : a.Perm b := (List.perm_ext_iff_of_nodup na nb).mpr h
  exact p.eq_of_pairwise (le := fun x y => x < y) (fun x y _ _ h1 h2 => by omega) ha hb
theorem sortI_lt {l : List Int} (h : l.Nodup) : (sortI l).Pairwise (· < ·) := by
  have h1 : (sortI l).Pairwise fun a b => decide (a ≤ b) = true := List.pairwise_mergeSort (fun a b c h1 h2 => by simp at *; omega) (fun a b => by simp; omega) l
  have h2 : (sortI l).Nodup := (sortI_perm' l).nodup_iff.mpr h
  exact (h1.and h2).imp fun {a b} z => by
    have := of_decide_eq_true z.1
    have := z.2
    omega
/-- sorted(set(e)) -/
theorem pe_sortset {x : Expr} {te : TE} {p p2 pos pos2 : Pos} (hc : X.calm = true) (hu : X.A.units + 200 < cLine) (hg : Gl X "sorted") (hm : X.mg "sorted" = none) (hg2 : Gl X "set") (hm2 : X.mg "set" = none) (hx : plainX x = true) (he : PE X x te) :
    PE X (.Call (.Name "sorted" p) [.Call (.Name "set" p2) [x] [] pos2] [] pos) (fun σ H Q => te σ H fun v H1 => ∃ O d, Dom O H1 ∧ DB X.K H1 O v d ∧ rdV X H1 O (dSortSet d) Q) := by
  have hs : starEach [x] X.env = [(false, eval x X.env)] := by cases x <;> first | rfl | cases hx
  have inner : PE X (.Call (.Name "set" p2) [x] [] pos2) (tCB (fun xs H Q => rSetOfT X.K X.prog X.w xs H Q ∨ rSetTI X.K X.w xs H Q) (tCons (fun σ H Q => ∃ Q' : VK, te σ H Q' ∧ ∀ v H', Q' v H' → Q v H') tNil)) := pe_callTy (CallR.either (cr_setOfT hc (by omega)) (cr_setTI hc)) hg2 hm2 PyProof.Rows.boot_set (pa_cons (PE.mono he) pa_nil hs) (by decide) (by decide) hs rfl
  refine PE.weak (pe_callB (CallR.either (cr_sortK hc hu) (cr_sortedSet hc)) hg hm PyProof.Rows.boot_sorted (pa_cons inner pa_nil)) fun σ H Q q => ?_
  refine ⟨_, q, fun v H1 ⟨O, d, dm, db, h⟩ => ?_⟩
  cases d with
  | tuple ds =>
    have h : rdV X H1 O (match intsOf ds with | some ns => if ns.length < 64 then R.ok (PyData.list ((sortI (nubI ns)).map PyData.int)) else .bad | none => .bad) Q := h
    cases hk : intsOf ds with
    | none => rw [hk] at h; exact h.elim
    | some ns =>
      rw [hk] at h
      obtain ⟨hl, h⟩ := rdV_if h
      obtain ⟨l, xs, e1, e2, e3⟩ := db.tup
      have := e3.ints hk
      subst e1 this
      refine .inr ⟨l, ns, rfl, SqT.of e2, hl, fun a c ha hcn => .inr ⟨a, _, c, rfl, upd_same, by omega, fun os p f1 f2 f3 hp => ?_⟩⟩
      have eo : os = sortI (nubI ns) := inc_eq f1 (sortI_lt (nubI_nd ns)) fun k => by
        rw [f2, decide_eq_true_eq, (sortI_perm' _).mem_iff, nubI_mem]
      rw [eo]
      have s1 : Same H1 (upd H1 a (SetO X.w a (fun j => decide (j ∈ ns)) c)) := same_new ha
      exact h _ _ (s1.trans (same_new hp)) (newL (dm.same s1) hp (DRs.of_ints _))
  | list ds =>
    have h : rdV X H1 O (match tupsK ds with | some ks => if ks.length < 64 then R.ok (PyData.list ((sortK (nubK ks)).map encK)) else .bad | none => .bad) Q := h
    cases hk : tupsK ds with
    | none => rw [hk] at h; exact h.elim
    | some ks =>
      rw [hk] at h
      obtain ⟨hl, h⟩ := rdV_if h
      obtain ⟨l, xs, e1, e2, e3⟩ := db.lst
      obtain ⟨L, l1, l2, l3⟩ := tups_at e3 hk
      subst e1 l1
      refine .inl ⟨l, L, rfl, SqL.of e2, fun p hp => SqT.of (l3 p hp).2, by rw [← l2, List.length_map] at hl; exact hl, fun a M ha m1 m2 => ?_⟩
      have hM : ∀ p ∈ M, ¬ O p.1 ∧ upd H1 a (SetTO X.prog X.w a M) p.1 = some (.tup (p.2.map V.int)) := fun p hp => ⟨(l3 p (m1 p hp)).1, by
        rw [upd_ne (ne_of_none (l3 p (m1 p hp)).2 ha)]
        exact (l3 p (m1 p hp)).2⟩
      refine .inl ⟨a, M, rfl, upd_same, fun p hp => SqT.of (hM p hp).2, fun L' p f1 f2 f3 hp => ?_⟩
      have ke : (sortK (M.map fun q => q.2)) = sortK (nubK ks) := by
        refine sortK_eq ((List.perm_ext_iff_of_nodup f2 (nubK_nd ks)).mpr fun k => ?_)
        rw [nubK_mem, ← l2]
        constructor
        · intro z
          obtain ⟨q, hq, e⟩ := List.mem_map.mp z
          exact List.mem_map.mpr ⟨q, m1 q hq, e⟩
        · intro z
          obtain ⟨q, hq, e⟩ := List.mem_map.mp z
          rw [← e]
          exact m2 q hq
      rw [ke] at f1
      have s1 : Same H1 (upd H1 a (SetTO X.prog X.w a M)) := same_new ha
      have dr := drs_at (X := X) (L := L') fun q hq => hM q (f3 q hq)
      rw [f1] at dr
      exact h _ _ (s1.trans (same_new hp)) (newL (dm.same s1) hp dr)
  | _ => exact h.elim
/-- len(set(e)): not served yet -/
theorem pe_lenset {x : Expr} {te : TE} {p p2 pos pos2 : Pos} (hc : X.calm = true) (hu : X.A.units + 200 < cLine) (hg : Gl X "len") (hm : X.mg "len" = none) (hg2 : Gl X "set") (hm2 : X.mg "set" = none) (hx : plainX x = true) (he : PE X x te) :
    PE X (.Call (.Name "len" p) [.Call (.Name "set" p2) [x] [] pos2] [] pos) (fun σ H Q => te σ H fun v H1 => ∃ O d, Dom O H1 ∧ DB X.K H1 O v d ∧ rdV X H1 O (dLenSet d) Q) := by
  have hs : starEach [x] X.env = [(false, eval x X.env)] := by cases x <;> first | rfl | cases hx
  have inner : PE X (.Call (.Name "set" p2) [x] [] pos2) (tCB (fun _ _ _ => False) (tCons (fun σ H Q => ∃ Q' : VK, te σ H Q' ∧ ∀ v H', Q' v H' → Q v H') tNil)) :=
    pe_callTy (fun pins s σ H xs us Q I r h => h.elim) hg2 hm2 PyProof.Rows.boot_set (pa_cons (PE.mono he) pa_nil hs) (by decide) (by decide) hs rfl
  refine PE.weak (pe_callB (r := fun _ _ _ => False) (fun pins s σ H xs us Q I r h => h.elim) hg hm PySem.boot_len (pa_cons inner pa_nil)) fun σ H Q q => ?_
  exact ⟨_, q, fun v H1 ⟨O, d, dm, db, h⟩ => h⟩
end
end Qw

set_option Elab.async false
set_option linter.all false
set_option maxRecDepth 100000
set_option maxHeartbeats 4000000
/-! Slices, displays, calls. By an AI agent. -/
namespace Qw
open PySem PySem.Spec PyProof.Rows L2
section
variable (fns : List Fn) (consts : List (Str × D)) (k : Nat)
def rdO (X : Cx) (W : WT) (σ : L2.St) (H : Hp) (r : R (Option Int)) (Q : Option Int → Hp → Prop) : Prop := match r with
  | .ok o => ∀ H', Same H H' → Q o H'
  | .err x => ∀ H', Same H H' → ErrOk X.mg (fun c d H'' => W.w c d σ H'') x H'
  | .bad => False
def tOp' (X : Cx) (W : WT) (e : Eo) : TO := fun σ H Q => ∃ O ρ, RelE X.K W.t H O σ ρ ∧ rdO X W σ H (evEo (evFn fns k) ρ e) Q
def SO (e : Eo) : Prop := ∀ (X : Cx) (W : WT) (x : Option Expr), Gd fns consts k X W → mEo fns consts X.N X.env.scope e x = true → PO X x (tOp' fns k X W e)
def tAs (X : Cx) (W : WT) (es : Es) : TA := fun σ H Q => ∃ O ρ, RelE X.K W.t H O σ ρ ∧ rdA X W O σ H (evEs (evFn fns k) ρ es) Q
def SAs (es : Es) : Prop := ∀ (X : Cx) (W : WT) (xs : List Expr), Gd fns consts k X W → mEs fns consts X.N X.env.scope es xs = true → PA X xs (tAs fns k X W es)
def rdAb (X : Cx) (W : WT) (O : Own) (σ : L2.St) (H : Hp) (o : Bool) (r : R (List D)) (Q : List V → Hp → Prop) : Prop := match r with
  | .ok ds => ∀ vs H', Same H H' → Paired (DB X.K H' O) vs ds → (o = false → DRs X.K H' O vs ds) → Q vs H'
  | .err x => ∀ H', Same H H' → ErrOk X.mg (fun c d H'' => W.w c d σ H'') x H'
  | .bad => False
def tAb (X : Cx) (W : WT) (es : Es) : TA := fun σ H Q => ∃ O ρ, RelE X.K W.t H O σ ρ ∧ rdAb X W O σ H (anyOwn ρ es) (evEsB (evFn fns k) ρ es) Q
def SAb (es : Es) : Prop := ∀ (X : Cx) (W : WT) (xs : List Expr), Gd fns consts k X W → mEs fns consts X.N X.env.scope es xs = true → PA X xs (tAb fns k X W es)
end
section
variable {fns : List Fn} {consts : List (Str × D)} {k : Nat}
theorem PO.weak {X : Cx} {e : Option Expr} {t t' : TO} (h : PO X e t) (m : ∀ σ H Q, t' σ H Q → t σ H Q) : PO X e t' := ⟨fun pins s σ H Q I q => h.run pins s σ H Q I (m σ H Q q)⟩
theorem PA.weak {X : Cx} {es : List Expr} {t t' : TA} (h : PA X es t) (m : ∀ σ H Q, t' σ H Q → t σ H Q) : PA X es t' := ⟨fun pos pins s σ H Q I q => h.run pos pins s σ H Q I (m σ H Q q)⟩
theorem so_none : SO fns consts k .none := by
  intro X W x g m
  unfold mEo at m
  cases x with
  | none => exact PO.weak po_none fun σ H Q ⟨O, ρ, r, q⟩ => q H (Same.refl H)
  | some _ => cases m
theorem so_some {e : E} (he : SE fns consts k e) : SO fns consts k (.some e) := by
  intro X W x g m
  unfold mEo at m
  cases x with
  | none => cases m
  | some y =>
    refine PO.weak (po_some (he X W y g m)) fun σ H Q ⟨O, ρ, r, q⟩ => ⟨O, ρ, r, ?_⟩
    have q : rdO X W σ H (intO (ev fns k ρ e)) Q := q
    revert q
    generalize ev fns k ρ e = z
    intro q
    cases z with
    | bad => exact q.elim
    | err x => exact q
    | ok d =>
      cases d with
      | int i =>
        intro v H' s z dr _
        cases dr
        exact ⟨i, rfl, q H' s⟩
      | _ => exact q.elim
theorem s_cut {a : E} {lo hi : Eo} (ha : SE fns consts k a) (hl : SO fns consts k lo) (hh : SO fns consts k hi) : SE fns consts k (.cut a lo hi) := by
  intro X W x g m
  obtain ⟨p, l, h, p2, pos, rfl, h1, h2, h3⟩ := m_cut m
  refine fin (pe_slice sl_d (SBo.of ha X W p g h1) (hl X W l g h2) (hh X W h g h3)) fun σ H Q O ρ z r q => ⟨O, ρ, r, rdB_of q fun d v H1 _ s1 z1 db q1 => ⟨O, ρ, r.same s1, ?_⟩⟩
  cases hlo : evEo (evFn fns k) ρ lo with
  | bad => rw [hlo] at q1; exact q1.elim
  | err x => rw [hlo] at q1; exact q1
  | ok l' =>
    rw [hlo] at q1
    intro H2 s2
    refine ⟨O, ρ, (r.same s1).same s2, ?_⟩
    have q1 : rdE X W O σ H1 false ((evEo (evFn fns k) ρ hi).bind fun h => dCut d l' h) Q := q1
    cases hhi : evEo (evFn fns k) ρ hi with
    | bad => rw [hhi] at q1; exact q1.elim
    | err x => rw [hhi] at q1; exact q1.later s2
    | ok h' =>
      rw [hhi] at q1
      exact fun H3 s3 => ⟨O, d, (((r.same s1).same s2).same s3).dom, (db.same s2).same s3, rdV_of (noerr_dcut _ _ _) ((q1.later s2).later s3)⟩
/-! ### argument lists -/
theorem sas_nil : SAs fns consts k .nil := by
  intro X W xs g m
  unfold mEs at m
  rw [isNil_of m]
  exact PA.weak pa_nil fun σ H Q ⟨O, ρ, r, q⟩ => q [] H (Same.refl H) .nil
theorem sas_cons {e : E} {es : Es} (he : SE fns consts k e) (hes : SAs fns consts k es) : SAs fns consts k (.cons e es) := by
  intro X W xs g m
  unfold mEs at m
  cases xs with
  | nil => cases m
  | cons x xs =>
    simp only [Bool.and_eq_true] at m
    obtain ⟨⟨h1, h2⟩, h3⟩ := m
    refine PA.weak (pa_cons (he X W x g h2) (hes X W xs g h3) (star_plain h1)) fun σ H Q ⟨O, ρ, r, q⟩ => ⟨O, ρ, r, ?_⟩
    have q : rdA X W O σ H ((ev fns k ρ e).bind fun d => (evEs (evFn fns k) ρ es).bind fun ds => .ok (d :: ds)) Q := q
    revert q
    generalize ev fns k ρ e = z
    intro q
    cases z with
    | bad => exact q.elim
    | err x => exact q
    | ok d =>
      intro v H1 s1 z1 dr _
      refine ⟨O, ρ, r.same s1, ?_⟩
      have q : rdA X W O σ H ((evEs (evFn fns k) ρ es).bind fun ds => .ok (d :: ds)) Q := q
      revert q
      generalize evEs (evFn fns k) ρ es = z
      intro q
      cases z with
      | bad => exact q.elim
      | err x => exact fun H' s' => q H' (s1.trans s')
      | ok ds => exact fun vs H2 s2 drs => q (v :: vs) H2 (s1.trans s2) (.cons (dr.same s2) drs)
theorem sab_nil : SAb fns consts k .nil := by
  intro X W xs g m
  unfold mEs at m
  rw [isNil_of m]
  exact PA.weak pa_nil fun σ H Q ⟨O, ρ, r, q⟩ => q [] H (Same.refl H) .nil fun _ => .nil
theorem paired_mono {α β : Type} {R S : α → β → Prop} (h : ∀ a b, R a b → S a b) : ∀ {as : List α} {bs : List β}, Paired R as bs → Paired S as bs
  | _, _, .nil => .nil
  | _, _, .cons r t => .cons (h _ _ r) (paired_mono h t)
theorem sab_cons {e : E} {es : Es} (he : SE fns consts k e) (hes : SAb fns consts k es) : SAb fns consts k (.cons e es) := by
  intro X W xs g m
  unfold mEs at m
  cases xs with
  | nil => cases m
  | cons x xs =>
    simp only [Bool.and_eq_true] at m
    obtain ⟨⟨h1, h2⟩, h3⟩ := m
    refine PA.weak (pa_cons (SBo.of he X W x g h2) (hes X W xs g h3) (star_plain h1)) fun σ H Q ⟨O, ρ, r, q⟩ => ⟨O, ρ, r, ?_⟩
    have q : rdAb X W O σ H (isOwn ρ e || anyOwn ρ es) ((evb fns k ρ e).bind fun d => (evEsB (evFn fns k) ρ es).bind fun ds => .ok (d :: ds)) Q := q
    revert q
    generalize evb fns k ρ e = z
    intro q
    cases z with
    | bad => exact q.elim
    | err x => exact q
    | ok d =>
      intro v H1 s1 z1 db dr
      refine ⟨O, ρ, r.same s1, ?_⟩
      have q : rdAb X W O σ H (isOwn ρ e || anyOwn ρ es) ((evEsB (evFn fns k) ρ es).bind fun ds => .ok (d :: ds)) Q := q
      revert q
      generalize evEsB (evFn fns k) ρ es = z
      intro q
      cases z with
      | bad => exact q.elim
      | err x => exact fun H' s' => q H' (s1.trans s')
      | ok ds =>
        refine fun vs H2 s2 drs drs' => q (v :: vs) H2 (s1.trans s2) (.cons (db.same s2) drs) fun h => ?_
        have h : isOwn ρ e = false ∧ anyOwn ρ es = false := by simpa using h
        exact .cons ((dr h.1).same s2) (drs' h.2)
theorem evEs_len {call : Nat → List D → R D} {ρ : Env} : ∀ {es : Es} {ds : List D}, evEs call ρ es = .ok ds → ds.length = esLen es
  | .nil, ds, h => by
    unfold evEs at h
    cases h
    rfl
  | .cons e es, ds, h => by
    unfold evEs at h
    cases h1 : evE call ρ e with
    | bad => rw [h1] at h; cases h
    | err x => rw [h1] at h; cases h
    | ok d =>
      rw [h1] at h
      have h : (evEs call ρ es).bind (fun ds => R.ok (d :: ds)) = .ok ds := h
      cases h2 : evEs call ρ es with
      | bad => rw [h2] at h; cases h
      | err x => rw [h2] at h; cases h
      | ok rs =>
        rw [h2] at h
        cases h
        rw [List.length_cons, evEs_len h2]
        rfl
theorem s_tup {es : Es} (hes : SAs fns consts k es) : SE fns consts k (.tup es) := by
  intro X W x g m
  obtain ⟨xs, j, pos, rfl, h1, h2⟩ := m_tup m
  refine fin (pe_tup (hes X W xs g h1)) fun σ H Q O ρ z r q => ⟨O, ρ, r, ?_⟩
  have q : rdE X W O σ H false ((evEs (evFn fns k) ρ es).bind fun ds => .ok (.tuple ds)) Q := q
  cases hz : evEs (evFn fns k) ρ es with
  | bad => rw [hz] at q; exact q.elim
  | err x => rw [hz] at q; exact q
  | ok ds =>
    rw [hz] at q
    refine fun vs H1 s1 drs => ⟨?_, fun p hp z1 => ?_⟩
    · rw [drs.length, evEs_len hz]
      exact Nat.le_trans h2 (by decide)
    · exact q _ _ (s1.trans (same_new hp)) z1 (newT (r.same s1).dom hp drs) fun h => by cases h
theorem s_lst {es : Es} (hes : SAs fns consts k es) : SE fns consts k (.lst es) := by
  intro X W x g m
  obtain ⟨xs, pos, rfl, h1, h2⟩ := m_lst m
  refine fin (pe_lst (hes X W xs g h1)) fun σ H Q O ρ z r q => ⟨O, ρ, r, ?_⟩
  have q : rdE X W O σ H true ((evEs (evFn fns k) ρ es).bind fun ds => .ok (.list ds)) Q := q
  cases hz : evEs (evFn fns k) ρ es with
  | bad => rw [hz] at q; exact q.elim
  | err x => rw [hz] at q; exact q
  | ok ds =>
    rw [hz] at q
    refine fun vs H1 s1 drs => ⟨?_, fun p hp z1 => ?_⟩
    · rw [drs.length, evEs_len hz]
      exact Nat.le_trans h2 (by decide)
    · exact q _ _ (s1.trans (same_new hp)) z1 (newL (r.same s1).dom hp drs) fun _ => NewL.of s1 hp drs
/-! ### a def's call -/
theorem paired_free {K : PySem.W.Frag} {H : Hp} {O : Own} : ∀ {vs : List V} {ds : List D}, Paired (DB K H O) vs ds → DRs K H (fun _ => False) vs ds
  | _, _, .nil => .nil
  | _, _, .cons r t => .cons (DB.free r) (paired_free t)
theorem s_call {f : Nat} {es : Es} (hes : SAb fns consts k es) : SE fns consts k (.call f es) := by
  intro X W x g m
  obtain ⟨F, p, pos, a, rest, hF, rfl, h1, h2, h3⟩ := m_call m
  obtain ⟨ad, fd, e1, e2, e3, e4⟩ := g.fn f F hF
  have hp := mEs_plain h3
  have hp' : plainX a = true ∧ rest.all plainX = true := by simpa using hp
  have hcalm : (!isNil fns) = true := by
    cases fns with
    | nil => cases hF
    | cons _ _ => rfl
  refine fin (pe_callS e4 (g.room hcalm) (gl_of h1) e1 e2 e3 (fun σ => passAt g.takes σ) (hes X W _ g h3) h2 (star_plain hp'.1) (any_plain hp'.2)) fun σ H Q O ρ z r q => ⟨O, ρ, r, ?_⟩
  have q : rdE X W O σ H false ((evEsB (evFn fns k) ρ es).bind fun ds => (evFn fns k f ds).bind fun r => if flatD r || !anyOwn ρ es then .ok r else .bad) Q := q
  cases hz : evEsB (evFn fns k) ρ es with
  | bad => rw [hz] at q; exact q.elim
  | err x => rw [hz] at q; exact q
  | ok ds =>
    rw [hz] at q
    have q : rdE X W O σ H false ((evFn fns k f ds).bind fun r => if flatD r || !anyOwn ρ es then .ok r else .bad) Q := q
    intro vs H1 s1 pd drs
    have hlen : ds.length = F.params.length := by
      cases k with
      | zero => exact q.elim
      | succ k' =>
        by_cases hl : ds.length = F.params.length
        · exact hl
        · exfalso
          have : evFn fns (k' + 1) f ds = .bad := by
            unfold evFn
            rw [hF]
            dsimp only
            rw [if_neg hl]
          rw [this] at q
          exact q
    by_cases ho : anyOwn ρ es = true
    · refine ⟨fun _ => False, ds, fun a h => h.elim, ?_, ⟨F, hF, hlen⟩, ?_⟩
      · exact paired_free pd
      · cases hv : evFn fns k f ds with
        | bad => rw [hv] at q; exact q.elim
        | err x => rw [hv] at q; exact fun H' s' => q H' (s1.trans s')
        | ok d =>
          rw [hv] at q
          have q : rdE X W O σ H false (if flatD d || !anyOwn ρ es then .ok d else .bad) Q := q
          rw [ho] at q
          by_cases hfl : flatD d = true
          · rw [hfl] at q
            exact fun v H2 s2 dr z2 => q v H2 (s1.trans s2) z2 (dr.flat hfl) fun h => by cases h
          · rw [show flatD d = false by simpa using hfl] at q
            exact q.elim
    · have ho : anyOwn ρ es = false := by simpa using ho
      refine ⟨O, ds, (r.same s1).dom, drs ho, ⟨F, hF, hlen⟩, ?_⟩
      cases hv : evFn fns k f ds with
      | bad => rw [hv] at q; exact q.elim
      | err x => rw [hv] at q; exact fun H' s' => q H' (s1.trans s')
      | ok d =>
        rw [hv] at q
        have q : rdE X W O σ H false (if flatD d || !anyOwn ρ es then .ok d else .bad) Q := q
        rw [ho, show (flatD d || !false) = true by simp] at q
        exact fun v H2 s2 dr z2 => q v H2 (s1.trans s2) z2 dr fun h => by cases h
end
end Qw

set_option Elab.async false
set_option linter.all false
set_option maxRecDepth 100000
set_option maxHeartbeats 4000000
/-! Built-ins. By an AI agent. -/
namespace Qw
open PySem PySem.Spec PyProof.Rows L2
section
variable {fns : List Fn} {consts : List (Str × D)} {k : Nat}
theorem CallR.weak {X : Cx} {f : Value} {r r' : List V → Hp → VK → Prop} (h : CallR X f r) (m : ∀ xs H Q, r' xs H Q → r xs H Q) : CallR X f r' := fun pins s σ H xs us Q I rv q => h pins s σ H xs us Q I rv (m xs H Q q)
/-- one argument, one function of data -/
theorem rd_one {X : Cx} {W : WT} {O : Own} {σ : L2.St} {H : Hp} {o : Bool} {r : R (List D)} {f : D → R D} {Q : VK} {Q' : List V → Hp → Prop} (q : rdE X W O σ H false (r.bind (one f)) Q) (dm : Dom O H) (hn : ∀ d, NoErr (f d))
    (h : ∀ vs H', rC1 X f vs H' (fun v H'' => Sz H'' → Q v H'') → Q' vs H') : rdAb X W O σ H o r Q' := by
  cases r with
  | bad => exact q.elim
  | err x => exact q
  | ok ds =>
    match ds, q with
    | [], q => exact q.elim
    | _ :: _ :: _, q => exact q.elim
    | [d], q =>
      intro vs H1 s1 pd _
      cases pd with
      | cons db t =>
        cases t
        exact h _ H1 ⟨O, _, d, rfl, dm.same s1, db, rdV_of (hn d) (rdE.later s1 (show rdE X W O σ H false (f d) Q from q))⟩
theorem rd_two {X : Cx} {W : WT} {O : Own} {σ : L2.St} {H : Hp} {o : Bool} {r : R (List D)} {f : D → D → R D} {Q : VK} {Q' : List V → Hp → Prop} (q : rdE X W O σ H false (r.bind (two f)) Q) (dm : Dom O H) (hn : ∀ d e, NoErr (f d e))
    (h : ∀ vs H', rC2 X f vs H' (fun v H'' => Sz H'' → Q v H'') → Q' vs H') : rdAb X W O σ H o r Q' := by
  cases r with
  | bad => exact q.elim
  | err x => exact q
  | ok ds =>
    match ds, q with
    | [], q => exact q.elim
    | [_], q => exact q.elim
    | _ :: _ :: _ :: _, q => exact q.elim
    | [d, e], q =>
      intro vs H1 s1 pd _
      cases pd with
      | cons db t =>
        cases t with
        | cons db' t =>
          cases t
          exact h _ H1 ⟨O, _, _, d, e, rfl, dm.same s1, db, db', rdV_of (hn d e) (rdE.later s1 (show rdE X W O σ H false (f d e) Q from q))⟩
/-- .. which makes a new list -/
theorem rd_oneN {X : Cx} {W : WT} {O : Own} {σ : L2.St} {H : Hp} {o : Bool} {r : R (List D)} {f : D → R D} {Q : VK} {Q' : List V → Hp → Prop} (q : rdE X W O σ H true (r.bind (one f)) Q) (dm : Dom O H) (hn : ∀ d, NoErr (f d))
    (h : ∀ vs H', rC1N X f vs H' (fun v H'' => Sz H'' → Q v H'') → Q' vs H') : rdAb X W O σ H o r Q' := by
  cases r with
  | bad => exact q.elim
  | err x => exact q
  | ok ds =>
    match ds, q with
    | [], q => exact q.elim
    | _ :: _ :: _, q => exact q.elim
    | [d], q =>
      intro vs H1 s1 pd _
      cases pd with
      | cons db t =>
        cases t
        refine h _ H1 ⟨O, _, d, rfl, dm.same s1, db, ?_⟩
        have q : rdE X W O σ H true (f d) Q := q
        cases hf : f d with
        | bad => rw [hf] at q; exact q.elim
        | err x => exact absurd hf (hn d x)
        | ok r =>
          rw [hf] at q
          exact fun v H2 s2 dr hn z => q v H2 (s1.trans s2) z dr fun _ => hn.sooner s1
theorem args_of {X : Cx} {es : Es} {a : Expr} {r : List Expr} (m : mEs fns consts X.N X.env.scope es (a :: r) = true) {pos : Pos} : starEach (a :: r) X.env = (false, eval a X.env) :: starEach r X.env ∧ (backTo pos (starEach r X.env)).any (·.1) = false := by
  have hp := mEs_plain m
  have hp' : plainX a = true ∧ r.all plainX = true := by simpa using hp
  exact ⟨star_plain hp'.1, any_plain hp'.2⟩
theorem inBi (x : Str) (h : biAll.contains x = true := by decide +kernel) : x ∈ biAll := by simpa using h
/-- all that is said of an argument list -/
structure SEs (fns : List Fn) (consts : List (Str × D)) (k : Nat) (es : Es) : Prop where
  as_ : SAs fns consts k es
  ab : SAb fns consts k es
  hd : ∀ e, es = .cons e .nil → SE fns consts k e
theorem single {N : List Str} {sc : Scope} {es : Es} {y : Expr} (m : mEs fns consts N sc es [y] = true) : ∃ e, es = .cons e .nil ∧ plainX y = true ∧ mE fns consts N sc e y = true := by
  cases es with
  | nil => unfold mEs at m; cases m
  | cons e es =>
    unfold mEs at m
    simp only [Bool.and_eq_true] at m
    cases es with
    | nil => exact ⟨e, rfl, m.1.1, m.1.2⟩
    | cons e' es' =>
      obtain ⟨_, h⟩ := m
      unfold mEs at h
      cases h
theorem ev1 {ρ : Env} {e : E} {f : List D → R D} : (evEsB (evFn fns k) ρ (.cons e .nil)).bind f = (evb fns k ρ e).bind fun d => f [d] := by
  show ((evb fns k ρ e).bind fun d => (R.ok [] : R (List D)).bind fun ds => R.ok (d :: ds)).bind f = _
  rw [R.bind_assoc]
  rfl
theorem rgV_data {K : PySem.W.Frag} {H : Hp} {O : Own} (n : Int) : DRs K H O (rgV 0 n) (rangeD 0 n.toNat) := by
  unfold rgV rangeD
  rw [Int.sub_zero]
  have : ∀ l : List Nat, DRs K H O (l.map fun (i : Nat) => V.int (0 + (i : Int))) (l.map fun (i : Nat) => PyData.int (0 + (i : Int))) := fun l => by
    induction l with
    | nil => exact .nil
    | cons a l ih => exact .cons (.int _) ih
  exact this _
theorem rgOk {n : Int} (h : -1000000 ≤ n ∧ n ≤ 1000000) : RgOk 0 n := ⟨by decide, by decide, by omega, by omega, by omega⟩
theorem s_bi {b : Bi} {es : Es} (h : SEs fns consts k es) : SE fns consts k (.bi b es) := by
  intro X W x g m
  obtain ⟨p, pos, args, rfl, h1, h2⟩ := m_bi m
  have hcalm := g.calm (m_biC m)
  have hg := gl_of h1
  cases b with
  | len =>
    obtain ⟨h2, a, r, rfl⟩ := (show mEs fns consts X.N X.env.scope es args = true ∧ ∃ a r, args = a :: r from h2)
    exact fin (pe_callB cr_len hg (g.bi _ (inBi "len")) (by decide +kernel) (h.ab X W _ g h2) (by decide) (by decide) (args_of h2 (pos := pos)).1 (args_of h2).2) fun σ H Q O ρ z r q => ⟨O, ρ, r, rd_one q r.dom (fun d => noerr_dbi .len [d]) fun _ _ h => h⟩
  | sum =>
    obtain ⟨h2, a, r, rfl⟩ := (show mEs fns consts X.N X.env.scope es args = true ∧ ∃ a r, args = a :: r from h2)
    exact fin (pe_callB (cr_dsum hcalm) hg (g.bi _ (inBi "sum")) (by decide +kernel) (h.ab X W _ g h2) (by decide) (by decide) (args_of h2 (pos := pos)).1 (args_of h2).2) fun σ H Q O ρ z r q => ⟨O, ρ, r, rd_one q r.dom (fun d => noerr_dbi .sum [d]) fun _ _ h => h⟩
  | max1 =>
    obtain ⟨h2, a, r, rfl⟩ := (show mEs fns consts X.N X.env.scope es args = true ∧ ∃ a r, args = a :: r from h2)
    exact fin (pe_callB (cr_dmax1 hcalm) hg (g.bi _ (inBi "max")) (by decide +kernel) (h.ab X W _ g h2) (by decide) (by decide) (args_of h2 (pos := pos)).1 (args_of h2).2) fun σ H Q O ρ z r q => ⟨O, ρ, r, rd_one q r.dom (fun d => noerr_dbi .max1 [d]) fun _ _ h => h⟩
  | min1 =>
    obtain ⟨h2, a, r, rfl⟩ := (show mEs fns consts X.N X.env.scope es args = true ∧ ∃ a r, args = a :: r from h2)
    exact fin (pe_callB (cr_dmin1 hcalm) hg (g.bi _ (inBi "min")) (by decide +kernel) (h.ab X W _ g h2) (by decide) (by decide) (args_of h2 (pos := pos)).1 (args_of h2).2) fun σ H Q O ρ z r q => ⟨O, ρ, r, rd_one q r.dom (fun d => noerr_dbi .min1 [d]) fun _ _ h => h⟩
  | max2 =>
    obtain ⟨h2, a, r, rfl⟩ := (show mEs fns consts X.N X.env.scope es args = true ∧ ∃ a r, args = a :: r from h2)
    exact fin (pe_callB (cr_dmax2 hcalm) hg (g.bi _ (inBi "max")) (by decide +kernel) (h.ab X W _ g h2) (by decide) (by decide) (args_of h2 (pos := pos)).1 (args_of h2).2) fun σ H Q O ρ z r q => ⟨O, ρ, r, rd_two q r.dom (fun d e => noerr_dbi .max2 [d, e]) fun _ _ h => h⟩
  | min2 =>
    obtain ⟨h2, a, r, rfl⟩ := (show mEs fns consts X.N X.env.scope es args = true ∧ ∃ a r, args = a :: r from h2)
    exact fin (pe_callB (cr_dmin2 hcalm) hg (g.bi _ (inBi "min")) (by decide +kernel) (h.ab X W _ g h2) (by decide) (by decide) (args_of h2 (pos := pos)).1 (args_of h2).2) fun σ H Q O ρ z r q => ⟨O, ρ, r, rd_two q r.dom (fun d e => noerr_dbi .min2 [d, e]) fun _ _ h => h⟩
  | sorted =>
    obtain ⟨h2, a, r, rfl⟩ := (show mEs fns consts X.N X.env.scope es args = true ∧ ∃ a r, args = a :: r from h2)
    exact fin (pe_callB (cr_dsorted hcalm g.un) hg (g.bi _ (inBi "sorted")) (by decide +kernel) (h.ab X W _ g h2) (by decide) (by decide) (args_of h2 (pos := pos)).1 (args_of h2).2) fun σ H Q O ρ z r q => ⟨O, ρ, r, rd_oneN q r.dom (fun d => noerr_dbi .sorted [d]) fun _ _ h => h⟩
  | list =>
    obtain ⟨h2, a, r, rfl⟩ := (show mEs fns consts X.N X.env.scope es args = true ∧ ∃ a r, args = a :: r from h2)
    exact fin (pe_callTy cr_dlist hg (g.bi _ (inBi "list")) (by decide +kernel) (h.ab X W _ g h2) (by decide) (by decide) (args_of h2 (pos := pos)).1 (args_of h2).2) fun σ H Q O ρ z r q => ⟨O, ρ, r, rd_oneN q r.dom (fun d => noerr_dbi .list [d]) fun _ _ h => h⟩
  | tuple =>
    obtain ⟨h2, a, r, rfl⟩ := (show mEs fns consts X.N X.env.scope es args = true ∧ ∃ a r, args = a :: r from h2)
    exact fin (pe_callTy cr_dtuple hg (g.bi _ (inBi "tuple")) (by decide +kernel) (h.ab X W _ g h2) (by decide) (by decide) (args_of h2 (pos := pos)).1 (args_of h2).2) fun σ H Q O ρ z r q => ⟨O, ρ, r, rd_one q r.dom (fun d => noerr_dbi .tuple [d]) fun _ _ h => h⟩
  | int =>
    obtain ⟨h2, a, r, rfl⟩ := (show mEs fns consts X.N X.env.scope es args = true ∧ ∃ a r, args = a :: r from h2)
    exact fin (pe_callTy cr_dint hg (g.bi _ (inBi "int")) (by decide +kernel) (h.ab X W _ g h2) (by decide) (by decide) (args_of h2 (pos := pos)).1 (args_of h2).2) fun σ H Q O ρ z r q => ⟨O, ρ, r, rd_one q r.dom (fun d => noerr_dbi .int [d]) fun _ _ h => h⟩
  | str =>
    obtain ⟨h2, a, r, rfl⟩ := (show mEs fns consts X.N X.env.scope es args = true ∧ ∃ a r, args = a :: r from h2)
    exact fin (pe_callTy cr_dstr hg (g.bi _ (inBi "str")) (by decide +kernel) (h.ab X W _ g h2) (by decide) (by decide) (args_of h2 (pos := pos)).1 (args_of h2).2) fun σ H Q O ρ z r q => ⟨O, ρ, r, rd_one q r.dom (fun d => noerr_dbi .str [d]) fun _ _ h => h⟩
  | sortset =>
    obtain ⟨y, p2, pos2, rfl, k1, k2⟩ := (show ∃ y p2 pos2, args = [.Call (.Name "set" p2) [y] [] pos2] ∧ glB X.env.scope "set" = true ∧ mEs fns consts X.N X.env.scope es [y] = true from h2)
    obtain ⟨e, rfl, hp, hm⟩ := single k2
    refine fin (pe_sortset hcalm g.un hg (g.bi _ (inBi "sorted")) (gl_of k1) (g.bi _ (inBi "set")) hp (SBo.of (h.hd e rfl) X W y g hm)) fun σ H Q O ρ z r q => ⟨O, ρ, r, ?_⟩
    have q : rdE X W O σ H false ((evEsB (evFn fns k) ρ (.cons e .nil)).bind (one dSortSet)) Q := q
    rw [ev1] at q
    exact rdB_of q fun d v H1 _ s1 z1 db q1 => ⟨O, d, (r.same s1).dom, db, rdV_of (noerr_dbi .sortset [d]) q1⟩
  | lenset =>
    obtain ⟨y, p2, pos2, rfl, k1, k2⟩ := (show ∃ y p2 pos2, args = [.Call (.Name "set" p2) [y] [] pos2] ∧ glB X.env.scope "set" = true ∧ mEs fns consts X.N X.env.scope es [y] = true from h2)
    obtain ⟨e, rfl, hp, hm⟩ := single k2
    refine fin (pe_lenset hcalm g.un hg (g.bi _ (inBi "len")) (gl_of k1) (g.bi _ (inBi "set")) hp (SBo.of (h.hd e rfl) X W y g hm)) fun σ H Q O ρ z r q => ⟨O, ρ, r, ?_⟩
    have q : rdE X W O σ H false ((evEsB (evFn fns k) ρ (.cons e .nil)).bind (one dLenSet)) Q := q
    rw [ev1] at q
    exact rdB_of q fun d v H1 _ s1 z1 db q1 => ⟨O, d, (r.same s1).dom, db, rdV_of (noerr_dbi .lenset [d]) q1⟩
  | listrange =>
    obtain ⟨y, p2, pos2, rfl, k1, k2⟩ := (show ∃ y p2 pos2, args = [.Call (.Name "range" p2) [y] [] pos2] ∧ glB X.env.scope "range" = true ∧ mEs fns consts X.N X.env.scope es [y] = true from h2)
    obtain ⟨e, rfl, hp, hm⟩ := single k2
    refine fin (pe_listRg hcalm hg (g.bi _ (inBi "list")) (prg_1 (gl_of k1) (g.bi _ (inBi "range")) (SBo.of (h.hd e rfl) X W y g hm) (star_plain hp)) (star_plain rfl)) fun σ H Q O ρ z r q => ⟨O, ρ, r, ?_⟩
    have q : rdE X W O σ H true ((evEsB (evFn fns k) ρ (.cons e .nil)).bind (one dListRange)) Q := q
    rw [ev1] at q
    refine rdB_of q fun d v H1 _ s1 z1 db q1 => ?_
    cases d with
    | int n =>
      have q1 : rdE X W O σ H1 true (if -1000000 ≤ n ∧ n ≤ 1000000 then .ok (.list (rangeD 0 n.toNat)) else .bad) Q := q1
      by_cases hc : -1000000 ≤ n ∧ n ≤ 1000000
      · rw [if_pos hc] at q1
        exact ⟨n, db.int, rgOk hc, fun q hq z2 => q1 _ _ (same_new hq) z2 (newL (r.same s1).dom hq (rgV_data n)) fun _ => NewL.of (Same.refl _) hq (rgV_data n)⟩
      · rw [if_neg hc] at q1; exact q1.elim
    | _ => exact q1.elim
  | tuplerange =>
    obtain ⟨y, p2, pos2, rfl, k1, k2⟩ := (show ∃ y p2 pos2, args = [.Call (.Name "range" p2) [y] [] pos2] ∧ glB X.env.scope "range" = true ∧ mEs fns consts X.N X.env.scope es [y] = true from h2)
    obtain ⟨e, rfl, hp, hm⟩ := single k2
    refine fin (pe_tupRg hcalm hg (g.bi _ (inBi "tuple")) (prg_1 (gl_of k1) (g.bi _ (inBi "range")) (SBo.of (h.hd e rfl) X W y g hm) (star_plain hp)) (star_plain rfl)) fun σ H Q O ρ z r q => ⟨O, ρ, r, ?_⟩
    have q : rdE X W O σ H false ((evEsB (evFn fns k) ρ (.cons e .nil)).bind (one dTupleRange)) Q := q
    rw [ev1] at q
    refine rdB_of q fun d v H1 _ s1 z1 db q1 => ?_
    cases d with
    | int n =>
      have q1 : rdE X W O σ H1 false (if -1000000 ≤ n ∧ n ≤ 1000000 then .ok (.tuple (rangeD 0 n.toNat)) else .bad) Q := q1
      by_cases hc : -1000000 ≤ n ∧ n ≤ 1000000
      · rw [if_pos hc] at q1
        exact ⟨n, db.int, rgOk hc, fun q hq z2 => q1 _ _ (same_new hq) z2 (newT (r.same s1).dom hq (rgV_data n)) fun h => by cases h⟩
      · rw [if_neg hc] at q1; exact q1.elim
    | _ => exact q1.elim
  | isi t =>
    have hg : Gl X "isinstance" := hg
    show PE X (.Call (.Name "isinstance" p) args [] pos) _
    obtain ⟨y, p2, rfl, k1, k2⟩ := (show ∃ y p2, args = [y, .Name (tyS t) p2] ∧ glB X.env.scope (tyS t) = true ∧ mEs fns consts X.N X.env.scope es [y] = true from h2)
    obtain ⟨e, rfl, hp, hm⟩ := single k2
    have ht : PE X (.Name (tyS t) p2) (tC (.ty (tyN t))) := by
      cases t with
      | int => exact pe_bltn (gl_of k1) (g.bi _ (inBi "int")) (u := .type "int") (by decide +kernel) rfl (by decide) (by decide)
      | bool => exact pe_bltn (gl_of k1) (g.bi _ (inBi "bool")) (u := .type "bool") (by decide +kernel) rfl (by decide) (by decide)
      | tuple => exact pe_bltn (gl_of k1) (g.bi _ (inBi "tuple")) (u := .type "tuple") (by decide +kernel) rfl (by decide) (by decide)
      | list => exact pe_bltn (gl_of k1) (g.bi _ (inBi "list")) (u := .type "list") (by decide +kernel) rfl (by decide) (by decide)
      | str => exact pe_bltn (gl_of k1) (g.bi _ (inBi "str")) (u := .type "str") (by decide +kernel) rfl (by decide) (by decide)
    refine fin (pe_callB (cr_isi t) hg (g.bi _ (inBi "isinstance")) (by decide +kernel) (pa_cons (SBo.of (h.hd e rfl) X W y g hm) (pa_cons ht pa_nil (star_plain rfl)) (star_plain hp)) (by decide) (by decide) (star_plain hp) (any_plain (by rfl))) fun σ H Q O ρ z r q => ⟨O, ρ, r, ?_⟩
    have q : rdE X W O σ H false ((evEsB (evFn fns k) ρ (.cons e .nil)).bind (one (dIsi t))) Q := q
    rw [ev1] at q
    exact rdB_of q fun d v H1 _ s1 z1 db q1 => ⟨O, v, d, rfl, (r.same s1).dom, db, rdV_of (noerr_dbi (.isi t) [d]) q1⟩
end
end Qw

set_option Elab.async false
set_option linter.all false
set_option maxRecDepth 100000
set_option maxHeartbeats 4000000
/-! Targets, walks, comprehensions. By an AI agent. -/
namespace Qw
open PySem PySem.Spec PyProof.Rows L2
/-! ### slots that are set, forgotten -/
section
variable {K : PySem.W.Frag} {T : XTy} {H : Hp} {O : Own} {σ : L2.St} {ρ : Env}
theorem RelE.set (r : RelE K T H O σ ρ) {v : V} {d : D} (dr : DR K H O v d) (i : Nat) : RelE K T H O (σ.set i (some v)) (ρ.set i (.val d)) := by
  refine ⟨by rw [List.length_set, List.length_set]; exact r.len, r.dom, fun j e h => ?_, fun j es h => ?_, fun j es h => ?_⟩
  · rw [List.getElem?_set] at h ⊢
    by_cases hj : i = j
    · rw [if_pos hj] at h ⊢
      by_cases hl : i < ρ.length
      · rw [if_pos hl] at h
        have e' : d = e := by cases h; rfl
        subst e'
        exact ⟨v, by rw [if_pos (by rw [← r.len]; exact hl)], dr⟩
      · rw [if_neg hl] at h; cases h
    · rw [if_neg hj] at h ⊢
      exact r.val j e h
  · rw [List.getElem?_set] at h ⊢
    by_cases hj : i = j
    · rw [if_pos hj] at h
      by_cases hl : i < ρ.length
      · rw [if_pos hl] at h; cases h
      · rw [if_neg hl] at h; cases h
    · rw [if_neg hj] at h ⊢
      exact r.own j es h
  · rw [List.getElem?_set] at h ⊢
    by_cases hj : i = j
    · rw [if_pos hj] at h
      by_cases hl : i < ρ.length
      · rw [if_pos hl] at h; cases h
      · rw [if_neg hl] at h; cases h
    · rw [if_neg hj] at h ⊢
      exact r.exc j es h
theorem RelE.unset (r : RelE K T H O σ ρ) (i : Nat) (x : Option V) : RelE K T H O (σ.set i x) (ρ.set i .un) := by
  refine ⟨by rw [List.length_set, List.length_set]; exact r.len, r.dom, fun j e h => ?_, fun j es h => ?_, fun j es h => ?_⟩
  · rw [List.getElem?_set] at h ⊢
    by_cases hj : i = j
    · rw [if_pos hj] at h
      by_cases hl : i < ρ.length
      · rw [if_pos hl] at h; cases h
      · rw [if_neg hl] at h; cases h
    · rw [if_neg hj] at h ⊢
      exact r.val j e h
  · rw [List.getElem?_set] at h ⊢
    by_cases hj : i = j
    · rw [if_pos hj] at h
      by_cases hl : i < ρ.length
      · rw [if_pos hl] at h; cases h
      · rw [if_neg hl] at h; cases h
    · rw [if_neg hj] at h ⊢
      exact r.own j es h
  · rw [List.getElem?_set] at h ⊢
    by_cases hj : i = j
    · rw [if_pos hj] at h
      by_cases hl : i < ρ.length
      · rw [if_pos hl] at h; cases h
      · rw [if_neg hl] at h; cases h
    · rw [if_neg hj] at h ⊢
      exact r.exc j es h
theorem RelE.wipe (r : RelE K T H O σ ρ) : ∀ vs : List Nat, RelE K T H O (L2.wipe σ vs) (wipeE ρ vs)
  | [] => r
  | v :: vs => (r.wipe vs).unset v none
end
theorem wipe_get (σ : L2.St) : ∀ (vs : List Nat) (j : Nat), (L2.wipe σ vs)[j]? = if j ∈ vs then (if j < σ.length then some none else none) else σ[j]?
  | [], j => by simp [L2.wipe]
  | v :: vs, j => by
    show ((L2.wipe σ vs).set v none)[j]? = _
    rw [List.getElem?_set, wipe_length, wipe_get σ vs j]
    by_cases hv : v = j
    · subst hv
      simp
    · have : (j ∈ v :: vs) ↔ j ∈ vs := ⟨fun h => (List.mem_cons.mp h).elim (fun e => absurd e.symm hv) id, List.mem_cons_of_mem _⟩
      rw [if_neg hv]
      simp only [this]
theorem wipe_set {σ : L2.St} {vs : List Nat} {i : Nat} {x : Option V} (h : i ∈ vs) : L2.wipe (σ.set i x) vs = L2.wipe σ vs := by
  apply List.ext_getElem?
  intro j
  rw [wipe_get, wipe_get, List.length_set, List.getElem?_set]
  by_cases hj : j ∈ vs
  · rw [if_pos hj, if_pos hj]
  · rw [if_neg hj, if_neg hj]
    by_cases e : i = j
    · subst e; exact absurd h hj
    · rw [if_neg e]
theorem wipe_wipe {σ : L2.St} {vs ws : List Nat} (h : ∀ i ∈ ws, i ∈ vs) : L2.wipe (L2.wipe σ ws) vs = L2.wipe σ vs := by
  apply List.ext_getElem?
  intro j
  rw [wipe_get, wipe_get, wipe_length, wipe_get]
  by_cases hj : j ∈ vs
  · rw [if_pos hj, if_pos hj]
  · rw [if_neg hj, if_neg hj, if_neg fun z => hj (h j z)]

/-! ### targets -/
def LocOk (X : Cx) (x : Str) : Prop := Loc X.env.scope x ∧ (X.fn x = true ∨ X.env.scope.names.lookup x = some .local)
def NmOk (X : Cx) (i : Nat) (e : Expr) : Prop := ∃ x pos, e = .Name x pos ∧ X.N[i]? = some x ∧ LocOk X x
inductive NmsOk (X : Cx) : List Nat → List Expr → Prop where
  | nil : NmsOk X [] []
  | cons {i : Nat} {is : List Nat} {e : Expr} {es : List Expr} : NmOk X i e → NmsOk X is es → NmsOk X (i :: is) (e :: es)
def TgOk (X : Cx) : Tg → Expr → Prop
  | .one i, e => NmOk X i e
  | .many is, e => ∃ es j pos, e = .Tuple es j pos ∧ NmsOk X is es
/-- what a target asks: it may be stored; the slots as they stand afterwards -/
def tTg (X : Cx) (T : XTy) (tg : Tg) : TG := fun v σ H Q => ∃ O ρ d, RelE X.K T H O σ ρ ∧ DR X.K H O v d ∧ (match bindTg tg d ρ with
  | some ρ' => ∀ σ', RelE X.K T H O σ' ρ' → σ'.length = σ.length → (∀ vs, (∀ i ∈ tg.slots, i ∈ vs) → L2.wipe σ' vs = L2.wipe σ vs) → Q σ' H
  | none => False)
def tTgs (X : Cx) (T : XTy) (is : List Nat) : TGs := fun vs σ H Q => ∃ O ρ ds, RelE X.K T H O σ ρ ∧ DRs X.K H O vs ds ∧ (match setAll is ds ρ with
  | some ρ' => ∀ σ', RelE X.K T H O σ' ρ' → σ'.length = σ.length → (∀ ws, (∀ i ∈ is, i ∈ ws) → L2.wipe σ' ws = L2.wipe σ ws) → Q σ' H
  | none => False)
section
variable {X : Cx}
theorem PG.weak {e : Expr} {t t' : TG} (h : PG X e t) (m : ∀ v σ H Q, t' v σ H Q → t v σ H Q) : PG X e t' := ⟨fun pins s σ H v u Q I r q => h.run pins s σ H v u Q I r (m v σ H Q q)⟩
theorem PGs.weak {e : List Expr} {t t' : TGs} (h : PGs X e t) (m : ∀ v σ H Q, t' v σ H Q → t v σ H Q) : PGs X e t' := ⟨fun pins s σ H v u Q I r q => h.run pins s σ H v u Q I r (m v σ H Q q)⟩
theorem pg_nm {i : Nat} {e : Expr} (hN : X.N.Nodup) (h : NmOk X i e) : PG X e (gName i) := by
  obtain ⟨x, pos, rfl, h1, h2, h3⟩ := h
  exact pg_name hN h1 h2 h3
theorem pgs_nms {T : XTy} (hN : X.N.Nodup) : ∀ {is : List Nat} {es : List Expr}, NmsOk X is es → PGs X es (tTgs X T is) ∧ (assignEach es X.env).length = is.length ∧ (assignEach es X.env).findIdx? (·.1) = none
  | _, _, .nil => by
    refine ⟨PGs.weak pgs_nil fun vs σ H Q ⟨O, ρ, ds, r, drs, q⟩ => ?_, rfl, rfl⟩
    cases ds with
    | nil =>
      cases drs
      exact ⟨rfl, q σ r rfl fun _ _ => rfl⟩
    | cons d ds => exact q.elim
  | i :: is, e :: es, .cons h hs => by
    obtain ⟨p1, p2, p3⟩ := pgs_nms hN hs
    have hpg := pg_nm hN h
    obtain ⟨x, pos, rfl, h1, h2⟩ := h
    refine ⟨PGs.weak (pgs_cons hpg p1 (by rfl)) fun vs σ H Q ⟨O, ρ, ds, r, drs, q⟩ => ?_, ?_, ?_⟩
    · cases ds with
      | nil => exact q.elim
      | cons d ds =>
        cases drs with
        | cons dr drs =>
          refine ⟨_, _, rfl, O, ρ.set i (.val d), ds, r.set dr i, drs, ?_⟩
          have q : (match setAll is ds (ρ.set i (.val d)) with
            | some ρ' => ∀ σ', RelE X.K T H O σ' ρ' → σ'.length = σ.length → (∀ ws, (∀ j ∈ i :: is, j ∈ ws) → L2.wipe σ' ws = L2.wipe σ ws) → Q σ' H
            | none => False) := q
          cases hz : setAll is ds (ρ.set i (.val d)) with
          | none => rw [hz] at q; exact q.elim
          | some ρ' =>
            rw [hz] at q
            intro σ' r' hl hw
            refine q σ' r' (by rw [hl, List.length_set]) fun ws hs => ?_
            rw [hw ws fun j hj => hs j (List.mem_cons_of_mem _ hj), wipe_set (hs i List.mem_cons_self)]
    · show (assignEach es X.env).length + 1 = is.length + 1
      rw [p2]
    · show ((false, assign (.Name x pos) X.env) :: assignEach es X.env).findIdx? (·.1) = none
      rw [List.findIdx?_cons, p3]
      rfl
theorem pg_tg {T : XTy} {tg : Tg} {e : Expr} (hc : X.calm = true) (hN : X.N.Nodup) (h : TgOk X tg e) : PG X e (tTg X T tg) := by
  cases tg with
  | one i =>
    refine PG.weak (pg_nm hN h) fun v σ H Q ⟨O, ρ, d, r, dr, q⟩ => ?_
    exact q (σ.set i (some v)) (r.set dr i) (by rw [List.length_set]) fun vs hs => wipe_set (hs i (List.mem_singleton.mpr rfl))
  | many is =>
    obtain ⟨es, j, pos, rfl, h⟩ := h
    obtain ⟨p1, p2, p3⟩ := pgs_nms hN h
    refine PG.weak (pg_tup hc p1 p2 p3) fun v σ H Q ⟨O, ρ, d, r, dr, q⟩ => ?_
    cases d with
    | tuple ds =>
      cases dr with
      | tup n e hs =>
        refine ⟨_, _, rfl, SqT.of e, ?_, O, ρ, ds, r, hs, q⟩
        rw [hs.length]
        have q : (match setAll is ds ρ with | some ρ' => ∀ σ', RelE X.K T H O σ' ρ' → σ'.length = σ.length → (∀ vs, (∀ i ∈ (Tg.many is).slots, i ∈ vs) → L2.wipe σ' vs = L2.wipe σ vs) → Q σ' H | none => False) := q
        have key : ∀ (is : List Nat) (ds : List D) (ρ : Env), setAll is ds ρ ≠ none → ds.length = is.length := fun is => by
          induction is with
          | nil =>
            intro ds ρ h
            cases ds with
            | nil => rfl
            | cons d ds => exact absurd rfl h
          | cons i is ih =>
            intro ds ρ h
            cases ds with
            | nil => exact absurd rfl h
            | cons d ds => rw [List.length_cons, List.length_cons, ih ds (ρ.set i (.val d)) h]
        exact key is ds ρ fun z => by rw [z] at q; exact q
    | _ => exact q.elim
end
theorem tgName_blk {X : Cx} {scope : Scope} {i : Nat} {e : Expr} (h : tgName X.N scope i e = true) (s : Shared) (H : Hp) (cl : List (Str × Addr)) (C : Addr) (fp : List Addr) : NmOk (X.blk s H scope (compEnvC scope cl C X.env) fp) i e := by
  cases e with
  | Name x pos =>
    unfold tgName at h
    simp only [Bool.and_eq_true, decide_eq_true_eq] at h
    obtain ⟨h1, h2⟩ := h
    refine ⟨x, pos, rfl, h1, ?_⟩
    cases q : scope.names.lookup x with
    | none => rw [q] at h2; cases h2
    | some kd =>
      rw [q] at h2
      have keep : ∀ kd', kd' ≠ NameKind.free → scope.names.lookup x = some kd' → (compEnvC scope cl C X.env).scope.names.lookup x = some kd' := fun kd' hk hq => lookup_relS_keep hk hq
      cases kd with
      | «local» => exact ⟨.inl (keep _ (by decide) q), .inr (keep _ (by decide) q)⟩
      | cell =>
        refine ⟨.inr (keep _ (by decide) q), .inl ?_⟩
        show (scope.names.lookup x == some .cell) = true
        rw [q]
        rfl
      | _ => cases h2
  | _ => cases h
theorem tgNames_blk {X : Cx} {scope : Scope} (s : Shared) (H : Hp) (cl : List (Str × Addr)) (C : Addr) (fp : List Addr) : ∀ {is : List Nat} {es : List Expr}, tgNames X.N scope is es = true → NmsOk (X.blk s H scope (compEnvC scope cl C X.env) fp) is es
  | [], [], _ => .nil
  | i :: is, e :: es, h => by
    unfold tgNames at h
    rw [Bool.and_eq_true] at h
    exact .cons (tgName_blk h.1 s H cl C fp) (tgNames_blk s H cl C fp h.2)
  | [], _ :: _, h => by cases h
  | _ :: _, [], h => by cases h
theorem tg_blk {X : Cx} {scope : Scope} {tg : Tg} {e : Expr} (h : tgB X.N scope tg e = true) (s : Shared) (H : Hp) (cl : List (Str × Addr)) (C : Addr) (fp : List Addr) : TgOk (X.blk s H scope (compEnvC scope cl C X.env) fp) tg e := by
  cases tg with
  | one i => exact tgName_blk h s H cl C fp
  | many is =>
    cases e with
    | Tuple es j pos => exact ⟨es, j, pos, rfl, tgNames_blk s H cl C fp h⟩
    | _ => cases h

/-! ### walks -/
/-- while C holds of the owners and the heap, J gives the data ds -/
def Wk (K : PySem.W.Frag) (J : L2.It) (ds : List D) (C : Own → Hp → Prop) : Prop := ∀ O' H', C O' H' → Dom O' H' → J.stop ds.length H' ∧ ∀ i d, ds[i]? = some d → J.go i H' ∧ ∀ x H2, J.yld i H' x H2 → Same H' H2 ∧ DR K H2 O' x d
section
variable {K : PySem.W.Frag} {C : Own → Hp → Prop}
theorem wk_list {a : Addr} {xs : List V} {ds : List D} (h : ∀ O' H', C O' H' → SqL K H' a xs ∧ DRs K H' O' xs ds) : Wk K (Itl K a) ds C := fun O' H' hc dm => by
  obtain ⟨h1, h2⟩ := h O' H' hc
  refine ⟨⟨xs, h1, by rw [h2.length]; exact Nat.le_refl _⟩, fun i d hd => ?_⟩
  obtain ⟨v, e1, e2⟩ := h2.get hd
  refine ⟨⟨xs, v, h1, e1⟩, fun x H2 y => ?_⟩
  obtain ⟨rfl, y⟩ := y
  have e3 := y xs h1
  rw [e1] at e3
  cases e3
  exact ⟨Same.refl _, e2⟩
theorem wk_tup {a : Addr} {xs : List V} {ds : List D} (h : ∀ O' H', C O' H' → SqT K H' a xs ∧ DRs K H' O' xs ds) : Wk K (Itt K a) ds C := fun O' H' hc dm => by
  obtain ⟨h1, h2⟩ := h O' H' hc
  refine ⟨⟨xs, h1, by rw [h2.length]; exact Nat.le_refl _⟩, fun i d hd => ?_⟩
  obtain ⟨v, e1, e2⟩ := h2.get hd
  refine ⟨⟨xs, v, h1, e1⟩, fun x H2 y => ?_⟩
  obtain ⟨rfl, y⟩ := y
  have e3 := y xs h1
  rw [e1] at e3
  cases e3
  exact ⟨Same.refl _, e2⟩
theorem wk_range {lo : Int} {n : Nat} : Wk K (Itr lo n) (rangeD lo n) C := fun O' H' hc dm => by
  have hl : (rangeD lo n).length = n := by unfold rangeD; rw [List.length_map, List.length_range]
  refine ⟨by rw [hl]; exact Nat.le_refl n, fun i d hd => ?_⟩
  have hi : i < n := by
    rw [← hl]
    exact (List.getElem?_eq_some_iff.mp hd).1
  refine ⟨hi, fun x H2 y => ?_⟩
  obtain ⟨rfl, rfl⟩ := y
  have : d = .int (lo + (i : Nat)) := by
    unfold rangeD at hd
    rw [List.getElem?_map, List.getElem?_range hi] at hd
    cases hd
    rfl
  subst this
  exact ⟨Same.refl _, .int _⟩
theorem wk_zipL {a b : Addr} {xs ys : List V} {ds es : List D} (h : ∀ O' H', C O' H' → (SqL K H' a xs ∧ DRs K H' O' xs ds) ∧ SqL K H' b ys ∧ DRs K H' O' ys es) : Wk K (Itz K a b) ((ds.zip es).map fun p => .tuple [p.1, p.2]) C := fun O' H' hc dm => by
  obtain ⟨⟨h1, h2⟩, h3, h4⟩ := h O' H' hc
  refine ⟨⟨xs, ys, h1, h3, ?_⟩, fun i d hd => ?_⟩
  · rw [List.length_map, List.length_zip, h2.length, h4.length]
    omega
  · rw [List.getElem?_map] at hd
    cases hz : (ds.zip es)[i]? with
    | none => rw [hz] at hd; cases hd
    | some p =>
      rw [hz] at hd
      cases hd
      rw [List.getElem?_zip_eq_some] at hz
      obtain ⟨v, e1, e2⟩ := h2.get hz.1
      obtain ⟨w, f1, f2⟩ := h4.get hz.2
      refine ⟨⟨xs, ys, v, w, h1, h3, e1, f1⟩, fun x H2 y => ?_⟩
      obtain ⟨T, x1, x2, rfl, hT, rfl, y1, y2⟩ := y
      have e3 := y1 xs h1
      have f3 := y2 ys h3
      rw [e1] at e3
      rw [f1] at f3
      cases e3
      cases f3
      exact ⟨same_new hT, newT dm hT (.cons e2 (.cons f2 .nil))⟩
theorem wk_zipT {a b : Addr} {xs ys : List V} {ds es : List D} (h : ∀ O' H', C O' H' → (SqT K H' a xs ∧ DRs K H' O' xs ds) ∧ SqT K H' b ys ∧ DRs K H' O' ys es) : Wk K (RZ.ItzT K a b) ((ds.zip es).map fun p => .tuple [p.1, p.2]) C := fun O' H' hc dm => by
  obtain ⟨⟨h1, h2⟩, h3, h4⟩ := h O' H' hc
  refine ⟨⟨xs, ys, h1, h3, ?_⟩, fun i d hd => ?_⟩
  · rw [List.length_map, List.length_zip, h2.length, h4.length]
    omega
  · rw [List.getElem?_map] at hd
    cases hz : (ds.zip es)[i]? with
    | none => rw [hz] at hd; cases hd
    | some p =>
      rw [hz] at hd
      cases hd
      rw [List.getElem?_zip_eq_some] at hz
      obtain ⟨v, e1, e2⟩ := h2.get hz.1
      obtain ⟨w, f1, f2⟩ := h4.get hz.2
      refine ⟨⟨xs, ys, v, w, h1, h3, e1, f1⟩, fun x H2 y => ?_⟩
      obtain ⟨T, x1, x2, rfl, hT, rfl, y1, y2⟩ := y
      have e3 := y1 xs h1
      have f3 := y2 ys h3
      rw [e1] at e3
      rw [f1] at f3
      cases e3
      cases f3
      exact ⟨same_new hT, newT dm hT (.cons e2 (.cons f2 .nil))⟩
theorem wk_enum {a : Addr} {xs : List V} {ds : List D} (h : ∀ O' H', C O' H' → SqL K H' a xs ∧ DRs K H' O' xs ds) : Wk K (Ite K a) (ds.zipIdx.map fun p => .tuple [.int p.2, p.1]) C := fun O' H' hc dm => by
  obtain ⟨h1, h2⟩ := h O' H' hc
  refine ⟨⟨xs, h1, ?_⟩, fun i d hd => ?_⟩
  · rw [List.length_map, List.length_zipIdx, h2.length]
    exact Nat.le_refl _
  · rw [List.getElem?_map] at hd
    cases hz : ds.zipIdx[i]? with
    | none => rw [hz] at hd; cases hd
    | some p =>
      rw [hz] at hd
      cases hd
      rw [List.getElem?_zipIdx] at hz
      cases hq : ds[i]? with
      | none => rw [hq] at hz; cases hz
      | some e =>
        rw [hq] at hz
        cases hz
        obtain ⟨v, e1, e2⟩ := h2.get hq
        refine ⟨⟨xs, v, h1, e1⟩, fun x H2 y => ?_⟩
        obtain ⟨T, x1, rfl, hT, rfl, y1⟩ := y
        have e3 := y1 xs h1
        rw [e1] at e3
        cases e3
        refine ⟨same_new hT, newT dm hT (.cons ?_ (.cons e2 .nil))⟩
        show DR K H' O' (.int (i : Nat)) (.int ((0 + i : Nat) : Int))
        rw [Nat.zero_add]
        exact .int _
end
/-- what a comprehension does meanwhile: the heap grows, new lists may be owned -/
def Cb (O : Own) (H : Hp) : Own → Hp → Prop := fun O' H2 => Same H H2 ∧ ∀ a, O' a → O a ∨ H a = none
theorem Cb.mv {O O' : Own} {H H2 : Hp} (h : Cb O H O' H2) : Mv O H O' H2 := fun a o n e => ⟨h.1 _ _ e, fun z => (h.2 a z).elim n fun q => by rw [e] at q; cases q⟩
section
variable (fns : List Fn) (consts : List (Str × D)) (k : Nat)
def tIt (X : Cx) (W : WT) (it : It) : TI := fun σ H Rr => ∃ O ρ, RelE X.K W.t H O σ ρ ∧ (match evIt (evFn fns k) ρ it with
  | .ok ds => ∀ J H', Same H H' → ds.length ≤ sizeLine → Wk X.K J ds (Cb O H') → (itOwn ρ it = false → Wk X.K J ds (fun O' H2 => Mv O H' O' H2)) → Rr J H'
  | .err x => ∀ H', Same H H' → ErrOk X.mg (fun c d H'' => W.w c d σ H'') x H'
  | .bad => False)
def SI (it : It) : Prop := ∀ (X : Cx) (W : WT) (tg x : Expr), Gd fns consts k X W → mIt fns consts X.N X.env.scope it tg x = true → PI X tg x (tIt fns k X W it)
end
theorem PI.weak {X : Cx} {tg x : Expr} {t t' : TI} (h : PI X tg x t) (m : ∀ σ H R, t' σ H R → t σ H R) : PI X tg x t' := ⟨fun pins s σ H R I q => h.run pins s σ H R I (m σ H R q)⟩
theorem pi_seq {X : Cx} {tg l : Expr} {tl : TE} (hl : PE X l tl) : PI X tg l (fun σ H R => tl σ H fun x H1 => (∃ a xs, x = .ref a ∧ SqL X.K H1 a xs ∧ R (Itl X.K a) H1) ∨ (∃ a xs, x = .ref a ∧ SqT X.K H1 a xs ∧ R (Itt X.K a) H1)) := by
  refine ⟨fun pins s σ H R I h => ?_⟩
  refine thn (hl.run pins s σ H _ I h) fun v s1 ⟨x, H1, I1, r1, q1⟩ => ?_
  rcases q1 with ⟨a, xs, e, hq, q⟩ | ⟨a, xs, e, hq, q⟩
  · subst e
    cases r1
    obtain ⟨its, rv, p, hz⟩ := I1.list hq
    refine wpAny_pyIter_list p.isList ?_
    refine ⟨s1.heap.objs.size, [s1.heap.objs.size], _, _, H1, rfl, I1.kept (t' := s1.toks) fun b o e => Heap.get?_push_of_some _ e, turn_list a _, ⟨_, Heap.get?_push_size _ rfl, rfl, rfl⟩, fun b hb => ?_, q⟩
    have e : b = s1.heap.objs.size := by simpa using hb
    subst e
    exact I1.fpOk (Nat.le_refl _) (I1.hok.fresh (Nat.le_refl _))
  · subst e
    cases r1
    obtain ⟨its, rv, p, hz⟩ := I1.tuple hq
    refine wpAny_pyIter_tuple (show s1.heap.IsTuple a its.toArray from p) ?_
    refine ⟨s1.heap.objs.size, [s1.heap.objs.size], _, _, H1, rfl, I1.kept (t' := s1.toks) fun b o e => Heap.get?_push_of_some _ e, turn_tuple a _, ⟨_, Heap.get?_push_size _ rfl, rfl, rfl⟩, fun b hb => ?_, q⟩
    have e : b = s1.heap.objs.size := by simpa using hb
    subst e
    exact I1.fpOk (Nat.le_refl _) (I1.hok.fresh (Nat.le_refl _))
section
variable {fns : List Fn} {consts : List (Str × D)} {k : Nat}
theorem si_seq {e : E} (he : SE fns consts k e) : SI fns consts k (.seq e) := by
  intro X W tg x g m
  unfold mIt at m
  refine PI.weak (pi_seq (SBo.of he X W x g m)) fun σ H Rr ⟨O, ρ, r, q⟩ => ⟨O, ρ, r, ?_⟩
  unfold evIt at q
  have q : (match (evb fns k ρ e).bind itemsOf with
    | .ok ds => ∀ J H', Same H H' → ds.length ≤ sizeLine → Wk X.K J ds (Cb O H') → (isOwn ρ e = false → Wk X.K J ds (fun O' H2 => Mv O H' O' H2)) → Rr J H'
    | .err x => ∀ H', Same H H' → ErrOk X.mg (fun c d H'' => W.w c d σ H'') x H'
    | .bad => False) := q
  revert q
  generalize evb fns k ρ e = z
  intro q
  cases z with
  | bad => exact q.elim
  | err x => exact q
  | ok d =>
    intro v H1 s1 z1 db dr
    cases d with
    | list ds =>
      obtain ⟨p, xs, e1, e2, e3⟩ := db.lst
      refine .inl ⟨p, xs, e1, SqL.of e2, q _ H1 s1 (by rw [← e3.length]; exact z1 p xs (.inl e2)) (wk_list (xs := xs) fun O' H2 hc => ?_) fun ho => wk_list (xs := xs) fun O' H2 hc => ?_⟩
      · exact ⟨SqL.of (hc.1 _ _ e2), DRs.mv hc.mv _ _ e3⟩
      · cases dr ho with
        | lst n e hs =>
          cases e1
          rw [e] at e2
          cases e2
          exact ⟨SqL.of (hc _ _ n e).1, DRs.mv hc ds xs e3⟩
    | tuple ds =>
      obtain ⟨p, xs, e1, e2, e3⟩ := db.tup
      refine .inr ⟨p, xs, e1, SqT.of e2, q _ H1 s1 (by rw [← e3.length]; exact z1 p xs (.inr e2)) (wk_tup (xs := xs) fun O' H2 hc => ?_) fun ho => wk_tup (xs := xs) fun O' H2 hc => ?_⟩
      · exact ⟨SqT.of (hc.1 _ _ e2), DRs.mv hc.mv _ _ e3⟩
      · cases dr ho with
        | tup n e hs =>
          cases e1
          rw [e] at e2
          cases e2
          exact ⟨SqT.of (hc _ _ n e).1, DRs.mv hc ds xs e3⟩
    | _ => exact q.elim
theorem range_len (lo : Int) (n : Nat) : (rangeD lo n).length = n := by unfold rangeD; rw [List.length_map, List.length_range]
theorem si_range1 {e : E} (he : SE fns consts k e) : SI fns consts k (.range1 e) := by
  intro X W tg x g m
  unfold mIt at m
  cases hx : xCall1 x with
  | none => rw [hx] at m; cases m
  | some z =>
    obtain ⟨f, p⟩ := z
    rw [hx] at m
    simp only [Bool.and_eq_true, decide_eq_true_eq] at m
    obtain ⟨⟨⟨rfl, h1⟩, h2⟩, h3⟩ := m
    obtain ⟨p1, p2, rfl⟩ := xCall1_of hx
    refine PI.weak (pi_range1 (gl_of h1) (g.bi _ (inBi "range")) (pa_cons (he X W p g h3) pa_nil (star_plain h2)) (star_plain h2)) fun σ H Rr ⟨O, ρ, r, q⟩ => ⟨O, ρ, r, ?_⟩
    unfold evIt at q
    have q : (match (ev fns k ρ e).bind (fun x => match x with | .int n => if -1000000 ≤ n ∧ n ≤ 1000000 then R.ok (rangeD 0 n.toNat) else .bad | _ => .bad) with
      | .ok ds => ∀ J H', Same H H' → ds.length ≤ sizeLine → Wk X.K J ds (Cb O H') → (false = false → Wk X.K J ds (fun O' H2 => Mv O H' O' H2)) → Rr J H'
      | .err x => ∀ H', Same H H' → ErrOk X.mg (fun c d H'' => W.w c d σ H'') x H'
      | .bad => False) := q
    revert q
    generalize ev fns k ρ e = z
    intro q
    cases z with
    | bad => exact q.elim
    | err x => exact q
    | ok d =>
      intro v H1 s1 z1 dr _
      cases d with
      | int n =>
        cases dr
        dsimp only [R.bind] at q
        by_cases hc : -1000000 ≤ n ∧ n ≤ 1000000
        · rw [if_pos hc] at q
          exact ⟨n, rfl, by omega, by omega, q _ H1 s1 (by rw [range_len]; exact Nat.le_trans (by omega) (Nat.le_of_lt mil_line)) wk_range fun _ => wk_range⟩
        · rw [if_neg hc] at q; exact q.elim
      | _ => exact q.elim
theorem si_range2 {a b : E} (ha : SE fns consts k a) (hb : SE fns consts k b) : SI fns consts k (.range2 a b) := by
  intro X W tg x g m
  unfold mIt at m
  cases hx : xCall2 x with
  | none => rw [hx] at m; cases m
  | some z =>
    obtain ⟨f, p, p'⟩ := z
    rw [hx] at m
    simp only [Bool.and_eq_true, decide_eq_true_eq] at m
    obtain ⟨⟨⟨⟨⟨rfl, h1⟩, h2⟩, h2'⟩, h3⟩, h3'⟩ := m
    obtain ⟨p1, p2, rfl⟩ := xCall2_of hx
    refine PI.weak (pi_range2 (gl_of h1) (g.bi _ (inBi "range")) (pa_cons (ha X W p g h3) (pa_cons (hb X W p' g h3') pa_nil (star_plain h2')) (star_plain h2)) (by rw [star_plain h2, star_plain h2']; rfl) (by rw [star_plain h2']; rfl)) fun σ H Rr ⟨O, ρ, r, q⟩ => ⟨O, ρ, r, ?_⟩
    unfold evIt at q
    have q : (match (ev fns k ρ a).bind (fun x => (ev fns k ρ b).bind fun y => match x, y with | .int i, .int j => if (-1000000 ≤ i ∧ i ≤ 1000000) ∧ -1000000 ≤ j ∧ j ≤ 1000000 then R.ok (rangeD i (j - i).toNat) else .bad | _, _ => .bad) with
      | .ok ds => ∀ J H', Same H H' → ds.length ≤ sizeLine → Wk X.K J ds (Cb O H') → (false = false → Wk X.K J ds (fun O' H2 => Mv O H' O' H2)) → Rr J H'
      | .err x => ∀ H', Same H H' → ErrOk X.mg (fun c d H'' => W.w c d σ H'') x H'
      | .bad => False) := q
    revert q
    generalize ev fns k ρ a = z
    intro q
    cases z with
    | bad => exact q.elim
    | err x => exact q
    | ok d =>
      intro v H1 s1 z1 dr _
      refine ⟨O, ρ, r.same s1, ?_⟩
      dsimp only [R.bind] at q
      revert q
      generalize ev fns k ρ b = z
      intro q
      cases z with
      | bad => exact q.elim
      | err x => exact fun H' s' => q H' (s1.trans s')
      | ok d' =>
        intro v' H2 s2 z2 dr' _
        cases d with
        | int i =>
          cases d' with
          | int j =>
            cases dr
            cases dr'
            dsimp only at q
            by_cases hc : (-1000000 ≤ i ∧ i ≤ 1000000) ∧ -1000000 ≤ j ∧ j ≤ 1000000
            · rw [if_pos hc] at q
              exact ⟨i, j, rfl, ⟨by omega, by omega, by omega, by omega⟩, q _ H2 (s1.trans s2) (by rw [range_len]; exact Nat.le_trans (by omega) (Nat.le_of_lt mil_line)) wk_range fun _ => wk_range⟩
            · rw [if_neg hc] at q; exact q.elim
          | _ => exact q.elim
        | _ => cases d' <;> exact q.elim
theorem isTupX_of {t : Expr} (h : isTupX t = true) : ∃ es j pos, t = .Tuple es j pos := by
  cases t <;> first | exact ⟨_, _, _, rfl⟩ | cases h
theorem si_zip {a b : E} (ha : SE fns consts k a) (hb : SE fns consts k b) : SI fns consts k (.zip a b) := by
  intro X W tg x g m
  unfold mIt at m
  cases hx : xCall2 x with
  | none => rw [hx] at m; cases m
  | some z =>
    obtain ⟨f, p, p'⟩ := z
    rw [hx] at m
    simp only [Bool.and_eq_true, decide_eq_true_eq] at m
    obtain ⟨⟨⟨⟨⟨⟨rfl, h1⟩, h0⟩, h2⟩, h2'⟩, h3⟩, h3'⟩ := m
    obtain ⟨p1, p2, rfl⟩ := xCall2_of hx
    obtain ⟨es, j, tp, rfl⟩ := isTupX_of h0
    refine PI.weak (RZ.pi_zipA (gl_of h1) (g.bi _ (inBi "zip")) (pa_cons (SBo.of ha X W p g h3) (pa_cons (SBo.of hb X W p' g h3') pa_nil (star_plain h2')) (star_plain h2)) (star_plain h2) (any_plain (by simp [h2']))) fun σ H Rr ⟨O, ρ, r, q⟩ => ⟨O, ρ, r, ?_⟩
    unfold evIt at q
    have q : (match (evb fns k ρ a).bind (fun x => (evb fns k ρ b).bind fun y => match x, y with | .list ds, .list es => R.ok ((ds.zip es).map fun p => PyData.tuple [p.1, p.2]) | .tuple ds, .tuple es => .ok ((ds.zip es).map fun p => .tuple [p.1, p.2]) | _, _ => .bad) with
      | .ok ds => ∀ J H', Same H H' → ds.length ≤ sizeLine → Wk X.K J ds (Cb O H') → ((isOwn ρ a || isOwn ρ b) = false → Wk X.K J ds (fun O' H2 => Mv O H' O' H2)) → Rr J H'
      | .err x => ∀ H', Same H H' → ErrOk X.mg (fun c d H'' => W.w c d σ H'') x H'
      | .bad => False) := q
    revert q
    generalize evb fns k ρ a = z
    intro q
    cases z with
    | bad => exact q.elim
    | err x => exact q
    | ok d =>
      intro v H1 s1 z1 db dr
      refine ⟨O, ρ, r.same s1, ?_⟩
      dsimp only [R.bind] at q
      revert q
      generalize evb fns k ρ b = z
      intro q
      cases z with
      | bad => exact q.elim
      | err x => exact fun H' s' => q H' (s1.trans s')
      | ok d' =>
        intro v' H2 s2 z2 db' dr'
        have db2 := db.same s2
        cases d with
        | list ds =>
          cases d' with
          | list es' =>
            obtain ⟨pa, xs, e1, e2, e3⟩ := db2.lst
            obtain ⟨pb, ys, f1, f2, f3⟩ := db'.lst
            refine ⟨pa, pb, xs, ys, by rw [e1, f1], .inl ⟨SqL.of e2, SqL.of f2, q _ H2 (s1.trans s2) ?_ (wk_zipL (xs := xs) (ys := ys) fun O' H3 hc => ?_) fun ho => wk_zipL (xs := xs) (ys := ys) fun O' H3 hc => ?_⟩⟩
            · rw [List.length_map, List.length_zip, ← e3.length]
              exact Nat.le_trans (Nat.min_le_left _ _) (z2 pa xs (.inl e2))
            · exact ⟨⟨SqL.of (hc.1 _ _ e2), DRs.mv hc.mv _ _ e3⟩, SqL.of (hc.1 _ _ f2), DRs.mv hc.mv _ _ f3⟩
            · have ho : isOwn ρ a = false ∧ isOwn ρ b = false := by simpa using ho
              have d1 := (dr ho.1).same s2
              have d2 := dr' ho.2
              rw [e1] at d1
              rw [f1] at d2
              cases d1 with
              | lst n e hs =>
                cases d2 with
                | lst n' e' hs' => exact ⟨⟨SqL.of (hc _ _ n e2).1, DRs.mv hc _ _ e3⟩, SqL.of (hc _ _ n' f2).1, DRs.mv hc _ _ f3⟩
          | _ => exact q.elim
        | tuple ds =>
          cases d' with
          | tuple es' =>
            obtain ⟨pa, xs, e1, e2, e3⟩ := db2.tup
            obtain ⟨pb, ys, f1, f2, f3⟩ := db'.tup
            refine ⟨pa, pb, xs, ys, by rw [e1, f1], .inr ⟨SqT.of e2, SqT.of f2, q _ H2 (s1.trans s2) ?_ (wk_zipT (xs := xs) (ys := ys) fun O' H3 hc => ?_) fun ho => wk_zipT (xs := xs) (ys := ys) fun O' H3 hc => ?_⟩⟩
            · rw [List.length_map, List.length_zip, ← e3.length]
              exact Nat.le_trans (Nat.min_le_left _ _) (z2 pa xs (.inr e2))
            · exact ⟨⟨SqT.of (hc.1 _ _ e2), DRs.mv hc.mv _ _ e3⟩, SqT.of (hc.1 _ _ f2), DRs.mv hc.mv _ _ f3⟩
            · have ho : isOwn ρ a = false ∧ isOwn ρ b = false := by simpa using ho
              have d1 := (dr ho.1).same s2
              have d2 := dr' ho.2
              rw [e1] at d1
              rw [f1] at d2
              cases d1 with
              | tup n e hs =>
                cases d2 with
                | tup n' e' hs' => exact ⟨⟨SqT.of (hc _ _ n e2).1, DRs.mv hc _ _ e3⟩, SqT.of (hc _ _ n' f2).1, DRs.mv hc _ _ f3⟩
          | _ => exact q.elim
        | _ => cases d' <;> exact q.elim
theorem si_enum {a : E} (ha : SE fns consts k a) : SI fns consts k (.enum a) := by
  intro X W tg x g m
  unfold mIt at m
  cases hx : xCall1 x with
  | none => rw [hx] at m; cases m
  | some z =>
    obtain ⟨f, p⟩ := z
    rw [hx] at m
    simp only [Bool.and_eq_true, decide_eq_true_eq] at m
    obtain ⟨⟨⟨⟨rfl, h1⟩, h0⟩, h2⟩, h3⟩ := m
    obtain ⟨p1, p2, rfl⟩ := xCall1_of hx
    obtain ⟨es, j, tp, rfl⟩ := isTupX_of h0
    refine PI.weak (pi_enum (gl_of h1) (g.bi _ (inBi "enumerate")) (pa_cons (SBo.of ha X W p g h3) pa_nil (star_plain h2)) (star_plain h2)) fun σ H Rr ⟨O, ρ, r, q⟩ => ⟨O, ρ, r, ?_⟩
    unfold evIt at q
    have q : (match (evb fns k ρ a).bind (fun x => match x with | .list ds => R.ok (ds.zipIdx.map fun p => PyData.tuple [.int p.2, p.1]) | _ => .bad) with
      | .ok ds => ∀ J H', Same H H' → ds.length ≤ sizeLine → Wk X.K J ds (Cb O H') → (isOwn ρ a = false → Wk X.K J ds (fun O' H2 => Mv O H' O' H2)) → Rr J H'
      | .err x => ∀ H', Same H H' → ErrOk X.mg (fun c d H'' => W.w c d σ H'') x H'
      | .bad => False) := q
    revert q
    generalize evb fns k ρ a = z
    intro q
    cases z with
    | bad => exact q.elim
    | err x => exact q
    | ok d =>
      intro v H1 s1 z1 db dr
      cases d with
      | list ds =>
        obtain ⟨pa, xs, e1, e2, e3⟩ := db.lst
        refine ⟨pa, xs, by rw [e1], SqL.of e2, q _ H1 s1 ?_ (wk_enum (xs := xs) fun O' H3 hc => ?_) fun ho => wk_enum (xs := xs) fun O' H3 hc => ?_⟩
        · rw [List.length_map, List.length_zipIdx, ← e3.length]
          exact z1 pa xs (.inl e2)
        · exact ⟨SqL.of (hc.1 _ _ e2), DRs.mv hc.mv _ _ e3⟩
        · have d1 := dr ho
          rw [e1] at d1
          cases d1 with
          | lst n e hs => exact ⟨SqL.of (hc _ _ n e2).1, DRs.mv hc _ _ e3⟩
      | _ => exact q.elim
end
end Qw

set_option Elab.async false
set_option linter.all false
set_option maxRecDepth 100000
set_option maxHeartbeats 4000000
/-! Comprehensions. By an AI agent. -/
namespace Qw
open PySem PySem.Spec PyProof.Rows L2
/-! ### the loop by its turns -/
theorem comp_take {f : D → R (List D)} : ∀ {ds : List D} {total : List D}, compLoop f ds = .ok total → ∀ i, i ≤ ds.length → ∃ rs, compLoop f (ds.take i) = .ok rs
  | _, _, _, 0, _ => ⟨[], by rw [List.take_zero]; rfl⟩
  | [], _, _, i + 1, hi => by simp at hi
  | d :: ds, total, h, i + 1, hi => by
    unfold compLoop at h
    cases h1 : f d with
    | bad => rw [h1] at h; cases h
    | err x => rw [h1] at h; cases h
    | ok o =>
      rw [h1] at h
      dsimp only at h
      cases h2 : compLoop f ds with
      | bad => rw [h2] at h; cases h
      | err x => rw [h2] at h; cases h
      | ok r =>
        obtain ⟨rs, e⟩ := comp_take h2 i (by simpa using hi)
        refine ⟨o ++ rs, ?_⟩
        rw [List.take_succ_cons]
        unfold compLoop
        rw [h1, e]
theorem comp_next {f : D → R (List D)} : ∀ {ds : List D} {total rs : List D} {i : Nat} {d : D}, compLoop f ds = .ok total → compLoop f (ds.take i) = .ok rs → ds[i]? = some d → ∃ o, f d = .ok o ∧ compLoop f (ds.take (i + 1)) = .ok (rs ++ o)
  | [], _, _, _, _, _, _, h => by simp at h
  | e :: ds, total, rs, 0, d, h, h1, h2 => by
    simp at h2
    subst h2
    rw [List.take_zero] at h1
    cases h1
    unfold compLoop at h
    cases q : f e with
    | bad => rw [q] at h; cases h
    | err x => rw [q] at h; cases h
    | ok o =>
      refine ⟨o, rfl, ?_⟩
      rw [List.take_succ_cons, List.take_zero]
      unfold compLoop
      rw [q]
      simp [compLoop]
  | e :: ds, total, rs, i + 1, d, h, h1, h2 => by
    rw [List.take_succ_cons] at h1
    unfold compLoop at h h1
    cases q : f e with
    | bad => rw [q] at h; cases h
    | err x => rw [q] at h; cases h
    | ok o =>
      rw [q] at h h1
      dsimp only at h h1
      cases h3 : compLoop f ds with
      | bad => rw [h3] at h; cases h
      | err x => rw [h3] at h; cases h
      | ok r =>
        cases h4 : compLoop f (ds.take i) with
        | bad => rw [h4] at h1; cases h1
        | err x => rw [h4] at h1; cases h1
        | ok r' =>
          rw [h4] at h1
          cases h1
          obtain ⟨o', e1, e2⟩ := comp_next h3 h4 (by simpa using h2)
          refine ⟨o', e1, ?_⟩
          rw [List.take_succ_cons]
          unfold compLoop
          rw [q, e2, List.append_assoc]
section
variable (fns : List Fn) (consts : List (Str × D)) (k : Nat)
def tCd (X : Cx) (W : WT) (c : Eo) : TT := fun σ H Q => ∃ O ρ, RelE X.K W.t H O σ ρ ∧ rdT X W σ H (evCond (evFn fns k) ρ c) Q
def SC (c : Eo) : Prop := ∀ (X : Cx) (W : WT) (xs : List Expr), Gd fns consts k X W → mC fns consts X.N X.env.scope c xs = true → PTs X xs (tCd fns k X W c)
end
theorem PTs.weak {X : Cx} {xs : List Expr} {t t' : TT} (h : PTs X xs t) (m : ∀ σ H Q, t' σ H Q → t σ H Q) : PTs X xs t' := ⟨fun pins s σ H Q I q => h.run pins s σ H Q I (m σ H Q q)⟩
theorem PTs.sized {X : Cx} {xs : List Expr} {t : TT} (h : PTs X xs t) : PTs X xs (fun σ H Q => Sz H → t σ H fun v H' => Sz H' → Q v H') := ⟨fun pins s σ H Q I q =>
  thn (h.run pins s σ H _ I (q (Inv.sz' I))) fun b s' ⟨H', I', k⟩ => ⟨H', I', k (Inv.sz' I')⟩⟩
section
variable {fns : List Fn} {consts : List (Str × D)} {k : Nat}
theorem sc_none : SC fns consts k .none := by
  intro X W xs g m
  unfold mC at m
  rw [isNil_of m]
  exact PTs.weak (PTs.sized pts_nil) fun σ H Q ⟨O, ρ, r, q⟩ z => fun z' => q H (Same.refl H) z'
theorem sc_some {e : E} (he : ST fns consts k e) : SC fns consts k (.some e) := by
  intro X W xs g m
  unfold mC at m
  cases hx : list1 xs with
  | none => rw [hx] at m; cases m
  | some x =>
    rw [hx] at m
    simp only [Bool.and_eq_true] at m
    rw [list1_of hx]
    exact PTs.weak (pts_one (he m.1 X W x g m.2)) fun σ H Q ⟨O, ρ, r, q⟩ => ⟨O, ρ, r, q⟩
/-- what one turn of a comprehension makes -/
def turnF (call : Nat → List D → R D) (ρ : Env) (tg : Tg) (cond : Eo) (body : Env → R (List D)) : D → R (List D) := fun d => match bindTg tg d ρ with
  | none => .bad
  | some ρ' => (evCond call ρ' cond).bind fun k => if k = true then body ρ' else .ok []
theorem cb_plus {O : Own} {H1 Hc : Hp} {L : Addr} (hL : H1 L = none) (s : Same H1 Hc) : Cb O H1 (plus O L) Hc := ⟨s, fun a z => z.elim .inl fun q => .inr (by rw [q]; exact hL)⟩
theorem dom_plus {O : Own} {H1 Hc : Hp} {L : Addr} {o : HO} (dm : Dom O H1) (s : Same H1 Hc) (h : Hc L = some o) : Dom (plus O L) Hc := fun a z => z.elim (fun q => dm.same s a q) fun q => ⟨o, by rw [q]; exact h⟩
theorem RelE.plus {K : PySem.W.Frag} {T : XTy} {O : Own} {H1 Hc : Hp} {L : Addr} {o : HO} {σ : L2.St} {ρ : Env} (r : RelE K T H1 O σ ρ) (hL : H1 L = none) (s : Same H1 Hc) (h : Hc L = some o) : RelE K T Hc (plus O L) σ ρ :=
  ⟨r.len, dom_plus r.dom s h, fun i d q => let ⟨v, e1, e2⟩ := r.val i d q; ⟨v, e1, DR.mv (mv_plus hL s) d v e2⟩,
    fun i ds q => let ⟨p, xs, e1, e2, e3, e4⟩ := r.own i ds q; ⟨p, xs, e1, .inl e2, s _ _ e3, DRs.mv (mv_plus hL s) ds xs e4⟩, r.exc⟩
theorem same_upd {H1 H4 : Hp} {L : Addr} {o : HO} (hL : H1 L = none) (s : Same H1 H4) : Same H1 (upd H4 L o) := fun a u e => by
  rw [upd_ne (ne_of_none e hL)]
  exact s _ _ e
theorem mv_upd {O : Own} {H4 : Hp} {L : Addr} {o : HO} : Mv (plus O L) H4 (plus O L) (upd H4 L o) := fun a u n e => ⟨by
  rw [upd_ne fun q => n (.inr q)]
  exact e, n⟩
/-- a comprehension's loop, over any walk -/
theorem lc_data {X : Cx} {T : XTy} {O : Own} {ρ : Env} {σ : L2.St} {H1 : Hp} {L : Addr} {J : L2.It} {ds total : List D} {tg : Tg} {cond : Eo} {elt : E} {Q : VK} {vs : List Nat} (hvs : ∀ i ∈ tg.slots, i ∈ vs) (rel : RelE X.K T H1 O σ ρ) (hL : H1 L = none) (hn : ds.length ≤ sizeLine) (wk : Wk X.K J ds (Cb O H1))
    (hc : compLoop (turnF (evFn fns k) (wipeE ρ vs) tg cond fun ρ' => (evE (evFn fns k) ρ' elt).bind fun r => .ok [r]) ds = .ok total)
    (q : ∀ H', Same H1 H' → DR X.K H' O (.ref L) (.list total) → NewL X.K O H1 H' (.ref L) (.list total) → Q (.ref L) H') :
    ∃ W : Nat → Nat → Hp → Prop, (∃ m, W 0 m (upd H1 L (.lst []))) ∧ ∀ i m H, W i m H →
      (J.stop i H ∧ Q (.ref L) H) ∨ (J.go i H ∧ ∃ Nx : Hp → Prop, (∀ H', Nx H' → ∃ m', m' < m ∧ W (i + 1) m' H') ∧ ∀ x H', J.yld i H x H' → tTg X T tg x (L2.wipe σ vs) H' fun σ2 H2 => L2.wipe σ2 vs = L2.wipe σ vs ∧ tCd fns k X (noW T) cond σ2 H2 fun b H3 =>
        if b = true then tE fns k X (noW T) elt σ2 H3 fun y H4 => ∃ acc, H4 L = some (.lst acc) ∧ acc.length < sizeLine ∧ Nx (upd H4 L (.lst (acc ++ [y]))) else Nx H3) := by
  refine ⟨fun i m Hc => m = ds.length - i ∧ i ≤ ds.length ∧ Same H1 Hc ∧ ∃ acc rs, Hc L = some (.lst acc) ∧ DRs X.K Hc (plus O L) acc rs ∧ compLoop (turnF (evFn fns k) (wipeE ρ vs) tg cond fun ρ' => (evE (evFn fns k) ρ' elt).bind fun r => .ok [r]) (ds.take i) = .ok rs ∧ acc.length ≤ i,
    ⟨ds.length, rfl, Nat.zero_le _, same_upd hL (Same.refl H1), [], [], upd_same, .nil, by rw [List.take_zero]; rfl, Nat.le_refl 0⟩, ?_⟩
  rintro i m Hc ⟨rfl, hi, s1, acc, rs, e1, e2, e3, e4⟩
  obtain ⟨hstop, hgo⟩ := wk (plus O L) Hc (cb_plus hL s1) (dom_plus rel.dom s1 e1)
  by_cases hlt : i < ds.length
  · obtain ⟨d, hd⟩ : ∃ d, ds[i]? = some d := ⟨_, List.getElem?_eq_getElem hlt⟩
    obtain ⟨hg, hy⟩ := hgo i d hd
    obtain ⟨o, ho, e5⟩ := comp_next hc e3 hd
    refine .inr ⟨hg, fun H' => Same H1 H' ∧ ∃ acc rs, H' L = some (.lst acc) ∧ DRs X.K H' (plus O L) acc rs ∧ compLoop (turnF (evFn fns k) (wipeE ρ vs) tg cond fun ρ' => (evE (evFn fns k) ρ' elt).bind fun r => .ok [r]) (ds.take (i + 1)) = .ok rs ∧ acc.length ≤ i + 1,
      fun H' ⟨a1, a2⟩ => ⟨ds.length - (i + 1), by omega, rfl, hlt, a1, a2⟩, fun x H' hyx => ?_⟩
    obtain ⟨s2, dx⟩ := hy x H' hyx
    have rel2 : RelE X.K T H' (plus O L) (L2.wipe σ vs) (wipeE ρ vs) := (rel.plus hL (s1.trans s2) (s2 _ _ e1)).wipe vs
    refine ⟨plus O L, wipeE ρ vs, d, rel2, dx, ?_⟩
    unfold turnF at ho
    cases hb : bindTg tg d (wipeE ρ vs) with
    | none => rw [hb] at ho; cases ho
    | some ρ' =>
      rw [hb] at ho
      dsimp only at ho ⊢
      intro σ' r' hl hw
      refine ⟨by rw [hw vs hvs, wipe_wipe fun _ h => h], plus O L, ρ', r', ?_⟩
      cases hcd : evCond (evFn fns k) ρ' cond with
      | bad => rw [hcd] at ho; cases ho
      | err x => rw [hcd] at ho; cases ho
      | ok b =>
        rw [hcd] at ho
        have ho : (if b = true then (evE (evFn fns k) ρ' elt).bind fun r => R.ok [r] else .ok []) = .ok o := ho
        intro H3 s3 z3
        have s13 : Same H1 H3 := s1.trans (s2.trans s3)
        have e13 : H3 L = some (.lst acc) := s3 _ _ (s2 _ _ e1)
        cases b with
        | false =>
          rw [if_neg Bool.false_ne_true] at ho ⊢
          cases ho
          rw [List.append_nil] at e5
          exact ⟨s13, acc, rs, e13, e2.same (s2.trans s3), e5, Nat.le_succ_of_le e4⟩
        | true =>
          rw [if_pos rfl] at ho ⊢
          refine ⟨plus O L, ρ', r'.same s3, ?_⟩
          show rdE X _ (plus O L) σ' H3 (isNew elt) (evE (evFn fns k) ρ' elt) _
          cases hv : evE (evFn fns k) ρ' elt with
          | bad => rw [hv] at ho; cases ho
          | err x => rw [hv] at ho; cases ho
          | ok w =>
            rw [hv] at ho
            cases ho
            intro v H4 s4 z4 dv _
            refine ⟨acc, s4 _ _ e13, Nat.lt_of_le_of_lt e4 (Nat.lt_of_lt_of_le hlt hn), same_upd hL (s13.trans s4), acc ++ [v], rs ++ [w], upd_same, ?_, e5, ?_⟩
            · exact DRs.mv mv_upd _ _ ((e2.same ((s2.trans s3).trans s4)).append (.cons dv .nil))
            · rw [List.length_append]
              exact Nat.succ_le_succ e4
  · have ei : i = ds.length := by omega
    subst ei
    rw [List.take_length] at e3
    rw [hc] at e3
    cases e3
    refine .inl ⟨hstop, q Hc s1 (.lst ?_ e1 (DRs.mv (O' := O) (fun a o n e => ⟨e, fun z => n (.inl z)⟩) _ _ e2)) ⟨L, acc, total, rfl, hL, e1, e2, rfl⟩⟩
    exact (show Dom O H1 from rel.dom).fresh hL
theorem comp_rd {X : Cx} {W : WT} {O : Own} {σ : L2.St} {H : Hp} {ρ : Env} {elt : E} {tg : Tg} {it : It} {cond : Eo} {Q : VK} (r : RelE X.K W.t H O σ ρ) (q : rdE X W O σ H true (ev fns k ρ (.comp elt tg it cond)) Q) :
    tLc (tIt fns k X W it) (tTg X W.t tg) (tCd fns k X (noW W.t) cond) (tE fns k X (noW W.t) elt) tg.slots σ H (fun v H' => Sz H' → Q v H') := by
  refine ⟨O, ρ, r, ?_⟩
  have q : rdE X W O σ H true ((evIt (evFn fns k) ρ it).bind fun ds => match compLoop (turnF (evFn fns k) (wipeE ρ tg.slots) tg cond fun ρ' => (evE (evFn fns k) ρ' elt).bind fun r => .ok [r]) ds with
    | .ok rs => .ok (.list rs)
    | _ => .bad) Q := q
  cases hz : evIt (evFn fns k) ρ it with
  | bad => rw [hz] at q; exact q.elim
  | err x => rw [hz] at q; exact q
  | ok ds =>
    rw [hz] at q
    have q : rdE X W O σ H true (match compLoop (turnF (evFn fns k) (wipeE ρ tg.slots) tg cond fun ρ' => (evE (evFn fns k) ρ' elt).bind fun r => .ok [r]) ds with
      | .ok rs => .ok (.list rs)
      | _ => .bad) Q := q
    cases hl : compLoop (turnF (evFn fns k) (wipeE ρ tg.slots) tg cond fun ρ' => (evE (evFn fns k) ρ' elt).bind fun r => .ok [r]) ds with
    | bad => rw [hl] at q; exact q.elim
    | err x => rw [hl] at q; exact q.elim
    | ok total =>
      rw [hl] at q
      intro J H1 s1 hn wk _ L hL
      exact lc_data (Q := fun v H' => Sz H' → Q v H') (fun _ h => h) (r.same s1) hL hn wk hl fun H' s' dr nw z' => q _ H' (s1.trans s') z' dr fun _ => nw.sooner s1
theorem s_comp {elt : E} {tg : Tg} {it : It} {cond : Eo} (he : SE fns consts k elt) (hi : SI fns consts k it) (hc : SC fns consts k cond) : SE fns consts k (.comp elt tg it cond) := by
  intro X W x g m
  obtain ⟨xe, xt, xi, xc, scope, pos, rfl, m1, m2, m3, m4, m5, m6, m7⟩ := m_comp m
  have hcn := m_compC m
  have hcalm := g.calm hcn
  have pe : PE X (.ListComp xe [⟨xt, xi, xc, 0⟩] scope pos) (tLc (tIt fns k X W it) (tTg X W.t tg) (tCd fns k X (noW W.t) cond) (tE fns k X (noW W.t) elt) ((ownOf X.N tg.slots).map (·.2))) :=
    pe_lc hcalm g.nd (hi X W xt xi g m1) (blkOk_by m2) (fun s H C cl fp => pg_tg (X := X.blk s H scope (compEnvC scope cl C X.env) fp) hcalm g.nd (tg_blk m5 s H cl C fp)) (fun s H C cl fp => hc (X.blk s H scope (compEnvC scope cl C X.env) fp) (noW W.t) xc (g.blk hcn s H scope _ fp) m6)
      (fun s H C cl fp => he (X.blk s H scope (compEnvC scope cl C X.env) fp) (noW W.t) xe (g.blk hcn s H scope _ fp) m7) (no_fold m4)
  rw [m3] at pe
  exact fin pe fun σ H Q O ρ z r q => comp_rd r q
/-- name = [..] on one line -/
theorem ps_comp {elt : E} {tg : Tg} {it : It} {cond : Eo} (he : SE fns consts k elt) (hi : SI fns consts k it) (hc : SC fns consts k cond) {X : Cx} {W : WT} {x : Expr} (g : Gd fns consts k X W) (m : mE fns consts X.N X.env.scope (.comp elt tg it cond) x = true) {i : Nat} {y : Str} {py spos : Pos} (hy : X.N[i]? = some y) (hyl : X.env.scope.names.lookup y = some .local)
    (hsw : swapsWith x (some (.Name y py)) spos.line X.env = pure true) : PS X (.Assign [.Name y py] x spos) (tAsg (tLc (tIt fns k X W it) (tTg X W.t tg) (tCd fns k X (noW W.t) cond) (tE fns k X (noW W.t) elt) tg.slots) (gName i)) := by
  obtain ⟨xe, xt, xi, xc, scope, pos, rfl, m1, m2, m3, m4, m5, m6, m7⟩ := m_comp m
  have hcn := m_compC m
  have hcalm := g.calm hcn
  have ps : PS X (.Assign [.Name y py] (.ListComp xe [⟨xt, xi, xc, 0⟩] scope pos) spos) (tAsg (tLc (tIt fns k X W it) (tTg X W.t tg) (tCd fns k X (noW W.t) cond) (tE fns k X (noW W.t) elt) ((ownOf X.N tg.slots).map (·.2))) (gName i)) := ps_setLc hcalm g.nd hy hyl hsw (hi X W xt xi g m1) (blkOk_by m2) (fun s H C cl fp => pg_tg (X := X.blk s H scope (compEnvC scope cl C X.env) fp) hcalm g.nd (tg_blk m5 s H cl C fp)) (fun s H C cl fp => hc (X.blk s H scope (compEnvC scope cl C X.env) fp) (noW W.t) xc (g.blk hcn s H scope _ fp) m6)
      (fun s H C cl fp => he (X.blk s H scope (compEnvC scope cl C X.env) fp) (noW W.t) xe (g.blk hcn s H scope _ fp) m7) (no_fold m4)
  rw [m3] at ps
  exact ps
theorem comp_pre {f : D → R (List D)} : ∀ {ds : List D} {total rs : List D} {i : Nat}, compLoop f ds = .ok total → compLoop f (ds.take i) = .ok rs → rs.length ≤ total.length
  | [], total, rs, i, h, h1 => by
    rw [List.take_nil] at h1
    rw [h] at h1
    cases h1
    exact Nat.le_refl _
  | e :: ds, total, rs, 0, h, h1 => by
    rw [List.take_zero] at h1
    cases h1
    exact Nat.zero_le _
  | e :: ds, total, rs, i + 1, h, h1 => by
    rw [List.take_succ_cons] at h1
    unfold compLoop at h h1
    cases q : f e with
    | bad => rw [q] at h; cases h
    | err x => rw [q] at h; cases h
    | ok o =>
      rw [q] at h h1
      dsimp only at h h1
      cases h3 : compLoop f ds with
      | bad => rw [h3] at h; cases h
      | err x => rw [h3] at h; cases h
      | ok r =>
        cases h4 : compLoop f (ds.take i) with
        | bad => rw [h4] at h1; cases h1
        | err x => rw [h4] at h1; cases h1
        | ok r' =>
          rw [h3] at h
          rw [h4] at h1
          cases h
          cases h1
          rw [List.length_append, List.length_append]
          exact Nat.add_le_add_left (comp_pre h3 h4) _
theorem wipeE_get (ρ : Env) : ∀ (vs : List Nat) (j : Nat), (wipeE ρ vs)[j]? = if j ∈ vs then (if j < ρ.length then some .un else none) else ρ[j]?
  | [], j => by simp [wipeE]
  | v :: vs, j => by
    have hlen : ∀ vs : List Nat, (wipeE ρ vs).length = ρ.length := fun vs => by
      induction vs with
      | nil => rfl
      | cons v vs ih => show ((wipeE ρ vs).set v .un).length = _; rw [List.length_set, ih]
    show ((wipeE ρ vs).set v .un)[j]? = _
    rw [List.getElem?_set, hlen, wipeE_get ρ vs j]
    by_cases hv : v = j
    · subst hv
      simp
    · have : (j ∈ v :: vs) ↔ j ∈ vs := ⟨fun h => (List.mem_cons.mp h).elim (fun e => absurd e.symm hv) id, List.mem_cons_of_mem _⟩
      rw [if_neg hv]
      simp only [this]
theorem set_own {ρ : Env} {i j : Nat} {d : D} {es : List D} (h : (ρ.set i (.val d))[j]? = some (.own es)) : ρ[j]? = some (.own es) := by
  rw [List.getElem?_set] at h
  by_cases hj : i = j
  · rw [if_pos hj] at h
    by_cases hl : i < ρ.length
    · rw [if_pos hl] at h; cases h
    · rw [if_neg hl] at h; cases h
  · rw [if_neg hj] at h
    exact h
theorem setAll_own : ∀ {is : List Nat} {ds : List D} {ρ ρ' : Env} {j : Nat} {es : List D}, setAll is ds ρ = some ρ' → ρ'[j]? = some (.own es) → ρ[j]? = some (.own es)
  | [], [], ρ, ρ', j, es, h, h' => by cases h; exact h'
  | [], _ :: _, _, _, _, _, h, _ => by cases h
  | _ :: _, [], _, _, _, _, h, _ => by cases h
  | i :: is, d :: ds, ρ, ρ', j, es, h, h' => set_own (setAll_own (is := is) (ds := ds) h h')
theorem bind_own {tg : Tg} {d : D} {ρ ρ' : Env} {j : Nat} {es : List D} (h : bindTg tg d ρ = some ρ') (h' : ρ'[j]? = some (.own es)) : ρ[j]? = some (.own es) := by
  cases tg with
  | one i => cases h; exact set_own h'
  | many is =>
    cases d with
    | tuple ds => exact setAll_own h h'
    | _ => cases h
/-- the slots within a turn, at a later heap -/
theorem rel_turn {K : PySem.W.Frag} {T : XTy} {O : Own} {σ σ' : L2.St} {ρ ρ' : Env} {H1 Hx Hd : Hp} {L : Addr} {o : HO} {tg : Tg} {d : D} {vs : List Nat} (rel : RelE K T H1 O σ ρ) (t1 : Same H1 Hd) (f1 : Hd L = some o) (hL : H1 L = none) (r' : RelE K T Hx (plus O L) σ' ρ') (mv : Mv (plus O L) Hx (plus O L) Hd) (hb : bindTg tg d (wipeE ρ vs) = some ρ') (hw : L2.wipe σ' vs = L2.wipe σ vs) : RelE K T Hd (plus O L) σ' ρ' := by
  refine ⟨r'.len, dom_plus rel.dom t1 f1, fun i d h => let ⟨v, e1, e2⟩ := r'.val i d h; ⟨v, e1, DR.mv mv d v e2⟩, fun i es h => ?_, r'.exc⟩
  have h1 := bind_own hb h
  rw [wipeE_get] at h1
  by_cases hi : i ∈ vs
  · rw [if_pos hi] at h1
    by_cases hl : i < ρ.length
    · rw [if_pos hl] at h1; cases h1
    · rw [if_neg hl] at h1; cases h1
  · rw [if_neg hi] at h1
    obtain ⟨p, xs, e1, e2, e3, e4⟩ := rel.own i es h1
    have hg : σ'[i]? = σ[i]? := by
      have := congrArg (fun z : L2.St => z[i]?) hw
      simp only [wipe_get, if_neg hi] at this
      exact this
    exact ⟨p, xs, by rw [hg]; exact e1, .inl e2, t1 _ _ e3, DRs.mv (mv_plus hL t1) es xs e4⟩
/-- the inner loop of a comprehension with two fors -/
def innerF (call : Nat → List D → R D) (tg2 : Tg) (it2 : It) (cond2 : Eo) (elt : E) : Env → R (List D) := fun ρ' => (if itOwn ρ' it2 then .bad else evIt call ρ' it2).bind fun es => compLoop (turnF call (wipeE ρ' tg2.slots) tg2 cond2 fun ρ2 => (evE call ρ2 elt).bind fun r => .ok [r]) es
theorem lc2_data {X : Cx} {T : XTy} {O : Own} {ρ : Env} {σ : L2.St} {H1 : Hp} {L : Addr} {J : L2.It} {ds total : List D} {tg tg2 : Tg} {cond cond2 : Eo} {it2 : It} {elt : E} {Q : VK} {vs : List Nat} (hvs : ∀ i ∈ tg.slots, i ∈ vs) (hvs2 : ∀ i ∈ tg2.slots, i ∈ vs) (rel : RelE X.K T H1 O σ ρ) (hL : H1 L = none) (wk : Wk X.K J ds (Cb O H1))
    (hc : compLoop (turnF (evFn fns k) (wipeE ρ vs) tg cond (innerF (evFn fns k) tg2 it2 cond2 elt)) ds = .ok total) (hlim : total.length ≤ LIM)
    (q : ∀ H', Same H1 H' → DR X.K H' O (.ref L) (.list total) → NewL X.K O H1 H' (.ref L) (.list total) → Q (.ref L) H') :
    ∃ W : Nat → Nat → Hp → Prop, (∃ m, W 0 m (upd H1 L (.lst []))) ∧ ∀ i m H, W i m H →
      (J.stop i H ∧ Q (.ref L) H) ∨ (J.go i H ∧ ∃ Nx : Hp → Prop, (∀ H', Nx H' → ∃ m', m' < m ∧ W (i + 1) m' H') ∧ ∀ x H', J.yld i H x H' → tTg X T tg x (L2.wipe σ vs) H' fun σ2 H2 => L2.wipe σ2 vs = L2.wipe σ vs ∧ tCd fns k X (noW T) cond σ2 H2 fun b H3 =>
        if b = true then tIt fns k X (noW T) it2 σ2 H3 fun J1 H4 => ∃ W1 : Nat → Nat → Hp → Prop, (∃ m, W1 0 m H4) ∧ ∀ j k' H, W1 j k' H →
          (J1.stop j H ∧ Nx H) ∨ (J1.go j H ∧ ∃ Nx1 : Hp → Prop, (∀ H', Nx1 H' → ∃ k'', k'' < k' ∧ W1 (j + 1) k'' H') ∧ ∀ x H', J1.yld j H x H' → tTg X T tg2 x (L2.wipe σ2 tg2.slots) H' fun σ3 H5 => L2.wipe σ3 tg2.slots = L2.wipe σ2 tg2.slots ∧ tCd fns k X (noW T) cond2 σ3 H5 fun b H6 =>
            if b = true then tE fns k X (noW T) elt σ3 H6 fun y H7 => ∃ acc, H7 L = some (.lst acc) ∧ acc.length < sizeLine ∧ Nx1 (upd H7 L (.lst (acc ++ [y]))) else Nx1 H6)
        else Nx H3) := by
  refine ⟨fun i m Hc => m = ds.length - i ∧ i ≤ ds.length ∧ Same H1 Hc ∧ ∃ acc rs, Hc L = some (.lst acc) ∧ DRs X.K Hc (plus O L) acc rs ∧ compLoop (turnF (evFn fns k) (wipeE ρ vs) tg cond (innerF (evFn fns k) tg2 it2 cond2 elt)) (ds.take i) = .ok rs,
    ⟨ds.length, rfl, Nat.zero_le _, same_upd hL (Same.refl H1), [], [], upd_same, .nil, by rw [List.take_zero]; rfl⟩, ?_⟩
  rintro i m Hc ⟨rfl, hi, s1, acc, rs, e1, e2, e3⟩
  obtain ⟨hstop, hgo⟩ := wk (plus O L) Hc (cb_plus hL s1) (dom_plus rel.dom s1 e1)
  by_cases hlt : i < ds.length
  · obtain ⟨d, hd⟩ : ∃ d, ds[i]? = some d := ⟨_, List.getElem?_eq_getElem hlt⟩
    obtain ⟨hg, hy⟩ := hgo i d hd
    obtain ⟨o, ho, e5⟩ := comp_next hc e3 hd
    have hlen : (rs ++ o).length ≤ LIM := Nat.le_trans (comp_pre hc e5) hlim
    refine .inr ⟨hg, fun H' => Same H1 H' ∧ ∃ acc rs, H' L = some (.lst acc) ∧ DRs X.K H' (plus O L) acc rs ∧ compLoop (turnF (evFn fns k) (wipeE ρ vs) tg cond (innerF (evFn fns k) tg2 it2 cond2 elt)) (ds.take (i + 1)) = .ok rs,
      fun H' ⟨a1, a2⟩ => ⟨ds.length - (i + 1), by omega, rfl, hlt, a1, a2⟩, fun x H' hyx => ?_⟩
    obtain ⟨s2, dx⟩ := hy x H' hyx
    have rel2 : RelE X.K T H' (plus O L) (L2.wipe σ vs) (wipeE ρ vs) := (rel.plus hL (s1.trans s2) (s2 _ _ e1)).wipe vs
    refine ⟨plus O L, wipeE ρ vs, d, rel2, dx, ?_⟩
    unfold turnF at ho
    cases hb : bindTg tg d (wipeE ρ vs) with
    | none => rw [hb] at ho; cases ho
    | some ρ' =>
      rw [hb] at ho
      dsimp only at ho ⊢
      intro σ' r' hl hw
      refine ⟨by rw [hw vs hvs, wipe_wipe fun _ h => h], plus O L, ρ', r', ?_⟩
      cases hcd : evCond (evFn fns k) ρ' cond with
      | bad => rw [hcd] at ho; cases ho
      | err x => rw [hcd] at ho; cases ho
      | ok b =>
        rw [hcd] at ho
        have ho : (if b = true then innerF (evFn fns k) tg2 it2 cond2 elt ρ' else .ok []) = .ok o := ho
        intro H3 s3 z3
        have s13 : Same H1 H3 := s1.trans (s2.trans s3)
        have e13 : H3 L = some (.lst acc) := s3 _ _ (s2 _ _ e1)
        cases b with
        | false =>
          rw [if_neg Bool.false_ne_true] at ho ⊢
          cases ho
          rw [List.append_nil] at e5
          exact ⟨s13, acc, rs, e13, e2.same (s2.trans s3), e5⟩
        | true =>
          rw [if_pos rfl] at ho ⊢
          refine ⟨plus O L, ρ', r'.same s3, ?_⟩
          unfold innerF at ho
          by_cases hown : itOwn ρ' it2 = true
          · rw [if_pos hown] at ho; cases ho
          · rw [if_neg hown] at ho
            have hown : itOwn ρ' it2 = false := by simpa using hown
            cases hit : evIt (evFn fns k) ρ' it2 with
            | bad => rw [hit] at ho; cases ho
            | err x => rw [hit] at ho; cases ho
            | ok es =>
              rw [hit] at ho
              have ho : compLoop (turnF (evFn fns k) (wipeE ρ' tg2.slots) tg2 cond2 fun ρ2 => (evE (evFn fns k) ρ2 elt).bind fun r => .ok [r]) es = .ok o := ho
              intro J1 H4 s4 hn4 _ wk4
              have wk4 := wk4 hown
              have r4 := (r'.same s3).same s4
              have e14 : H4 L = some (.lst acc) := s4 _ _ e13
              have s14 : Same H1 H4 := s13.trans s4
              refine ⟨fun j k' Hd => k' = es.length - j ∧ j ≤ es.length ∧ Same H1 Hd ∧ Mv (plus O L) H4 (plus O L) Hd ∧ ∃ acc2 rs2, Hd L = some (.lst acc2) ∧ DRs X.K Hd (plus O L) acc2 (rs ++ rs2) ∧ compLoop (turnF (evFn fns k) (wipeE ρ' tg2.slots) tg2 cond2 fun ρ2 => (evE (evFn fns k) ρ2 elt).bind fun r => .ok [r]) (es.take j) = .ok rs2,
                ⟨es.length, rfl, Nat.zero_le _, s14, Mv.refl _ _, acc, [], e14, by rw [List.append_nil]; exact e2.same ((s2.trans s3).trans s4), by rw [List.take_zero]; rfl⟩, ?_⟩
              rintro j k' Hd ⟨rfl, hj, t1, tm, acc2, rs2, f1, f2, f3⟩
              obtain ⟨hstop2, hgo2⟩ := wk4 (plus O L) Hd tm (dom_plus rel.dom t1 f1)
              by_cases hlt2 : j < es.length
              · obtain ⟨e, he⟩ : ∃ e, es[j]? = some e := ⟨_, List.getElem?_eq_getElem hlt2⟩
                obtain ⟨hg2, hy2⟩ := hgo2 j e he
                obtain ⟨o2, ho2, f5⟩ := comp_next ho f3 he
                have hlen2 : acc2.length < sizeLine := by
                  rw [f2.length, List.length_append]
                  have := comp_pre ho f3
                  rw [List.length_append] at hlen
                  have h1 : rs.length + rs2.length ≤ LIM := by omega
                  exact Nat.lt_of_le_of_lt h1 (by decide)
                refine .inr ⟨hg2, fun H' => Same H1 H' ∧ Mv (plus O L) H4 (plus O L) H' ∧ ∃ acc2 rs2, H' L = some (.lst acc2) ∧ DRs X.K H' (plus O L) acc2 (rs ++ rs2) ∧ compLoop (turnF (evFn fns k) (wipeE ρ' tg2.slots) tg2 cond2 fun ρ2 => (evE (evFn fns k) ρ2 elt).bind fun r => .ok [r]) (es.take (j + 1)) = .ok rs2,
                  fun H' ⟨a1, a2, a3⟩ => ⟨es.length - (j + 1), by omega, rfl, hlt2, a1, a2, a3⟩, fun x2 H5 hyx2 => ?_⟩
                obtain ⟨t2, dx2⟩ := hy2 x2 H5 hyx2
                have m5 : Mv (plus O L) H4 (plus O L) H5 := tm.trans (Mv.same t2)
                have hwo : L2.wipe σ' vs = L2.wipe σ vs := by rw [hw vs hvs, wipe_wipe fun _ h => h]
                have t15 : Same H1 H5 := t1.trans t2
                have f15 : H5 L = some (.lst acc2) := t2 _ _ f1
                have r5 : RelE X.K T H5 (plus O L) σ' ρ' := rel_turn rel t15 f15 hL r4 m5 hb hwo
                refine ⟨plus O L, wipeE ρ' tg2.slots, e, r5.wipe _, dx2, ?_⟩
                unfold turnF at ho2
                cases hb2 : bindTg tg2 e (wipeE ρ' tg2.slots) with
                | none => rw [hb2] at ho2; cases ho2
                | some ρ2 =>
                  rw [hb2] at ho2
                  dsimp only at ho2 ⊢
                  intro σ3 r3 hl3 hw3
                  refine ⟨by rw [hw3 tg2.slots fun _ h => h, wipe_wipe fun _ h => h], plus O L, ρ2, r3, ?_⟩
                  cases hcd2 : evCond (evFn fns k) ρ2 cond2 with
                  | bad => rw [hcd2] at ho2; cases ho2
                  | err x => rw [hcd2] at ho2; cases ho2
                  | ok b =>
                    rw [hcd2] at ho2
                    have ho2 : (if b = true then (evE (evFn fns k) ρ2 elt).bind fun r => R.ok [r] else .ok []) = .ok o2 := ho2
                    intro H6 s6 z6
                    have t16 : Same H1 H6 := t15.trans s6
                    have f16 : H6 L = some (.lst acc2) := s6 _ _ f15
                    cases b with
                    | false =>
                      rw [if_neg Bool.false_ne_true] at ho2 ⊢
                      cases ho2
                      rw [List.append_nil] at f5
                      exact ⟨t16, m5.trans (Mv.same s6), acc2, rs2, f16, f2.same (t2.trans s6), f5⟩
                    | true =>
                      rw [if_pos rfl] at ho2 ⊢
                      refine ⟨plus O L, ρ2, r3.same s6, ?_⟩
                      show rdE X _ (plus O L) σ3 H6 (isNew elt) (evE (evFn fns k) ρ2 elt) _
                      cases hv : evE (evFn fns k) ρ2 elt with
                      | bad => rw [hv] at ho2; cases ho2
                      | err x => rw [hv] at ho2; cases ho2
                      | ok w =>
                        rw [hv] at ho2
                        cases ho2
                        intro v H7 s7 z7 dv _
                        refine ⟨acc2, s7 _ _ f16, hlen2, same_upd hL (t16.trans s7), (m5.trans (Mv.same (s6.trans s7))).trans mv_upd, acc2 ++ [v], rs2 ++ [w], upd_same, ?_, f5⟩
                        rw [← List.append_assoc]
                        exact DRs.mv mv_upd _ _ ((f2.same ((t2.trans s6).trans s7)).append (.cons dv .nil))
              · have ej : j = es.length := by omega
                subst ej
                rw [List.take_length, ho] at f3
                cases f3
                exact .inl ⟨hstop2, t1, acc2, rs ++ o, f1, f2, e5⟩
  · have ei : i = ds.length := by omega
    subst ei
    rw [List.take_length] at e3
    rw [hc] at e3
    cases e3
    refine .inl ⟨hstop, q Hc s1 (.lst ?_ e1 (DRs.mv (O' := O) (fun a o n e => ⟨e, fun z => n (.inl z)⟩) _ _ e2)) ⟨L, acc, total, rfl, hL, e1, e2, rfl⟩⟩
    exact (show Dom O H1 from rel.dom).fresh hL
theorem comp2_rd {X : Cx} {W : WT} {O : Own} {σ : L2.St} {H : Hp} {ρ : Env} {elt : E} {tg tg2 : Tg} {it it2 : It} {cond cond2 : Eo} {Q : VK} (r : RelE X.K W.t H O σ ρ) (q : rdE X W O σ H true (ev fns k ρ (.comp2 elt tg it cond tg2 it2 cond2)) Q) :
    tLc2 (tIt fns k X W it) (tTg X W.t tg) (tCd fns k X (noW W.t) cond) (tIt fns k X (noW W.t) it2) (tTg X W.t tg2) (tCd fns k X (noW W.t) cond2) (tE fns k X (noW W.t) elt) (tg.slots ++ tg2.slots) tg2.slots σ H (fun v H' => Sz H' → Q v H') := by
  refine ⟨O, ρ, r, ?_⟩
  have q : rdE X W O σ H true ((evIt (evFn fns k) ρ it).bind fun ds => match compLoop (turnF (evFn fns k) (wipeE ρ (tg.slots ++ tg2.slots)) tg cond (innerF (evFn fns k) tg2 it2 cond2 elt)) ds with
    | .ok rs => if rs.length ≤ LIM then .ok (.list rs) else .bad
    | _ => .bad) Q := q
  cases hz : evIt (evFn fns k) ρ it with
  | bad => rw [hz] at q; exact q.elim
  | err x => rw [hz] at q; exact q
  | ok ds =>
    rw [hz] at q
    have q : rdE X W O σ H true (match compLoop (turnF (evFn fns k) (wipeE ρ (tg.slots ++ tg2.slots)) tg cond (innerF (evFn fns k) tg2 it2 cond2 elt)) ds with
      | .ok rs => if rs.length ≤ LIM then .ok (.list rs) else .bad
      | _ => .bad) Q := q
    cases hl : compLoop (turnF (evFn fns k) (wipeE ρ (tg.slots ++ tg2.slots)) tg cond (innerF (evFn fns k) tg2 it2 cond2 elt)) ds with
    | bad => rw [hl] at q; exact q.elim
    | err x => rw [hl] at q; exact q.elim
    | ok total =>
      rw [hl] at q
      have q : rdE X W O σ H true (if total.length ≤ LIM then .ok (.list total) else .bad) Q := q
      by_cases hlim : total.length ≤ LIM
      · rw [if_pos hlim] at q
        intro J H1 s1 hn wk _ L hL
        exact lc2_data (Q := fun v H' => Sz H' → Q v H') (fun _ h => List.mem_append_left _ h) (fun _ h => List.mem_append_right _ h) (r.same s1) hL wk hl hlim fun H' s' dr nw z' => q _ H' (s1.trans s') z' dr fun _ => nw.sooner s1
      · rw [if_neg hlim] at q; exact q.elim
theorem s_comp2 {elt : E} {tg tg2 : Tg} {it it2 : It} {cond cond2 : Eo} (he : SE fns consts k elt) (hi : SI fns consts k it) (hc : SC fns consts k cond) (hi2 : SI fns consts k it2) (hc2 : SC fns consts k cond2) : SE fns consts k (.comp2 elt tg it cond tg2 it2 cond2) := by
  intro X W x g m
  obtain ⟨xe, xt, xi, xc, xt2, xi2, xc2, scope, pos, rfl, m1, m2, m3, m4, m4', m5, m6, m7, m8, m9, m10⟩ := m_comp2 m
  have hcn := m_comp2C m
  have hcalm := g.calm hcn
  have pe : PE X (.ListComp xe [⟨xt, xi, xc, 0⟩, ⟨xt2, xi2, xc2, 0⟩] scope pos) (tLc2 (tIt fns k X W it) (tTg X W.t tg) (tCd fns k X (noW W.t) cond) (tIt fns k X (noW W.t) it2) (tTg X W.t tg2) (tCd fns k X (noW W.t) cond2) (tE fns k X (noW W.t) elt) ((ownOf X.N (tg.slots ++ tg2.slots)).map (·.2)) tg2.slots) :=
    pe_lc2 hcalm g.nd (hi X W xt xi g m1) (blkOk_by m2) (by rw [m3]; exact fun i h => List.mem_append_right _ h) (fun s H C cl fp => pg_tg (X := X.blk s H scope (compEnvC scope cl C X.env) fp) hcalm g.nd (tg_blk m5 s H cl C fp)) (fun s H C cl fp => hc (X.blk s H scope (compEnvC scope cl C X.env) fp) (noW W.t) xc (g.blk hcn s H scope _ fp) m6)
      (fun s H C cl fp => hi2 (X.blk s H scope (compEnvC scope cl C X.env) fp) (noW W.t) xt2 xi2 (g.blk hcn s H scope _ fp) m7) (fun s H C cl fp => pg_tg (X := X.blk s H scope (compEnvC scope cl C X.env) fp) hcalm g.nd (tg_blk m8 s H cl C fp)) (fun s H C cl fp => hc2 (X.blk s H scope (compEnvC scope cl C X.env) fp) (noW W.t) xc2 (g.blk hcn s H scope _ fp) m9)
      (fun s H C cl fp => he (X.blk s H scope (compEnvC scope cl C X.env) fp) (noW W.t) xe (g.blk hcn s H scope _ fp) m10) (no_fold m4) (fun env => no_fold m4')
  rw [m3] at pe
  exact fin pe fun σ H Q O ρ z r q => comp2_rd r q
theorem ps_comp2 {elt : E} {tg tg2 : Tg} {it it2 : It} {cond cond2 : Eo} (he : SE fns consts k elt) (hi : SI fns consts k it) (hc : SC fns consts k cond) (hi2 : SI fns consts k it2) (hc2 : SC fns consts k cond2) {X : Cx} {W : WT} {x : Expr} (g : Gd fns consts k X W) (m : mE fns consts X.N X.env.scope (.comp2 elt tg it cond tg2 it2 cond2) x = true) {i : Nat} {y : Str} {py spos : Pos} (hy : X.N[i]? = some y) (hyl : X.env.scope.names.lookup y = some .local)
    (hsw : swapsWith x (some (.Name y py)) spos.line X.env = pure true) : PS X (.Assign [.Name y py] x spos) (tAsg (tLc2 (tIt fns k X W it) (tTg X W.t tg) (tCd fns k X (noW W.t) cond) (tIt fns k X (noW W.t) it2) (tTg X W.t tg2) (tCd fns k X (noW W.t) cond2) (tE fns k X (noW W.t) elt) (tg.slots ++ tg2.slots) tg2.slots) (gName i)) := by
  obtain ⟨xe, xt, xi, xc, xt2, xi2, xc2, scope, pos, rfl, m1, m2, m3, m4, m4', m5, m6, m7, m8, m9, m10⟩ := m_comp2 m
  have hcn := m_comp2C m
  have hcalm := g.calm hcn
  have ps : PS X (.Assign [.Name y py] (.ListComp xe [⟨xt, xi, xc, 0⟩, ⟨xt2, xi2, xc2, 0⟩] scope pos) spos) (tAsg (tLc2 (tIt fns k X W it) (tTg X W.t tg) (tCd fns k X (noW W.t) cond) (tIt fns k X (noW W.t) it2) (tTg X W.t tg2) (tCd fns k X (noW W.t) cond2) (tE fns k X (noW W.t) elt) ((ownOf X.N (tg.slots ++ tg2.slots)).map (·.2)) tg2.slots) (gName i)) := ps_setLc2 hcalm g.nd hy hyl hsw (hi X W xt xi g m1) (blkOk_by m2) (by rw [m3]; exact fun i h => List.mem_append_right _ h) (fun s H C cl fp => pg_tg (X := X.blk s H scope (compEnvC scope cl C X.env) fp) hcalm g.nd (tg_blk m5 s H cl C fp)) (fun s H C cl fp => hc (X.blk s H scope (compEnvC scope cl C X.env) fp) (noW W.t) xc (g.blk hcn s H scope _ fp) m6)
      (fun s H C cl fp => hi2 (X.blk s H scope (compEnvC scope cl C X.env) fp) (noW W.t) xt2 xi2 (g.blk hcn s H scope _ fp) m7) (fun s H C cl fp => pg_tg (X := X.blk s H scope (compEnvC scope cl C X.env) fp) hcalm g.nd (tg_blk m8 s H cl C fp)) (fun s H C cl fp => hc2 (X.blk s H scope (compEnvC scope cl C X.env) fp) (noW W.t) xc2 (g.blk hcn s H scope _ fp) m9)
      (fun s H C cl fp => he (X.blk s H scope (compEnvC scope cl C X.env) fp) (noW W.t) xe (g.blk hcn s H scope _ fp) m10) (no_fold m4) (fun env => no_fold m4')
  rw [m3] at ps
  exact ps
end
end Qw

set_option Elab.async false
set_option linter.all false
set_option maxRecDepth 100000
set_option maxHeartbeats 4000000
/-! isinstance of a caught exception. By an AI agent. -/
namespace Qw
open PySem PySem.Spec PyProof.Rows L2
section
variable {fns : List Fn} {consts : List (Str × D)} {k : Nat}
theorem s_isE (i : Nat) (c : Str) : SE fns consts k (.isE i c) := by
  intro X W x g m
  obtain ⟨hn, p1, n, p2, p3, pos, rfl, h1, h2, h3, h4, h5, h6, h7, h8⟩ := m_isE m
  have hf : isNil fns = true := by rw [hn]; rfl
  obtain ⟨C, c1, c2, c3, c4, c5⟩ := g.ex c h8
  have hi : PE X (.Name n p2) (tVar i) := pe_var h2 (vis_of h5) h3 h4
  have hc : PE X (.Name c p3) (tC (.ref C)) := pe_glob (gl_of h6) c1 rfl h7
  have ha := pa_cons hi (pa_cons hc pa_nil rfl) rfl
  refine fin (pe_callB (g.exn hf) (gl_of h1) (g.bi _ (inBi "isinstance")) (by decide +kernel) ha (by decide) (by decide) rfl rfl) fun σ H Q O ρ z r q => ?_
  have q : rdE X W O σ H false (match ρ[i]? with | some (.exc x) => R.ok (.bool (isA x.cls c)) | _ => .bad) Q := q
  cases e : ρ[i]? with
  | none => rw [e] at q; exact q.elim
  | some cl =>
    rw [e] at q
    cases cl with
    | exc ex =>
      obtain ⟨a, e1, e2⟩ := r.exc i ex e
      obtain ⟨A, a1, a2⟩ := g.ext hf a ex e2
      obtain ⟨x1, x2, x3⟩ := g.xr ex.cls c A C a2 h8 a1 c1
      exact ⟨_, e1, a, ex, A, e2, a1, .ref C, .ref C, isA ex.cls c, rfl, fun u hu => hu, x3, fun z' => rd_end q (.bl _) z'⟩
    | _ => exact q.elim
theorem drs_rev {K : PySem.W.Frag} {H : Hp} {O : Own} : ∀ {xs : List V} {ds : List D}, DRs K H O xs ds → DRs K H O xs.reverse ds.reverse
  | [], [], h => h
  | [], _ :: _, h => by cases h
  | _ :: _, [], h => by cases h
  | x :: xs, d :: ds, h => by
    cases h with
    | cons h1 h2 =>
      rw [List.reverse_cons, List.reverse_cons]
      exact (drs_rev h2).append (.cons h1 .nil)
theorem s_rev {a : E} (ha : SE fns consts k a) : SE fns consts k (.rev a) := by
  intro X W x g m
  obtain ⟨p, k1, p1, p2, p3, pos, rfl, h⟩ := m_rev m
  refine fin (pe_revL (SBo.of ha X W p g h)) fun σ H Q O ρ z r q => ?_
  refine ⟨O, ρ, r, rdB_of q fun d v H1 _ s1 z1 db q1 => ?_⟩
  cases d with
  | list ds =>
    have q1 : rdE X W O σ H1 false (.ok (.list ds.reverse)) Q := q1
    obtain ⟨l, xs, e1, e2, e3⟩ := db.lst
    refine ⟨l, xs, e1, SqL.of e2, fun y hy z2 => ?_⟩
    exact q1 _ _ (same_new hy) z2 (newL (r.same s1).dom hy (drs_rev e3)) fun h => by cases h
  | _ => exact q1.elim
end
end Qw

set_option Elab.async false
set_option linter.all false
set_option maxRecDepth 100000
set_option maxHeartbeats 4000000
/-! All expressions. By an AI agent. -/
namespace Qw
open PySem PySem.Spec PyProof.Rows L2
section
variable {fns : List Fn} {consts : List (Str × D)} {k : Nat}
structure Sd (fns : List Fn) (consts : List (Str × D)) (k : Nat) (x : E) : Prop where
  e : SE fns consts k x
  t : ST fns consts k x
  w : SW (fns := fns) (consts := consts) (k := k) x
theorem Sd.gen {e : E} (h : SE fns consts k e) (hx : ∀ N sc x, mE fns consts N sc e x = true → plainT x = true) : Sd fns consts k e :=
  ⟨h, ST.gen h hx, fun _ X W o vs pos g m => absurd (hx _ _ _ m) (by simp [plainT])⟩
theorem notBool {fns : List Fn} {consts : List (Str × D)} {k : Nat} {e : E} (h : ∀ N sc o vs pos, mE fns consts N sc e (.BoolOp o vs pos) = true → False) : SW (fns := fns) (consts := consts) (k := k) e := fun _ X W o vs pos g m => (h _ _ o vs pos m).elim
mutual
theorem sE : ∀ e : E, Sd fns consts k e
  | .var i => .gen (s_var i) fun N sc x m => by obtain ⟨n, pos, rfl, _⟩ := m_var m; rfl
  | .cst d => .gen (s_cst d) fun N sc x m => by
    rcases m_cst m with ⟨c, n, pos, rfl, m⟩ | ⟨n, pos, rfl, _⟩
    · rfl
    · rfl
  | .tup es => .gen (s_tup (sEs es).as_) fun N sc x m => by obtain ⟨xs, j, pos, rfl, _⟩ := m_tup m; rfl
  | .lst es => .gen (s_lst (sEs es).as_) fun N sc x m => by obtain ⟨xs, pos, rfl, _⟩ := m_lst m; rfl
  | .bin op a b => .gen (s_bin (sE a).e (sE b).e) fun N sc x m => by obtain ⟨p, q, pos, rfl, _⟩ := m_bin m; rfl
  | .neg a => .gen (s_neg (sE a).e) fun N sc x m => by obtain ⟨p, pos, rfl, _⟩ := m_neg m; rfl
  | .cmp op a b => ⟨(s_cmp (sE a).e (sE b).e).1, (s_cmp (sE a).e (sE b).e).2, notBool fun N sc o vs pos m => by
      obtain ⟨p, q, pos, e, _⟩ := m_cmp m
      cases e⟩
  | .chain a b c => ⟨(s_chain (sE a).e (sE b).e (sE c).e).1, (s_chain (sE a).e (sE b).e (sE c).e).2, notBool fun N sc o vs pos m => by
      obtain ⟨p, q, r, pos, e, _⟩ := m_chain m
      cases e⟩
  | .isN n a => ⟨(s_isN (sE a).e).1, (s_isN (sE a).e).2, notBool fun N sc o vs pos m => by
      obtain ⟨p, j, p', pos, _, ⟨_, e⟩ | ⟨_, e⟩⟩ := m_isN m
      · cases e
      · cases e⟩
  | .and a b => ⟨(s_and (sE a).e (sE b).e (sE a).t (sE b).t (sE b).w).1, (s_and (sE a).e (sE b).e (sE a).t (sE b).t (sE b).w).2.1, (s_and (sE a).e (sE b).e (sE a).t (sE b).t (sE b).w).2.2⟩
  | .or a b => ⟨(s_or (sE a).e (sE b).e (sE a).t (sE b).t (sE b).w).1, (s_or (sE a).e (sE b).e (sE a).t (sE b).t (sE b).w).2.1, (s_or (sE a).e (sE b).e (sE a).t (sE b).t (sE b).w).2.2⟩
  | .not a => ⟨(s_not (sE a).e (sE a).t).1, (s_not (sE a).e (sE a).t).2, notBool fun N sc o vs pos m => by
      obtain ⟨p, pos, e, _⟩ := m_not m
      cases e⟩
  | .ifx c a b => ⟨s_ifx (sE c).t (sE a).e (sE b).e, (fun h => by cases h), (fun h => by cases h)⟩
  | .idx a b => .gen (s_idx (sE a).e (sE b).e) fun N sc x m => by obtain ⟨p, q, pos, rfl, _⟩ := m_idx m; rfl
  | .cut a lo hi => .gen (s_cut (sE a).e (sEo lo).1 (sEo hi).1) fun N sc x m => by obtain ⟨p, l, h, p2, pos, rfl, _⟩ := m_cut m; rfl
  | .rev a => .gen (s_rev (sE a).e) fun N sc x m => by obtain ⟨p, k1, p1, p2, p3, pos, rfl, _⟩ := m_rev m; rfl
  | .bi b es => .gen (s_bi (sEs es)) fun N sc x m => by obtain ⟨p, pos, args, rfl, _⟩ := m_bi m; rfl
  | .call f es => .gen (s_call (sEs es).ab) fun N sc x m => by obtain ⟨F, p, pos, a, r, _, rfl, _⟩ := m_call m; rfl
  | .comp elt tg it cond => .gen (s_comp (sE elt).e (sIt it) (sEo cond).2) fun N sc x m => by obtain ⟨xe, xt, xi, xc, scope, pos, rfl, _⟩ := m_comp m; rfl
  | .comp2 elt tg it cond tg2 it2 cond2 => .gen (s_comp2 (sE elt).e (sIt it) (sEo cond).2 (sIt it2) (sEo cond2).2) fun N sc x m => by obtain ⟨xe, xt, xi, xc, xt2, xi2, xc2, scope, pos, rfl, _⟩ := m_comp2 m; rfl
  | .isE i c => .gen (s_isE i c) fun N sc x m => by obtain ⟨_, p1, n, p2, p3, pos, rfl, _⟩ := m_isE m; rfl
theorem sEs : ∀ es : Es, SEs fns consts k es
  | .nil => ⟨sas_nil, sab_nil, fun e h => by cases h⟩
  | .cons e es => ⟨sas_cons (sE e).e (sEs es).as_, sab_cons (sE e).e (sEs es).ab, fun e' h => by
      cases h
      exact (sE e).e⟩
theorem sEo : ∀ eo : Eo, SO fns consts k eo ∧ SC fns consts k eo
  | .none => ⟨so_none, sc_none⟩
  | .some e => ⟨so_some (sE e).e, sc_some (sE e).t⟩
theorem sIt : ∀ it : It, SI fns consts k it
  | .seq e => si_seq (sE e).e
  | .range1 e => si_range1 (sE e).e
  | .range2 a b => si_range2 (sE a).e (sE b).e
  | .zip a b => si_zip (sE a).e (sE b).e
  | .enum a => si_enum (sE a).e
end
end
end Qw

set_option Elab.async false
set_option linter.all false
set_option maxRecDepth 100000
set_option maxHeartbeats 4000000
/-! The state between statements. By an AI agent. -/
namespace Qw
open PySem PySem.Spec PyProof.Rows L2
/-- the addresses of the lists that the slots own -/
def OV (σ : L2.St) (ρ : Env) : Own := fun a => ∃ (i : Nat) (es : List D), ρ[i]? = some (.own es) ∧ σ[i]? = some (some (.ref a))
def Oo (O0 : Own) (σ : L2.St) (ρ : Env) : Own := fun a => O0 a ∨ OV σ ρ a
structure RelS (K : PySem.W.Frag) (T : XTy) (O0 : Own) (Hb H : Hp) (σ : L2.St) (ρ : Env) : Prop where
  rel : RelE K T H (Oo O0 σ ρ) σ ρ
  ex : Same Hb H
  new : ∀ a, OV σ ρ a → Hb a = none
  d0 : Dom O0 Hb
  dis : ∀ (i j : Nat) (es fs : List D) (p : Addr), ρ[i]? = some (.own es) → ρ[j]? = some (.own fs) → σ[i]? = some (some (.ref p)) → σ[j]? = some (some (.ref p)) → i = j
theorem set_ne {α : Type} {l : List α} {i j : Nat} {x y : α} (h : (l.set i x)[j]? = some y) (hn : i ≠ j) : l[j]? = some y := by
  rw [List.getElem?_set, if_neg hn] at h
  exact h
theorem set_at {α : Type} {l : List α} {i : Nat} {x y : α} (h : (l.set i x)[i]? = some y) : x = y ∧ i < l.length := by
  rw [List.getElem?_set, if_pos rfl] at h
  by_cases hl : i < l.length
  · rw [if_pos hl] at h; exact ⟨by cases h; rfl, hl⟩
  · rw [if_neg hl] at h; cases h
theorem get_ne {α : Type} {l : List α} {i j : Nat} {x : α} (hn : i ≠ j) : (l.set i x)[j]? = l[j]? := by rw [List.getElem?_set, if_neg hn]
theorem get_at {α : Type} {l : List α} {i : Nat} {x : α} (h : i < l.length) : (l.set i x)[i]? = some x := by rw [List.getElem?_set, if_pos rfl, if_pos h]
/-- caught exceptions stay where they are -/
theorem exc_set {T : XTy} {σ : L2.St} {ρ : Env} (hx : ∀ (j : Nat) (ex : Exc), ρ[j]? = some (.exc ex) → ∃ a, σ[j]? = some (some (.ref a)) ∧ T a ex) (hl : ρ.length = σ.length) {i : Nat} {x : Option V} {c : Cell} (hc : ∀ ex, c = .exc ex → ∃ a, x = some (.ref a) ∧ T a ex) (j : Nat) (ex : Exc) (h : (ρ.set i c)[j]? = some (.exc ex)) : ∃ a, (σ.set i x)[j]? = some (some (.ref a)) ∧ T a ex := by
  by_cases hj : i = j
  · subst hj
    obtain ⟨e1, e2⟩ := set_at h
    obtain ⟨a, e3, e4⟩ := hc ex e1
    exact ⟨a, by rw [get_at (by rw [← hl]; exact e2), e3], e4⟩
  · obtain ⟨a, e1, e2⟩ := hx j ex (set_ne h hj)
    exact ⟨a, by rw [get_ne hj]; exact e1, e2⟩
section
variable {K : PySem.W.Frag} {T : XTy} {O0 : Own} {Hb H H0 H' : Hp} {σ : L2.St} {ρ : Env}
theorem RelS.same (r : RelS K T O0 Hb H σ ρ) (s : Same H H') : RelS K T O0 Hb H' σ ρ := ⟨r.rel.same s, r.ex.trans s, r.new, r.d0, r.dis⟩
theorem mv_sub {O O' : Own} (h : ∀ a, O' a → O a) : Mv O H O' H := fun a o n e => ⟨e, fun z => n (h a z)⟩
theorem ov_set {i : Nat} {x : Option V} {c : Cell} (hc : ∀ es, c ≠ .own es) {a : Addr} (h : OV (σ.set i x) (ρ.set i c) a) : OV σ ρ a ∧ ∃ (j : Nat) (es : List D), j ≠ i ∧ ρ[j]? = some (.own es) ∧ σ[j]? = some (some (.ref a)) := by
  obtain ⟨j, es, h1, h2⟩ := h
  by_cases hj : i = j
  · subst hj
    exact absurd (set_at h1).1 (hc es)
  · exact ⟨⟨j, es, set_ne h1 hj, set_ne h2 hj⟩, j, es, fun z => hj z.symm, set_ne h1 hj, set_ne h2 hj⟩
theorem RelS.setCell (r : RelS K T O0 Hb H σ ρ) {i : Nat} {x : Option V} {c : Cell} (hc : ∀ es, c ≠ .own es) (hv : ∀ d, c = .val d → ∃ v, x = some v ∧ DR K H (Oo O0 (σ.set i x) (ρ.set i c)) v d) (hx : ∀ ex, c = .exc ex → ∃ a, x = some (.ref a) ∧ T a ex := by intro _ z; cases z) : RelS K T O0 Hb H (σ.set i x) (ρ.set i c) ∧ Mv (Oo O0 σ ρ) H (Oo O0 (σ.set i x) (ρ.set i c)) H := by
  have mv : Mv (Oo O0 σ ρ) H (Oo O0 (σ.set i x) (ρ.set i c)) H := mv_sub fun a z => z.elim .inl fun q => .inr (ov_set hc q).1
  refine ⟨⟨⟨by rw [List.length_set, List.length_set]; exact r.rel.len, fun a z => ?_, fun j d h => ?_, fun j es h => ?_, exc_set r.rel.exc r.rel.len hx⟩, r.ex, fun a z => r.new a (ov_set hc z).1, r.d0, fun j l es fs p h1 h2 h3 h4 => ?_⟩, mv⟩
  · rcases z with z | z
    · exact r.rel.dom a (.inl z)
    · exact r.rel.dom a (.inr (ov_set hc z).1)
  · by_cases hj : i = j
    · subst hj
      obtain ⟨e1, e2⟩ := set_at h
      obtain ⟨v, e3, e4⟩ := hv d e1
      exact ⟨v, by rw [get_at (by rw [← r.rel.len]; exact e2), e3], e4⟩
    · obtain ⟨v, e1, e2⟩ := r.rel.val j d (set_ne h hj)
      exact ⟨v, by rw [get_ne hj]; exact e1, DR.mv mv d v e2⟩
  · by_cases hj : i = j
    · subst hj
      exact absurd (set_at h).1 (hc es)
    · obtain ⟨p, xs, e1, e2, e3, e4⟩ := r.rel.own j es (set_ne h hj)
      have e1' : (σ.set i x)[j]? = some (some (.ref p)) := by rw [get_ne hj]; exact e1
      exact ⟨p, xs, e1', .inr ⟨j, es, h, e1'⟩, e3, DRs.mv mv es xs e4⟩
  · by_cases hj : i = j
    · subst hj; exact absurd (set_at h1).1 (hc es)
    · by_cases hl : i = l
      · subst hl; exact absurd (set_at h2).1 (hc fs)
      · exact r.dis j l es fs p (set_ne h1 hj) (set_ne h2 hl) (set_ne h3 hj) (set_ne h4 hl)
theorem RelS.setVal (r : RelS K T O0 Hb H σ ρ) {i : Nat} {v : V} {d : D} (dr : DR K H (Oo O0 σ ρ) v d) : RelS K T O0 Hb H (σ.set i (some v)) (ρ.set i (.val d)) ∧ Mv (Oo O0 σ ρ) H (Oo O0 (σ.set i (some v)) (ρ.set i (.val d))) H :=
  r.setCell (fun es z => by cases z) fun d' z => by
    cases z
    exact ⟨v, rfl, DR.mv (mv_sub fun a z => z.elim .inl fun q => .inr (ov_set (fun es z => by cases z) q).1) d v dr⟩
theorem RelS.unset (r : RelS K T O0 Hb H σ ρ) (i : Nat) (x : Option V) : RelS K T O0 Hb H (σ.set i x) (ρ.set i .un) ∧ Mv (Oo O0 σ ρ) H (Oo O0 (σ.set i x) (ρ.set i .un)) H :=
  r.setCell (fun es z => by cases z) fun d' z => by cases z
/-- a list that was made on the way is owned from now on -/
theorem RelS.setOwn (r : RelS K T O0 Hb H0 σ ρ) (s : Same H0 H) {i : Nat} {v : V} {es : List D} (nl : NewL K (Oo O0 σ ρ) H0 H v (.list es)) : RelS K T O0 Hb H (σ.set i (some v)) (ρ.set i (.own es)) ∧ Mv (Oo O0 σ ρ) H0 (Oo O0 (σ.set i (some v)) (ρ.set i (.own es))) H := by
  obtain ⟨p, xs, es', rfl, hp, hl, drs, e⟩ := nl
  cases e
  have ov : ∀ a, OV (σ.set i (some (.ref p))) (ρ.set i (.own es)) a → OV σ ρ a ∨ a = p := fun a ⟨j, fs, h1, h2⟩ => by
    by_cases hj : i = j
    · subst hj
      have := (set_at h2).1
      cases this
      exact .inr rfl
    · exact .inl ⟨j, fs, set_ne h1 hj, set_ne h2 hj⟩
  have sub : ∀ a, Oo O0 (σ.set i (some (.ref p))) (ρ.set i (.own es)) a → plus (Oo O0 σ ρ) p a := fun a z => z.elim (fun q => .inl (.inl q)) fun q => (ov a q).elim (fun q => .inl (.inr q)) .inr
  have mvp : Mv (plus (Oo O0 σ ρ) p) H (Oo O0 (σ.set i (some (.ref p))) (ρ.set i (.own es))) H := mv_sub sub
  have mv : Mv (Oo O0 σ ρ) H0 (Oo O0 (σ.set i (some (.ref p))) (ρ.set i (.own es))) H := (mv_plus hp s).trans mvp
  have hnp : ∀ a, OV σ ρ a → a ≠ p := fun a z e => by
    obtain ⟨o, q⟩ := r.rel.dom a (.inr z)
    rw [e, hp] at q
    cases q
  refine ⟨⟨⟨by rw [List.length_set, List.length_set]; exact r.rel.len, fun a z => ?_, fun j d h => ?_, fun j fs h => ?_, exc_set r.rel.exc r.rel.len (fun _ z => by cases z)⟩, r.ex.trans s, fun a z => ?_, r.d0, fun j l fs gs q h1 h2 h3 h4 => ?_⟩, mv⟩
  · rcases sub a z with q | q
    · obtain ⟨o, z⟩ := r.rel.dom a q
      exact ⟨o, s _ _ z⟩
    · exact ⟨_, by rw [q]; exact hl⟩
  · by_cases hj : i = j
    · subst hj
      exact absurd (set_at h).1 (by intro z; cases z)
    · obtain ⟨v, e1, e2⟩ := r.rel.val j d (set_ne h hj)
      exact ⟨v, by rw [get_ne hj]; exact e1, DR.mv mv d v e2⟩
  · by_cases hj : i = j
    · subst hj
      obtain ⟨e1, e2⟩ := set_at h
      cases e1
      have e3 : (σ.set i (some (V.ref p)))[i]? = some (some (.ref p)) := get_at (by rw [← r.rel.len]; exact e2)
      exact ⟨p, xs, e3, .inr ⟨i, es, h, e3⟩, hl, DRs.mv mvp es xs drs⟩
    · obtain ⟨q, ys, e1, e2, e3, e4⟩ := r.rel.own j fs (set_ne h hj)
      have e1' : (σ.set i (some (V.ref p)))[j]? = some (some (.ref q)) := by rw [get_ne hj]; exact e1
      exact ⟨q, ys, e1', .inr ⟨j, fs, h, e1'⟩, s _ _ e3, DRs.mv mv fs ys e4⟩
  · rcases ov a z with q | q
    · exact r.new a q
    · rw [q]; exact r.ex.free hp
  · by_cases hj : i = j
    · subst hj
      have hq : p = q := by have := (set_at h3).1; cases this; rfl
      by_cases hl' : i = l
      · exact hl'
      · exact absurd hq.symm (hnp q ⟨l, gs, set_ne h2 hl', set_ne h4 hl'⟩)
    · by_cases hl' : i = l
      · subst hl'
        have hq : p = q := by have := (set_at h4).1; cases this; rfl
        exact absurd hq.symm (hnp q ⟨j, fs, set_ne h1 hj, set_ne h3 hj⟩)
      · exact r.dis j l fs gs q (set_ne h1 hj) (set_ne h2 hl') (set_ne h3 hj) (set_ne h4 hl')
/-- an owned list is changed -/
theorem RelS.change (r : RelS K T O0 Hb H σ ρ) {i : Nat} {es es' : List D} {p : Addr} {xs xs' : List V} (hi : ρ[i]? = some (.own es)) (hs : σ[i]? = some (some (.ref p))) (hp : H p = some (.lst xs)) (drs : DRs K H (Oo O0 σ ρ) xs' es') :
    RelS K T O0 Hb (upd H p (.lst xs')) σ (ρ.set i (.own es')) ∧ Mv (Oo O0 σ ρ) H (Oo O0 σ (ρ.set i (.own es'))) (upd H p (.lst xs')) := by
  have hil : i < ρ.length := (List.getElem?_eq_some_iff.mp hi).1
  have op : Oo O0 σ ρ p := .inr ⟨i, es, hi, hs⟩
  have ov : ∀ a, OV σ (ρ.set i (.own es')) a → OV σ ρ a := fun a ⟨j, fs, h1, h2⟩ => by
    by_cases hj : i = j
    · subst hj
      exact ⟨i, es, hi, h2⟩
    · exact ⟨j, fs, set_ne h1 hj, h2⟩
  have mv : Mv (Oo O0 σ ρ) H (Oo O0 σ (ρ.set i (.own es'))) (upd H p (.lst xs')) := fun a o n e => ⟨by
    rw [upd_ne fun q => n (by rw [q]; exact op)]
    exact e, fun z => n (z.elim .inl fun q => .inr (ov a q))⟩
  refine ⟨⟨⟨by rw [List.length_set]; exact r.rel.len, fun a z => ?_, fun j d h => ?_, fun j fs h => ?_, fun j ex h => (by
    by_cases hj : i = j
    · subst hj; exact absurd (set_at h).1 (by intro z; cases z)
    · exact r.rel.exc j ex (set_ne h hj))⟩, fun a o e => ?_, fun a z => r.new a (ov a z), r.d0, fun j l fs gs q h1 h2 h3 h4 => ?_⟩, mv⟩
  · by_cases ha : a = p
    · exact ⟨_, by rw [ha]; exact upd_same⟩
    · obtain ⟨o, q⟩ := r.rel.dom a (z.elim .inl fun q => .inr (ov a q))
      exact ⟨o, by rw [upd_ne ha]; exact q⟩
  · by_cases hj : i = j
    · subst hj
      exact absurd (set_at h).1 (by intro z; cases z)
    · obtain ⟨v, e1, e2⟩ := r.rel.val j d (set_ne h hj)
      exact ⟨v, e1, DR.mv mv d v e2⟩
  · by_cases hj : i = j
    · subst hj
      obtain ⟨e1, e2⟩ := set_at h
      cases e1
      exact ⟨p, xs', hs, .inr ⟨i, es', h, hs⟩, upd_same, DRs.mv mv es' xs' drs⟩
    · obtain ⟨q, ys, e1, e2, e3, e4⟩ := r.rel.own j fs (set_ne h hj)
      have hne : q ≠ p := fun z => hj (r.dis i j es fs p hi (set_ne h hj) hs (by rw [← z]; exact e1))
      exact ⟨q, ys, e1, .inr ⟨j, fs, h, e1⟩, by rw [upd_ne hne]; exact e3, DRs.mv mv fs ys e4⟩
  · have hn : a ≠ p := fun z => by
      have := r.new p ⟨i, es, hi, hs⟩
      rw [← z, e] at this
      cases this
    rw [upd_ne hn]
    exact r.ex _ _ e
  · have back : ∀ (j : Nat) (fs : List D), (ρ.set i (.own es'))[j]? = some (.own fs) → ∃ fs', ρ[j]? = some (.own fs') := fun j fs h => by
      by_cases hj : i = j
      · subst hj; exact ⟨es, hi⟩
      · exact ⟨fs, set_ne h hj⟩
    obtain ⟨f1, g1⟩ := back j fs h1
    obtain ⟨f2, g2⟩ := back l gs h2
    exact r.dis j l f1 f2 q g1 g2 h3 h4
/-- an owned list is let go: a datum like any other from now on -/
theorem RelS.release (r : RelS K T O0 Hb H σ ρ) (i : Nat) : RelS K T O0 Hb H σ (relE i ρ) ∧ Mv (Oo O0 σ ρ) H (Oo O0 σ (relE i ρ)) H := by
  unfold relE
  cases hi : ρ[i]? with
  | none => exact ⟨r, Mv.refl _ _⟩
  | some c =>
    cases c with
    | own es =>
      obtain ⟨p, xs, e1, e2, e3, e4⟩ := r.rel.own i es hi
      have hset : σ.set i (some (.ref p)) = σ := by
        apply List.ext_getElem?
        intro j
        by_cases hj : i = j
        · subst hj
          rw [get_at (List.getElem?_eq_some_iff.mp e1).1, e1]
        · rw [get_ne hj]
      have h := r.setCell (i := i) (x := some (.ref p)) (c := .val (.list es)) (fun es z => by cases z) fun d z => by
        cases z
        refine ⟨_, rfl, .lst (fun z => ?_) e3 (DRs.mv (mv_sub fun a z => z.elim .inl fun q => .inr (ov_set (fun es z => by cases z) q).1) es xs e4)⟩
        have hb : Hb p = none := r.new p ⟨i, es, hi, e1⟩
        rcases z with z | z
        · obtain ⟨o, q⟩ := r.d0 p z
          rw [hb] at q
          cases q
        · obtain ⟨_, j, fs, hj, h1, h2⟩ := ov_set (fun es z => by cases z) z
          exact hj (r.dis j i fs es p h1 hi h2 e1)
      rw [hset] at h
      exact h
    | _ => exact ⟨r, Mv.refl _ _⟩
end
end Qw

set_option Elab.async false
set_option linter.all false
set_option maxRecDepth 100000
set_option maxHeartbeats 4000000
/-! Statements. By an AI agent. -/
namespace Qw
open PySem PySem.Spec PyProof.Rows L2
/-! ### the syntax taken apart -/
def zAsg : Stmt → Option (Expr × Expr × Pos)
  | .Assign ts e pos => (list1 ts).map fun t => (t, e, pos)
  | _ => none
theorem zAsg_of {st : Stmt} {t e : Expr} {pos : Pos} (h : zAsg st = some (t, e, pos)) : st = .Assign [t] e pos := by
  cases st with
  | Assign ts e' pos' =>
    have h : (list1 ts).map (fun t => (t, e', pos')) = some (t, e, pos) := h
    cases q : list1 ts with
    | none => rw [q] at h; cases h
    | some u => rw [q] at h; cases h; rw [list1_of q]
  | _ => cases h
def zAug : Stmt → Option (Expr × Operator × Expr)
  | .AugAssign t o e _ => some (t, o, e)
  | _ => none
theorem zAug_of {st : Stmt} {t e : Expr} {o : Operator} (h : zAug st = some (t, o, e)) : ∃ pos, st = .AugAssign t o e pos := by
  cases st <;> first | (cases h; exact ⟨_, rfl⟩) | cases h
def zExpr : Stmt → Option Expr
  | .Expr e _ => some e
  | _ => none
theorem zExpr_of {st : Stmt} {e : Expr} (h : zExpr st = some e) : ∃ pos, st = .Expr e pos := by
  cases st <;> first | (cases h; exact ⟨_, rfl⟩) | cases h
def zRet : Stmt → Option (Option Expr)
  | .Return e _ => some e
  | _ => none
theorem zRet_of {st : Stmt} {e : Option Expr} (h : zRet st = some e) : ∃ pos, st = .Return e pos := by
  cases st <;> first | (cases h; exact ⟨_, rfl⟩) | cases h
def zIf : Stmt → Option (Expr × List Stmt × List Stmt)
  | .If c a b _ => some (c, a, b)
  | _ => none
theorem zIf_of {st : Stmt} {c : Expr} {a b : List Stmt} (h : zIf st = some (c, a, b)) : ∃ pos, st = .If c a b pos := by
  cases st <;> first | (cases h; exact ⟨_, rfl⟩) | cases h
def zFor : Stmt → Option (Expr × Expr × List Stmt)
  | .For t i b o _ => if isNil o then some (t, i, b) else none
  | _ => none
theorem zFor_of {st : Stmt} {t i : Expr} {b : List Stmt} (h : zFor st = some (t, i, b)) : ∃ pos, st = .For t i b [] pos := by
  cases st with
  | For t' i' b' o pos =>
    have h : (if isNil o then some (t', i', b') else none) = some (t, i, b) := h
    by_cases hn : isNil o = true
    · rw [if_pos hn] at h; cases h; rw [isNil_of hn]; exact ⟨_, rfl⟩
    · rw [if_neg hn] at h; cases h
  | _ => cases h
def zWhile : Stmt → Option (Expr × List Stmt)
  | .While c b o _ => if isNil o then some (c, b) else none
  | _ => none
theorem zWhile_of {st : Stmt} {c : Expr} {b : List Stmt} (h : zWhile st = some (c, b)) : ∃ pos, st = .While c b [] pos := by
  cases st with
  | While c' b' o pos =>
    have h : (if isNil o then some (c', b') else none) = some (c, b) := h
    by_cases hn : isNil o = true
    · rw [if_pos hn] at h; cases h; rw [isNil_of hn]; exact ⟨_, rfl⟩
    · rw [if_neg hn] at h; cases h
  | _ => cases h
/-- raise X('..') -/
def zRaise : Stmt → Option Str
  | .Raise (some (.Call (.Name x _) [.Constant (.str _) _ _] [] _)) none _ => some x
  | _ => none
theorem zRaise_of {st : Stmt} {x : Str} (h : zRaise st = some x) : ∃ p m j p2 p3 pos, st = .Raise (some (.Call (.Name x p) [.Constant (.str m) j p2] [] p3)) none pos := by
  unfold zRaise at h
  split at h
  · cases h
    exact ⟨_, _, _, _, _, _, rfl⟩
  · cases h
/-- try: .. except ..: .., without else and finally -/
def zTry : Stmt → Option (List Stmt × List ExceptHandler)
  | .Try b h o f _ => if isNil o && isNil f then some (b, h) else none
  | _ => none
theorem zTry_of {st : Stmt} {b : List Stmt} {h : List ExceptHandler} (e : zTry st = some (b, h)) : ∃ pos, st = .Try b h [] [] pos := by
  cases st with
  | Try b' h' o f pos =>
    have e : (if isNil o && isNil f then some (b', h') else none) = some (b, h) := e
    by_cases hn : (isNil o && isNil f) = true
    · rw [if_pos hn] at e
      rw [Bool.and_eq_true] at hn
      cases e
      rw [isNil_of hn.1, isNil_of hn.2]
      exact ⟨_, rfl⟩
    · rw [if_neg hn] at e; cases e
  | _ => cases e
/-- except x as n: .. -/
def zHd : ExceptHandler → Option (Str × Str × List Stmt)
  | .ExceptHandler (some (.Name x _)) (some n) b _ => some (x, n, b)
  | _ => none
theorem zHd_of {h : ExceptHandler} {x n : Str} {b : List Stmt} (e : zHd h = some (x, n, b)) : ∃ p pos, h = .ExceptHandler (some (.Name x p)) (some n) b pos := by
  unfold zHd at e
  split at e
  · cases e
    exact ⟨_, _, rfl⟩
  · cases e
def isPassX : Stmt → Bool
  | .Pass _ => true
  | _ => false
/-- x, y = p, q -/
def zPar : Stmt → Option (Str × Str × Pos × Pos × Expr × Expr)
  | .Assign [.Tuple [.Name x px, .Name y py] _ _] (.Tuple [p, q] _ _) _ => some (x, y, px, py, p, q)
  | _ => none
theorem zPar_of {st : Stmt} {x y : Str} {px py : Pos} {p q : Expr} (h : zPar st = some (x, y, px, py, p, q)) : ∃ k1 p1 k2 p2 pos, st = .Assign [.Tuple [.Name x px, .Name y py] k1 p1] (.Tuple [p, q] k2 p2) pos := by
  unfold zPar at h
  split at h
  · cases h
    exact ⟨_, _, _, _, _, rfl⟩
  · cases h
def locB (sc : Scope) (x : Str) : Bool := match sc.names.lookup x with
  | some .local => true
  | _ => false
theorem locB_of {sc : Scope} {x : Str} (h : locB sc x = true) : sc.names.lookup x = some .local := by
  unfold locB at h
  split at h
  · assumption
  · cases h
/-- x.name(e) -/
def xMeth : Expr → Option (Str × Str × Expr × Pos × Pos)
  | .Call (.Attribute (.Name x _) f ap) args [] cp => (list1 args).map fun e => (x, f, e, ap, cp)
  | _ => none
theorem xMeth_of {x : Expr} {n f : Str} {e : Expr} {ap cp : Pos} (h : xMeth x = some (n, f, e, ap, cp)) : ∃ p, x = .Call (.Attribute (.Name n p) f ap) [e] [] cp := by
  cases x with
  | Call g args kws pos =>
    cases g with
    | Attribute o f' ap' =>
      cases o with
      | Name m p =>
        cases kws with
        | nil =>
          have h : (list1 args).map (fun e => (m, f', e, ap', pos)) = some (n, f, e, ap, cp) := h
          cases q : list1 args with
          | none => rw [q] at h; cases h
          | some u => rw [q] at h; cases h; rw [list1_of q]; exact ⟨p, rfl⟩
        | cons _ _ => cases h
      | _ => cases h
    | _ => cases h
  | _ => cases h
def isCallX : Expr → Bool
  | .Call .. => true
  | _ => false
def noComp : Expr → Bool
  | .SetComp .. => false
  | .DictComp .. => false
  | _ => true
def notTupX : Expr → Bool
  | .Tuple .. => false
  | _ => true
def isComp : E → Bool
  | .comp .. => true
  | .comp2 .. => true
  | _ => false
/-- the comprehension's value is stored within its own frame -/
def swB (sc : Scope) (x : Str) (px : Pos) : Expr → Bool
  | .ListComp _ _ s p => (sc.names.lookup x == some .local) && (px.line == p.line) && !(s.names.any fun (n, k) => n == x && (k == .local || k == .cell))
  | _ => false
theorem swaps_of {env : PySem.Env} {x : Str} {px : Pos} {e : Expr} {l : Nat} (hk : env.scope.kind = .function) (hn : noComp e = true) : swapsWith e (some (.Name x px)) l env = pure (swB env.scope x px e) := by
  have hb : env.blockKind = .function := by unfold Env.blockKind; rw [hk]; rfl
  cases e with
  | ListComp a b s p =>
    unfold swapsWith swB
    simp only [hb, Env.kindOf, Expr.pos]
    rfl
  | SetComp a b s p => cases hn
  | DictComp a b c s p => cases hn
  | _ => rfl
def tgFn (N : List Str) (sc : Scope) (i : Nat) : Expr → Bool := tgName N sc i
section
variable (fns : List Fn) (consts : List (Str × D)) (exns : List Str)
/-- a plain store: name, value -/
def mAsg (N : List Str) (sc : Scope) (i : Nat) (e : E) (st : Stmt) : Bool := match zAsg st with
  | some (t, v, _) => (match t with
    | .Name x px => tgName N sc i (.Name x px) && noComp v && mE fns consts N sc e v && (!swB sc x px v || isComp e)
    | _ => false)
  | none => false
end
def clsB (consts : List (Str × D)) (cls : List Str) : Bool := cls.all fun c => match consts.lookup c with
  | some (.dict []) => true
  | _ => false
def slot1 : Hs → Nat
  | .cons _ i _ _ => i
  | .nil => 0
mutual
def mS (fns : List Fn) (consts : List (Str × D)) (N : List Str) (sc : Scope) (lp : Bool) : S → Stmt → Bool
  | .asg i e, st => mAsg fns consts N sc i e st
  | .asgOwn i e, st => mAsg fns consts N sc i e st
  | .asgT is e, st => match zAsg st with
    | some (t, v, _) => !isNil fns && (match t with
      | .Tuple ts _ _ => tgNames N sc is ts
      | _ => false) && noComp v && notTupX v && mE fns consts N sc e v
    | none => false
  | .par i j a b, st => match zPar st with
    | some (x, y, px, py, p, q) => !isNil fns && !decide (i = j) && nameOk N i x && nameOk N j y && locB sc x && locB sc y && (px.line == py.line) && plainX p && plainX q && !([p, q].all (foldedForSure 8)) && !([p, q].all (constantsAlone 8)) && mE fns consts N sc a p && mE fns consts N sc b q
    | none => false
  | .setIx i k e, st => match zAsg st with
    | some (t, v, _) => (match t with
      | .Subscript o kx _ => mE fns consts N sc (.var i) o && mE fns consts N sc k kx && plainX kx
      | _ => false) && noComp v && notTupX v && mE fns consts N sc e v
    | none => false
  | .app i e, st => match zExpr st with
    | some x => (match xMeth x with
      | some (n, f, v, ap, cp) => decide (f = "append") && (ap.endLine == cp.line) && mE fns consts N sc (.var i) (.Name n ap) && plainX v && mE fns consts N sc e v
      | none => false)
    | none => false
  | .ext i e, st => match zExpr st with
    | some x => (match xMeth x with
      | some (n, f, v, ap, cp) => decide (f = "extend") && (ap.endLine == cp.line) && mE fns consts N sc (.var i) (.Name n ap) && plainX v && mE fns consts N sc e v
      | none => false)
    | none => false
  | .aug i op e, st => match zAug st with
    | some (t, o, v) => tgName N sc i t && mE fns consts N sc e v && (match op, o with
      | .add, .Add => true
      | .sub, .Sub => true
      | _, _ => false)
    | none => false
  | .expr e, st => match zExpr st with
    | some x => isCallX x && mE fns consts N sc e x
    | none => false
  | .ret e, st => match zRet st with
    | some (some x) => mE fns consts N sc e x
    | _ => false
  | .retN, st => match zRet st with
    | some none => true
    | _ => false
  | .ite c a b, st => match zIf st with
    | some (x, p, q) => tOk c && mE fns consts N sc c x && mSs fns consts N sc lp a p && mSs fns consts N sc lp b q
    | none => false
  | .forS tg it body, st => match zFor st with
    | some (t, i, b) => !isNil fns && lp && tgB N sc tg t && mIt fns consts N sc it t i && plainX i && mSs fns consts N sc lp body b
    | none => false
  | .whileS c body, st => match zWhile st with
    | some (x, b) => lp && tOk c && mE fns consts N sc c x && mSs fns consts N sc lp body b
    | none => false
  | .raise c, st => match zRaise st with
    | some x => !isNil fns && decide (x = c) && glB sc x && !(x == ("__debug__" : Str)) && (match consts.lookup c with
      | some (.dict []) => true
      | _ => false)
    | none => false
  | .tryS cls body hs, st => match zTry st with
    | some (b, hds) => !isNil fns && !isNil hds && clsB consts cls && mSs fns consts N sc lp body b && mHs consts N sc (slot1 hs) hs hds
    | none => false
  | .pass, st => isPassX st
  | .never, _ => true
def mSs (fns : List Fn) (consts : List (Str × D)) (N : List Str) (sc : Scope) (lp : Bool) : Ss → List Stmt → Bool
  | .nil, sts => isNil sts
  | .cons s ss, sts => match sts with
    | st :: r => mS fns consts N sc lp s st && mSs fns consts N sc lp ss r
    | [] => false
  | .rel _ ss, sts => mSs fns consts N sc lp ss sts
def mHs (consts : List (Str × D)) (N : List Str) (sc : Scope) (i0 : Nat) : Hs → List ExceptHandler → Bool
  | .nil, hds => isNil hds
  | .cons c i body hs, hds => match hds with
    | h :: r => (match zHd h with
      | some (x, n, b) => decide (x = c) && decide (i = i0) && glB sc c && !(c == ("__debug__" : Str)) && (match consts.lookup c with
        | some (.dict []) => true
        | _ => false) && nameOk N i n && (match sc.names.lookup n with
        | some .local => true
        | _ => false) && !isNil b && mSs [] consts N sc false body b
      | none => false) && mHs consts N sc i0 hs r
    | [] => false
end
structure GdS (fns : List Fn) (consts : List (Str × D)) (k : Nat) (lp : Bool) (X : Cx) (W : WT) : Prop where
  g : Gd fns consts k X W
  kind : X.env.scope.kind = .function
  fa : ∀ x, X.fn x = true
  po : lp = true → PassesOwn (model X.prog X.w) X.A X.env X.xe
  stk : X.stack = X.env :: X.outer
  fr : X.env.frame = some X.env.locals
  tno : (!isNil fns) = true → ∀ a x, ¬ W.t a x
/-! ### readings -/
def rdS (X : Cx) (W : WT) (O0 : Own) (Hb : Hp) (Ob : Own) (Hm : Hp) (r : Res) (Dn : Ends) : Prop := match r with
  | .next ρ' => ∀ σ' H', RelS X.K W.t O0 Hb H' σ' ρ' → Mv Ob Hm (Oo O0 σ' ρ') H' → Dn.nx σ' H'
  | .ret d => ∀ v H', Same Hb H' → DR X.K H' O0 v d → Dn.rt v H'
  | .err x ρ' => ∀ σ' H', RelS X.K W.t O0 Hb H' σ' ρ' → Mv Ob Hm (Oo O0 σ' ρ') H' → ErrOk X.mg (fun c d H'' => W.w c d σ' H'') x H'
  | .bad => False
section
variable (fns : List Fn) (consts : List (Str × D)) (k : Nat)
def tSt (X : Cx) (W : WT) (s : S) : TS := fun Dn σ H => ∃ O0 Hb ρ Ob Hm, RelS X.K W.t O0 Hb H σ ρ ∧ Mv Ob Hm (Oo O0 σ ρ) H ∧ rdS X W O0 Hb Ob Hm (evS (evFn fns k) ρ s) Dn
def tSs (X : Cx) (W : WT) (ss : Ss) : TS := fun Dn σ H => ∃ O0 Hb ρ Ob Hm, RelS X.K W.t O0 Hb H σ ρ ∧ Mv Ob Hm (Oo O0 σ ρ) H ∧ rdS X W O0 Hb Ob Hm (evSs (evFn fns k) ρ ss) Dn
def SSt (s : S) : Prop := ∀ (X : Cx) (W : WT) (lp : Bool) (st : Stmt), GdS fns consts k lp X W → mS fns consts X.N X.env.scope lp s st = true → PS X st (tSt fns k X W s)
def SSs (ss : Ss) : Prop := ∀ (X : Cx) (W : WT) (lp : Bool) (sts : List Stmt), GdS fns consts k lp X W → mSs fns consts X.N X.env.scope lp ss sts = true → PSs X sts (tSs fns k X W ss)
end
theorem PS.sized {X : Cx} {st : Stmt} {t : TS} (h : PS X st t) : PS X st (fun Dn σ H => Sz H → t { nx := fun σ' H' => Sz H' → Dn.nx σ' H', rt := fun v H' => Sz H' → Dn.rt v H', bk := Dn.bk, ct := Dn.ct } σ H) := ⟨fun pins s σ H Dn I q => by
  refine thn (h.run pins s σ H _ I (q (Inv.sz' I))) fun f s' hq => ?_
  cases f with
  | next => obtain ⟨σ', H', I', q'⟩ := hq; exact ⟨σ', H', I', q' (Inv.sz' I')⟩
  | ret u => obtain ⟨v, σ', H', I', r', q'⟩ := hq; exact ⟨v, σ', H', I', r', q' (Inv.sz' I')⟩
  | brk => exact hq
  | cont => exact hq⟩
section
variable {fns : List Fn} {consts : List (Str × D)} {k : Nat}
theorem nm_fn {X : Cx} {i : Nat} {e : Expr} (hf : ∀ x, X.fn x = true) (h : tgName X.N X.env.scope i e = true) : NmOk X i e := by
  cases e with
  | Name x pos =>
    unfold tgName at h
    simp only [Bool.and_eq_true, decide_eq_true_eq] at h
    obtain ⟨h1, h2⟩ := h
    refine ⟨x, pos, rfl, h1, ?_, .inl (hf x)⟩
    split at h2
    · exact .inl (by assumption)
    · exact .inr (by assumption)
    · cases h2
  | _ => cases h
theorem nms_fn {X : Cx} (hf : ∀ x, X.fn x = true) : ∀ {is : List Nat} {es : List Expr}, tgNames X.N X.env.scope is es = true → NmsOk X is es
  | [], [], _ => .nil
  | i :: is, e :: es, h => by
    unfold tgNames at h
    rw [Bool.and_eq_true] at h
    exact .cons (nm_fn hf h.1) (nms_fn hf h.2)
  | [], _ :: _, h => by cases h
  | _ :: _, [], h => by cases h
theorem tg_fn {X : Cx} {tg : Tg} {e : Expr} (hf : ∀ x, X.fn x = true) (h : tgB X.N X.env.scope tg e = true) : TgOk X tg e := by
  cases tg with
  | one i => exact nm_fn hf h
  | many is =>
    cases e with
    | Tuple es j pos => exact ⟨es, j, pos, rfl, nms_fn hf h⟩
    | _ => cases h
/-- an expression's answer, then the rest of a statement -/
theorem rd_then {X : Cx} {W : WT} {O0 : Own} {Hb Hm H : Hp} {Ob : Own} {σ : L2.St} {ρ : Env} {r : R D} {f : D → Res} {Dn : Ends} {new : Bool} {Q : VK} (rs : RelS X.K W.t O0 Hb H σ ρ) (mv : Mv Ob Hm (Oo O0 σ ρ) H) (q : rdS X W O0 Hb Ob Hm (rThen ρ r f) Dn)
    (h : ∀ d v H1, r = .ok d → Same H H1 → DR X.K H1 (Oo O0 σ ρ) v d → (new = true → NewL X.K (Oo O0 σ ρ) H H1 v d) → rdS X W O0 Hb Ob Hm (f d) Dn → Q v H1) : rdE X W (Oo O0 σ ρ) σ H new r Q := by
  cases r with
  | bad => exact q.elim
  | err x => exact fun H' s' => q σ H' (rs.same s') (mv.trans (Mv.same s'))
  | ok d => exact fun v H1 s1 z1 dr nw => h d v H1 rfl s1 dr nw q
theorem ss_pass : SSt fns consts k .pass := by
  intro X W lp st g m
  cases st with
  | Pass pos => exact PS.weak ps_pass fun Dn σ H ⟨O0, Hb, ρ, Ob, Hm, rs, mv, q⟩ => by unfold evS at q; exact q σ H rs mv
  | _ => unfold mS at m; cases m
theorem ss_never : SSt fns consts k .never := by
  intro X W lp st g m
  exact PS.weak ps_never fun Dn σ H ⟨O0, Hb, ρ, Ob, Hm, rs, mv, q⟩ => by unfold evS at q; exact q
theorem ss_ret (e : E) : SSt fns consts k (.ret e) := by
  intro X W lp st g m
  unfold mS at m
  cases hz : zRet st with
  | none => rw [hz] at m; cases m
  | some o =>
    rw [hz] at m
    cases o with
    | none => cases m
    | some x =>
      obtain ⟨pos, rfl⟩ := zRet_of hz
      refine PS.weak (ps_ret ((sE e).e X W x g.g m)) fun Dn σ H ⟨O0, Hb, ρ, Ob, Hm, rs, mv, q⟩ => ?_
      unfold evS at q
      refine ⟨Oo O0 σ ρ, ρ, rs.rel, rd_then rs mv q fun d v H1 _ s1 dr _ q1 => ?_⟩
      exact q1 v H1 (rs.ex.trans s1) (DR.mv (mv_sub fun a z => .inl z) d v dr)
theorem ss_retN : SSt fns consts k .retN := by
  intro X W lp st g m
  unfold mS at m
  cases hz : zRet st with
  | none => rw [hz] at m; cases m
  | some o =>
    rw [hz] at m
    cases o with
    | some x => cases m
    | none =>
      obtain ⟨pos, rfl⟩ := zRet_of hz
      refine PS.weak ps_retN fun Dn σ H ⟨O0, Hb, ρ, Ob, Hm, rs, mv, q⟩ => ?_
      unfold evS at q
      exact q .non H rs.ex .non
theorem ss_expr (e : E) : SSt fns consts k (.expr e) := by
  intro X W lp st g m
  unfold mS at m
  cases hz : zExpr st with
  | none => rw [hz] at m; cases m
  | some x =>
    rw [hz] at m
    simp only [Bool.and_eq_true] at m
    obtain ⟨pos, rfl⟩ := zExpr_of hz
    have hs : swapsWith x none pos.line X.env = pure false := by
      cases x <;> first | rfl | (obtain ⟨h, _⟩ := m; cases h)
    refine PS.weak (ps_expr ((sE e).e X W x g.g m.2) hs) fun Dn σ H ⟨O0, Hb, ρ, Ob, Hm, rs, mv, q⟩ => ?_
    unfold evS at q
    refine ⟨Oo O0 σ ρ, ρ, rs.rel, rd_then rs mv q fun d v H1 _ s1 dr _ q1 => ?_⟩
    exact q1 σ H1 (rs.same s1) (mv.trans (Mv.same s1))
/-- a store: the value's reading, wherever it is stored -/
theorem asg_ps {i : Nat} {e : E} {X : Cx} {W : WT} {lp : Bool} {st : Stmt} (g : GdS fns consts k lp X W) (m : mAsg fns consts X.N X.env.scope i e st = true) : ∃ t : TE, PS X st (tAsg t (gName i)) ∧ ∀ σ H Q O ρ, RelE X.K W.t H O σ ρ → rdE X W O σ H (isNew e) (ev fns k ρ e) Q → t σ H (fun v H' => Sz H' → Q v H') := by
  unfold mAsg at m
  cases hz : zAsg st with
  | none => rw [hz] at m; cases m
  | some z =>
    obtain ⟨t, v, pos⟩ := z
    rw [hz] at m
    dsimp only at m
    have hst := zAsg_of hz
    subst hst
    cases t with
    | Name x px =>
      simp only [Bool.and_eq_true, Bool.or_eq_true, Bool.not_eq_true'] at m
      obtain ⟨⟨⟨h1, h2⟩, h3⟩, h4⟩ := m
      obtain ⟨x', pos', e', n1, n2, n3⟩ := nm_fn g.fa h1
      cases e'
      have hsw := swaps_of (env := X.env) (x := x) (px := px) (e := v) (l := pos.line) g.kind h2
      cases hb : swB X.env.scope x px v with
      | false =>
        rw [hb] at hsw
        refine ⟨tE fns k X W e, ps_set g.g.nd n1 n2 ((sE e).e X W v g.g h3) hsw (.inl (g.fa x)), fun σ H Q O ρ r q => ⟨O, ρ, r, ?_⟩⟩
        revert q
        generalize ev fns k ρ e = z
        intro q
        cases z with
        | ok d => exact fun v H' s z dr nw z2 => q v H' s z dr nw
        | err x => exact q
        | bad => exact q
      | true =>
        rw [hb] at hsw h4
        have hloc : X.env.scope.names.lookup x = some .local := by
          cases v with
          | ListComp a b s p =>
            unfold swB at hb
            simp only [Bool.and_eq_true] at hb
            have := hb.1.1
            revert this
            cases X.env.scope.names.lookup x with
            | none => intro h; cases h
            | some kd => cases kd <;> intro h <;> first | rfl | cases h
          | _ => cases hb
        rcases h4 with h4 | h4
        · cases h4
        · cases e with
          | comp elt tg it cond => exact ⟨_, ps_comp (sE elt).e (sIt it) (sEo cond).2 g.g h3 n1 hloc hsw, fun σ H Q O ρ r q => comp_rd r q⟩
          | comp2 elt tg it cond tg2 it2 cond2 => exact ⟨_, ps_comp2 (sE elt).e (sIt it) (sEo cond).2 (sIt it2) (sEo cond2).2 g.g h3 n1 hloc hsw, fun σ H Q O ρ r q => comp2_rd r q⟩
          | _ => cases h4
    | _ => cases m
theorem ss_asg (i : Nat) (e : E) : SSt fns consts k (.asg i e) := by
  intro X W lp st g m
  unfold mS at m
  obtain ⟨t, hp, ht⟩ := asg_ps g m
  refine PS.weak (PS.sized hp) fun Dn σ H ⟨O0, Hb, ρ, Ob, Hm, rs, mv, q⟩ z => ?_
  unfold evS at q
  refine ht σ H (fun v H1 => Dn.nx (σ.set i (some v)) H1) (Oo O0 σ ρ) ρ rs.rel (rd_then rs mv q fun d v H1 _ s1 dr _ q1 => ?_)
  obtain ⟨r2, m2⟩ := (rs.same s1).setVal (i := i) dr
  exact q1 _ H1 r2 ((mv.trans (Mv.same s1)).trans m2)
theorem ss_asgOwn (i : Nat) (e : E) : SSt fns consts k (.asgOwn i e) := by
  intro X W lp st g m
  unfold mS at m
  obtain ⟨t, hp, ht⟩ := asg_ps g m
  refine PS.weak (PS.sized hp) fun Dn σ H ⟨O0, Hb, ρ, Ob, Hm, rs, mv, q⟩ z => ?_
  unfold evS at q
  by_cases hn : isNew e = true
  · rw [if_pos hn] at q
    refine ht σ H (fun v H1 => Dn.nx (σ.set i (some v)) H1) (Oo O0 σ ρ) ρ rs.rel (rd_then rs mv q fun d v H1 _ s1 dr nw q1 => ?_)
    cases d with
    | list es =>
      obtain ⟨r2, m2⟩ := rs.setOwn s1 (i := i) (nw hn)
      exact q1 _ H1 r2 (mv.trans m2)
    | _ => exact q1.elim
  · rw [if_neg hn] at q
    exact q.elim
end
end Qw

set_option Elab.async false
set_option linter.all false
set_option maxRecDepth 100000
set_option maxHeartbeats 4000000
/-! Statements, further. By an AI agent. -/
namespace Qw
open PySem PySem.Spec PyProof.Rows L2
theorem setAll_notin : ∀ {is : List Nat} {ds : List D} {ρ ρ' : Env} {j : Nat} {es : List D}, setAll is ds ρ = some ρ' → ρ'[j]? = some (.own es) → j ∉ is
  | [], [], _, _, _, _, _, _ => by simp
  | [], _ :: _, _, _, _, _, h, _ => by cases h
  | _ :: _, [], _, _, _, _, h, _ => by cases h
  | i :: is, d :: ds, ρ, ρ', j, es, h, h' => by
    have h : setAll is ds (ρ.set i (.val d)) = some ρ' := h
    have h1 := setAll_notin h h'
    have h2 := setAll_own h h'
    intro hm
    rcases List.mem_cons.mp hm with e | e
    · subst e
      exact absurd (set_at h2).1 (by intro z; cases z)
    · exact h1 e
theorem bind_notin {tg : Tg} {d : D} {ρ ρ' : Env} {j : Nat} {es : List D} (h : bindTg tg d ρ = some ρ') (h' : ρ'[j]? = some (.own es)) : j ∉ tg.slots := by
  cases tg with
  | one i =>
    cases h
    intro hm
    have e : j = i := by simpa [Tg.slots] using hm
    subst e
    exact absurd (set_at h').1 (by intro z; cases z)
  | many is =>
    cases d with
    | tuple ds => exact setAll_notin h h'
    | _ => cases h
section
variable {K : PySem.W.Frag} {T : XTy} {O0 : Own} {Hb H H0 H' : Hp} {σ σ' : L2.St} {ρ ρ' : Env}
/-- the slots behind a target's store -/
theorem RelS.bind (r : RelS K T O0 Hb H σ ρ) {tg : Tg} {d : D} (hb : bindTg tg d ρ = some ρ') (r' : RelE K T H (Oo O0 σ ρ) σ' ρ') (hw : L2.wipe σ' tg.slots = L2.wipe σ tg.slots) : RelS K T O0 Hb H σ' ρ' ∧ Mv (Oo O0 σ ρ) H (Oo O0 σ' ρ') H := by
  have hg : ∀ (j : Nat) (es : List D), ρ'[j]? = some (Cell.own es) → ρ[j]? = some (Cell.own es) ∧ σ'[j]? = σ[j]? := fun j es h => by
    refine ⟨bind_own hb h, ?_⟩
    have hn := bind_notin hb h
    have := congrArg (fun z : L2.St => z[j]?) hw
    simp only [wipe_get, if_neg hn] at this
    exact this
  have ov : ∀ a, OV σ' ρ' a → OV σ ρ a := fun a ⟨j, es, h1, h2⟩ => ⟨j, es, (hg j es h1).1, by rw [← (hg j es h1).2]; exact h2⟩
  have mv : Mv (Oo O0 σ ρ) H (Oo O0 σ' ρ') H := mv_sub fun a z => z.elim .inl fun q => .inr (ov a q)
  refine ⟨⟨⟨r'.len, fun a z => r.rel.dom a (z.elim .inl fun q => .inr (ov a q)), fun j d h => ?_, fun j es h => ?_, r'.exc⟩, r.ex, fun a z => r.new a (ov a z), r.d0, fun i j es fs p h1 h2 h3 h4 => ?_⟩, mv⟩
  · obtain ⟨v, e1, e2⟩ := r'.val j d h
    exact ⟨v, e1, DR.mv mv d v e2⟩
  · obtain ⟨p, xs, e1, e2, e3, e4⟩ := r'.own j es h
    exact ⟨p, xs, e1, .inr ⟨j, es, h, e1⟩, e3, DRs.mv mv es xs e4⟩
  · exact r.dis i j es fs p (hg i es h1).1 (hg j fs h2).1 (by rw [← (hg i es h1).2]; exact h3) (by rw [← (hg j fs h2).2]; exact h4)
end
theorem rdS.rebase {X : Cx} {W : WT} {O0 : Own} {Hb : Hp} {Ob O1 : Own} {Hm H1 : Hp} {r : Res} {Dn : Ends} (m : Mv Ob Hm O1 H1) (h : rdS X W O0 Hb Ob Hm r Dn) : rdS X W O0 Hb O1 H1 r Dn := by
  cases r with
  | next ρ => exact fun σ' H' rs mv => h σ' H' rs (m.trans mv)
  | ret d => exact h
  | err x ρ => exact fun σ' H' rs mv => h σ' H' rs (m.trans mv)
  | bad => exact h
section
variable {fns : List Fn} {consts : List (Str × D)} {k : Nat}
theorem ss_asgT (is : List Nat) (e : E) : SSt fns consts k (.asgT is e) := by
  intro X W lp st g m
  unfold mS at m
  cases hz : zAsg st with
  | none => rw [hz] at m; cases m
  | some z =>
    obtain ⟨t, v, pos⟩ := z
    rw [hz] at m
    have hst := zAsg_of hz
    subst hst
    simp only [Bool.and_eq_true] at m
    obtain ⟨⟨⟨⟨h0, h1⟩, h2⟩, h3⟩, h4⟩ := m
    cases t with
    | Tuple ts j tp =>
      have tok : TgOk X (.many is) (.Tuple ts j tp) := ⟨ts, j, tp, rfl, nms_fn g.fa h1⟩
      have hs : swapsWithSole [.Tuple ts j tp] v pos.line X.env = pure false := by
        cases v with
        | SetComp a b s p => cases h2
        | DictComp a b c s p => cases h2
        | _ => rfl
      have hw : swappedStores [.Tuple ts j tp] v X.env = pure none := by
        cases v with
        | Tuple a b p => cases h3
        | _ => rfl
      refine PS.weak (ps_asg ((sE e).e X W v g.g h4) (pg_tg (T := W.t) (g.g.calm h0) g.g.nd tok) hs hw rfl) fun Dn σ H ⟨O0, Hb, ρ, Ob, Hm, rs, mv, q⟩ => ?_
      unfold evS at q
      refine ⟨Oo O0 σ ρ, ρ, rs.rel, rd_then rs mv q fun d v H1 _ s1 dr _ q1 => ⟨Oo O0 σ ρ, ρ, d, (rs.same s1).rel, dr, ?_⟩⟩
      cases d with
      | tuple ds =>
        have q1 : rdS X W O0 Hb Ob Hm (match setAll is ds ρ with | some ρ' => .next ρ' | none => .bad) Dn := q1
        show (match setAll is ds ρ with | some ρ' => _ | none => False)
        cases hsa : setAll is ds ρ with
        | none => rw [hsa] at q1; exact q1.elim
        | some ρ' =>
          rw [hsa] at q1
          intro σ' r' hl hwp
          obtain ⟨r2, m2⟩ := (rs.same s1).bind (tg := .many is) (d := .tuple ds) hsa r' (hwp _ fun _ h => h)
          exact q1 σ' H1 r2 ((mv.trans (Mv.same s1)).trans m2)
      | _ => exact q1.elim
    | _ => cases h1
theorem ss_aug (i : Nat) (op : BOp) (e : E) : SSt fns consts k (.aug i op e) := by
  intro X W lp st g m
  unfold mS at m
  cases hz : zAug st with
  | none => rw [hz] at m; cases m
  | some z =>
    obtain ⟨t, o, v⟩ := z
    rw [hz] at m
    obtain ⟨pos, rfl⟩ := zAug_of hz
    simp only [Bool.and_eq_true] at m
    obtain ⟨⟨h1, h2⟩, h3⟩ := m
    obtain ⟨x, px, rfl, n1, n2, n3⟩ := nm_fn g.fa h1
    cases op with
    | add =>
      cases o with
      | Add =>
        refine PS.weak (ps_aug g.g.nd n1 n2 ((sE e).e X W v g.g h2) ip_add n3) fun Dn σ H ⟨O0, Hb, ρ, Ob, Hm, rs, mv, q⟩ => ?_
        unfold evS at q
        cases hc : ρ[i]? with
        | none => rw [hc] at q; exact q.elim
        | some c =>
          rw [hc] at q
          cases c with
          | val d =>
            cases d with
            | int a =>
              obtain ⟨u, e1, e2⟩ := rs.rel.val i (.int a) hc
              cases e2
              refine ⟨_, e1, Oo O0 σ ρ, ρ, rs.rel, rd_then rs mv q fun d v H1 _ s1 dr _ q1 => ?_⟩
              cases d with
              | int b =>
                cases dr
                obtain ⟨r2, m2⟩ := (rs.same s1).setVal (i := i) (DR.int (a + b))
                exact ⟨a, b, rfl, rfl, q1 _ H1 r2 ((mv.trans (Mv.same s1)).trans m2)⟩
              | _ => exact q1.elim
            | _ => exact q.elim
          | _ => exact q.elim
      | _ => cases h3
    | sub =>
      cases o with
      | Sub =>
        refine PS.weak (ps_aug g.g.nd n1 n2 ((sE e).e X W v g.g h2) ip_sub n3) fun Dn σ H ⟨O0, Hb, ρ, Ob, Hm, rs, mv, q⟩ => ?_
        unfold evS at q
        cases hc : ρ[i]? with
        | none => rw [hc] at q; exact q.elim
        | some c =>
          rw [hc] at q
          cases c with
          | val d =>
            cases d with
            | int a =>
              obtain ⟨u, e1, e2⟩ := rs.rel.val i (.int a) hc
              cases e2
              refine ⟨_, e1, Oo O0 σ ρ, ρ, rs.rel, rd_then rs mv q fun d v H1 _ s1 dr _ q1 => ?_⟩
              cases d with
              | int b =>
                cases dr
                obtain ⟨r2, m2⟩ := (rs.same s1).setVal (i := i) (DR.int (a - b))
                exact ⟨a, b, rfl, rfl, q1 _ H1 r2 ((mv.trans (Mv.same s1)).trans m2)⟩
              | _ => exact q1.elim
            | _ => exact q.elim
          | _ => exact q.elim
      | _ => cases h3
    | _ => cases o <;> cases h3
/-- the owned list's own name, read -/
theorem own_var {X : Cx} {W : WT} {i : Nat} {x : Expr} (g : Gd fns consts k X W) (m : mE fns consts X.N X.env.scope (.var i) x = true) : PE X x (tVar i) := by
  obtain ⟨n, pos, rfl, h1, h2, h3, h4⟩ := m_var m
  exact pe_var h1 (vis_of h4) h2 h3
theorem ss_setIx (i : Nat) (kx e : E) : SSt fns consts k (.setIx i kx e) := by
  intro X W lp st g m
  unfold mS at m
  cases hz : zAsg st with
  | none => rw [hz] at m; cases m
  | some z =>
    obtain ⟨t, v, pos⟩ := z
    rw [hz] at m
    have hst := zAsg_of hz
    subst hst
    simp only [Bool.and_eq_true] at m
    obtain ⟨⟨⟨h1, h2⟩, h3⟩, h4⟩ := m
    cases t with
    | Subscript o kk tp =>
      simp only [Bool.and_eq_true] at h1
      obtain ⟨⟨k1, k2⟩, k3⟩ := h1
      have hs : swapsWithSole [.Subscript o kk tp] v pos.line X.env = pure false := by
        cases v with
        | SetComp a b s p => cases h2
        | DictComp a b c s p => cases h2
        | _ => rfl
      have hw : swappedStores [.Subscript o kk tp] v X.env = pure none := by
        cases v <;> rfl
      have ha : ∀ u, assign (.Subscript o kk tp) X.env u = (do
          let ov ← holding [u] (eval o X.env)
          let iv ← holding [u, ov] (eval kk X.env)
          standAt tp
          holding [u, ov, iv] (setItem ov iv u)
          release [u, ov, iv] []) := by
        intro u
        cases kk <;> first | rfl | cases k3
      refine PS.weak (ps_asg ((sE e).e X W v g.g h4) (pg_sub (own_var (W := W) g.g k1) ((sE kx).e X W kk g.g k2) set_list ha) hs hw rfl) fun Dn σ H ⟨O0, Hb, ρ, Ob, Hm, rs, mv, q⟩ => ?_
      unfold evS at q
      cases hc : ρ[i]? with
      | none => rw [hc] at q; exact q.elim
      | some c =>
        rw [hc] at q
        cases c with
        | own es =>
          refine ⟨Oo O0 σ ρ, ρ, rs.rel, rd_then rs mv q fun d v H1 _ s1 dr _ q1 => ?_⟩
          have rs1 := rs.same s1
          obtain ⟨p, xs, e1, e2, e3, e4⟩ := rs1.rel.own i es hc
          refine ⟨_, e1, Oo O0 σ ρ, ρ, rs1.rel, rd_then rs1 (mv.trans (Mv.same s1)) q1 fun kd kv H2 _ s2 kr _ q2 => ?_⟩
          have rs2 := rs1.same s2
          cases kd with
          | int n =>
            cases kr
            have q2 : rdS X W O0 Hb Ob Hm (match ixN es.length n with | some j => Res.next (ρ.set i (.own (es.set j d))) | none => .bad) Dn := q2
            cases hx : ixN es.length n with
            | none => rw [hx] at q2; exact q2.elim
            | some j =>
              rw [hx] at q2
              have e3' := s2 _ _ e3
              obtain ⟨r3, m3⟩ := rs2.change hc e1 e3' ((e4.same s2).set j (dr.same s2))
              exact ⟨p, xs, n, j, rfl, rfl, e3', by rw [e4.length]; exact hx, q2 _ _ r3 (((mv.trans (Mv.same s1)).trans (Mv.same s2)).trans m3)⟩
          | _ => exact q2.elim
        | _ => exact q.elim
    | _ => cases h1
theorem swaps_call {f : Expr} {as_ : List Expr} {ks : List Keyword} {p : Pos} {l : Nat} {env : PySem.Env} : swapsWith (.Call f as_ ks p) none l env = pure false := rfl
theorem star_one {e : Expr} {env : PySem.Env} (h : plainX e = true) : starEach [e] env = [(false, eval e env)] := by
  cases e <;> first | rfl | cases h
theorem ss_app (i : Nat) (e : E) : SSt fns consts k (.app i e) := by
  intro X W lp st g m
  unfold mS at m
  cases hz : zExpr st with
  | none => rw [hz] at m; cases m
  | some x =>
    rw [hz] at m
    obtain ⟨pos, rfl⟩ := zExpr_of hz
    dsimp only at m
    cases hx : xMeth x with
    | none => rw [hx] at m; cases m
    | some z =>
      obtain ⟨n, f, v, ap, cp⟩ := z
      rw [hx] at m
      obtain ⟨p, rfl⟩ := xMeth_of hx
      simp only [Bool.and_eq_true, decide_eq_true_eq] at m
      obtain ⟨⟨⟨⟨rfl, h2⟩, h3⟩, h4⟩, h5⟩ := m
      obtain ⟨n', p', en, k1, k2, k3, k4⟩ := m_var h3
      cases en
      have hst := star_one (env := X.env) h4
      have ho : PE X (.Name n p) (tVar i) := pe_var k1 (vis_of k4) k2 k3
      refine PS.weak (ps_expr (pe_bm PySem.F.plainAttrs_list PySem.F.slot_list_append PySem.F.type_list_append mt_append ho (pa_cons ((sE e).e X W v g.g h5) pa_nil hst) rfl (by rw [hst]; rfl) h2 hst rfl) swaps_call) fun Dn σ H ⟨O0, Hb, ρ, Ob, Hm, rs, mv, q⟩ => ?_
      unfold evS at q
      cases hc : ρ[i]? with
      | none => rw [hc] at q; exact q.elim
      | some c =>
        rw [hc] at q
        cases c with
        | own es =>
          obtain ⟨a, xs, e1, e2, e3, e4⟩ := rs.rel.own i es hc
          refine ⟨_, e1, .inl ⟨rfl, xs, SqL.of e3⟩, Oo O0 σ ρ, ρ, rs.rel, rd_then rs mv q fun d v H1 _ s1 dr _ q1 => ?_⟩
          by_cases hl : es.length < LIM
          · rw [if_pos hl] at q1
            have rs1 := rs.same s1
            have e3' := s1 _ _ e3
            obtain ⟨r3, m3⟩ := rs1.change hc e1 e3' ((e4.same s1).append (.cons dr .nil))
            exact ⟨a, xs, v, rfl, rfl, e3', by rw [e4.length]; exact Nat.lt_of_lt_of_le hl lim_line, q1 _ _ r3 ((mv.trans (Mv.same s1)).trans m3)⟩
          · rw [if_neg hl] at q1; exact q1.elim
        | _ => exact q.elim
theorem ss_ext (i : Nat) (e : E) : SSt fns consts k (.ext i e) := by
  intro X W lp st g m
  unfold mS at m
  cases hz : zExpr st with
  | none => rw [hz] at m; cases m
  | some x =>
    rw [hz] at m
    obtain ⟨pos, rfl⟩ := zExpr_of hz
    dsimp only at m
    cases hx : xMeth x with
    | none => rw [hx] at m; cases m
    | some z =>
      obtain ⟨n, f, v, ap, cp⟩ := z
      rw [hx] at m
      obtain ⟨p, rfl⟩ := xMeth_of hx
      simp only [Bool.and_eq_true, decide_eq_true_eq] at m
      obtain ⟨⟨⟨⟨rfl, h2⟩, h3⟩, h4⟩, h5⟩ := m
      obtain ⟨n', p', en, k1, k2, k3, k4⟩ := m_var h3
      cases en
      have hst := star_one (env := X.env) h4
      have ho : PE X (.Name n p) (tVar i) := pe_var k1 (vis_of k4) k2 k3
      refine PS.weak (ps_expr (pe_bm PySem.F.plainAttrs_list PySem.F.slot_list_extend PySem.F.type_list_extend mt_extend ho (pa_cons ((sE e).e X W v g.g h5) pa_nil hst) rfl (by rw [hst]; rfl) h2 hst rfl) swaps_call) fun Dn σ H ⟨O0, Hb, ρ, Ob, Hm, rs, mv, q⟩ => ?_
      unfold evS at q
      cases hc : ρ[i]? with
      | none => rw [hc] at q; exact q.elim
      | some c =>
        rw [hc] at q
        cases c with
        | own es =>
          obtain ⟨a, xs, e1, e2, e3, e4⟩ := rs.rel.own i es hc
          refine ⟨_, e1, .inl ⟨rfl, xs, SqL.of e3⟩, Oo O0 σ ρ, ρ, rs.rel, rd_then rs mv q fun d v H1 _ s1 dr _ q1 => ?_⟩
          cases d with
          | list fs =>
            have q1 : rdS X W O0 Hb Ob Hm (if es.length + fs.length ≤ LIM then .next (ρ.set i (.own (es ++ fs))) else .bad) Dn := q1
            by_cases hl : es.length + fs.length ≤ LIM
            · rw [if_pos hl] at q1
              have rs1 := rs.same s1
              have e3' := s1 _ _ e3
              obtain ⟨b, ys, rfl, g1, g2⟩ := DB.lst (.inl dr)
              obtain ⟨r3, m3⟩ := rs1.change hc e1 e3' ((e4.same s1).append g2)
              exact ⟨a, b, xs, ys, rfl, rfl, e3', g1, by rw [e4.length, g2.length]; exact Nat.le_trans hl lim_line, q1 _ _ r3 ((mv.trans (Mv.same s1)).trans m3)⟩
            · rw [if_neg hl] at q1; exact q1.elim
          | _ => exact q1.elim
        | _ => exact q.elim
theorem ss_raise (c : Str) : SSt fns consts k (.raise c) := by
  intro X W lp st g m
  unfold mS at m
  cases hz : zRaise st with
  | none => rw [hz] at m; cases m
  | some x =>
    rw [hz] at m
    obtain ⟨p, mm, j, p2, p3, pos, rfl⟩ := zRaise_of hz
    simp only [Bool.and_eq_true, decide_eq_true_eq, Bool.not_eq_true'] at m
    obtain ⟨⟨⟨⟨h0, rfl⟩, h2⟩, h3⟩, h4⟩ := m
    have hl : consts.lookup x = some (.dict []) := by
      revert h4
      split
      · intro _; assumption
      · intro h; cases h
    obtain ⟨C, e1, e2, e3, e4, e5⟩ := g.g.ex x hl
    refine PS.weak (ps_raise (g.g.calm (by rw [h0]; rfl)) g.g.takes (pmk_own PySem.F.excBase_ValueError e2 e1 e3 (raises_own e4 e5) (gl_of h2) h3)) fun Dn σ H ⟨O0, Hb, ρ, Ob, Hm, rs, mv, q⟩ => ?_
    unfold evS at q
    obtain ⟨C', f1, f2⟩ := q σ H rs mv
    rw [e1] at f1
    cases f1
    exact f2
end
end Qw

set_option Elab.async false
set_option linter.all false
set_option maxRecDepth 100000
set_option maxHeartbeats 4000000
/-! Statements: branches, loops, sequences. By an AI agent. -/
namespace Qw
open PySem PySem.Spec PyProof.Rows L2
section
variable {fns : List Fn} {consts : List (Str × D)} {k : Nat}
theorem rdT_then {X : Cx} {W : WT} {O0 : Own} {Hb Hm H : Hp} {Ob : Own} {σ : L2.St} {ρ : Env} {r : R Bool} {f : Bool → Res} {Dn : Ends} {Q : Bool → Hp → Prop} (rs : RelS X.K W.t O0 Hb H σ ρ) (mv : Mv Ob Hm (Oo O0 σ ρ) H) (q : rdS X W O0 Hb Ob Hm (rThen ρ r f) Dn)
    (h : ∀ b H1, r = .ok b → Same H H1 → rdS X W O0 Hb Ob Hm (f b) Dn → Q b H1) : rdT X W σ H r Q := by
  cases r with
  | bad => exact q.elim
  | err x => exact fun H' s' => q σ H' (rs.same s') (mv.trans (Mv.same s'))
  | ok b => exact fun H1 s1 z1 => h b H1 rfl s1 q
theorem ss_ite {c : E} {a b : Ss} (ha : SSs fns consts k a) (hb : SSs fns consts k b) : SSt fns consts k (.ite c a b) := by
  intro X W lp st g m
  unfold mS at m
  cases hz : zIf st with
  | none => rw [hz] at m; cases m
  | some z =>
    obtain ⟨x, p, q⟩ := z
    rw [hz] at m
    obtain ⟨pos, rfl⟩ := zIf_of hz
    simp only [Bool.and_eq_true] at m
    obtain ⟨⟨⟨h1, h2⟩, h3⟩, h4⟩ := m
    refine PS.weak (ps_if ((sE c).t h1 X W x g.g h2) (ha X W lp p g h3) (hb X W lp q g h4)) fun Dn σ H ⟨O0, Hb, ρ, Ob, Hm, rs, mv, q⟩ => ?_
    unfold evS at q
    refine ⟨Oo O0 σ ρ, ρ, rs.rel, rdT_then rs mv q fun b H1 _ s1 q1 => ?_⟩
    cases b with
    | true => exact ⟨O0, Hb, ρ, Ob, Hm, rs.same s1, mv.trans (Mv.same s1), q1⟩
    | false => exact ⟨O0, Hb, ρ, Ob, Hm, rs.same s1, mv.trans (Mv.same s1), q1⟩
/-- a block's answer within a loop -/
theorem rdS.seq {X : Cx} {W : WT} {O0 : Own} {Hb : Hp} {Ob Ob' : Own} {Hm Hm' : Hp} {r : Res} {f : Env → Res} {Dn Dn' : Ends} (q : rdS X W O0 Hb Ob Hm (seqR r f) Dn) (hm : Mv Ob Hm Ob' Hm') (hr : Dn'.rt = Dn.rt)
    (h : ∀ ρ' σ' H', r = .next ρ' → RelS X.K W.t O0 Hb H' σ' ρ' → Mv Ob' Hm' (Oo O0 σ' ρ') H' → rdS X W O0 Hb Ob Hm (f ρ') Dn → Dn'.nx σ' H') : rdS X W O0 Hb Ob' Hm' r Dn' := by
  cases r with
  | next ρ' => exact fun σ' H' rs mv => h ρ' σ' H' rfl rs mv q
  | ret d => intro v H' s d'; rw [hr]; exact q v H' s d'
  | err x ρ' => exact fun σ' H' rs mv => q σ' H' rs (hm.trans mv)
  | bad => exact q
theorem ss_for {tg : Tg} {it : It} {body : Ss} (hb : SSs fns consts k body) : SSt fns consts k (.forS tg it body) := by
  intro X W lp st g m
  unfold mS at m
  cases hz : zFor st with
  | none => rw [hz] at m; cases m
  | some z =>
    obtain ⟨t, i, b⟩ := z
    rw [hz] at m
    obtain ⟨pos, rfl⟩ := zFor_of hz
    simp only [Bool.and_eq_true] at m
    obtain ⟨⟨⟨⟨⟨hz0, h0⟩, h1⟩, h2⟩, h3⟩, h4⟩ := m
    have hcalm := g.g.calm hz0
    refine PS.weak (ps_for (g.po h0) hcalm (sIt it X W t i g.g h2) (pg_tg (T := W.t) hcalm g.g.nd (tg_fn g.fa h1)) (hb X W lp b g h4) (by intro x; cases i <;> first | rfl | cases h3)) fun Dn σ H ⟨O0, Hb, ρ, Ob, Hm, rs, mv, q⟩ => ?_
    unfold evS at q
    by_cases ho : itOwn ρ it = true
    · rw [if_pos ho] at q; exact q.elim
    · rw [if_neg ho] at q
      refine ⟨Oo O0 σ ρ, ρ, rs.rel, ?_⟩
      revert q
      generalize evIt (evFn fns k) ρ it = r
      intro q
      cases r with
      | bad => exact q.elim
      | err x => exact fun H' s' => q σ H' (rs.same s') (mv.trans (Mv.same s'))
      | ok ds =>
        intro J H1 s1 hsz _ hw
        have hw := hw (by simpa using ho)
        have q : rdS X W O0 Hb Ob Hm (forLoop tg (fun ρ' => evSs (evFn fns k) ρ' body) ds ρ) Dn := q
        refine ⟨fun i m σc Hc => m = ds.length - i ∧ i ≤ ds.length ∧ ∃ ρc, RelS X.K W.t O0 Hb Hc σc ρc ∧ Mv (Oo O0 σ ρ) H1 (Oo O0 σc ρc) Hc ∧ Mv Ob Hm (Oo O0 σc ρc) Hc ∧ rdS X W O0 Hb Ob Hm (forLoop tg (fun ρ' => evSs (evFn fns k) ρ' body) (ds.drop i) ρc) Dn,
          ⟨ds.length, by simp, Nat.zero_le _, ρ, rs.same s1, Mv.refl _ _, mv.trans (Mv.same s1), q⟩, ?_⟩
        rintro i m σc Hc ⟨rfl, hi, ρc, rc, mv1, mv2, qc⟩
        obtain ⟨wstop, wgo⟩ := hw _ _ mv1 rc.rel.dom
        by_cases he : i = ds.length
        · subst he
          refine .inl ⟨wstop, ?_⟩
          rw [List.drop_length] at qc
          exact qc σc Hc rc mv2
        · have hlt : i < ds.length := by omega
          have hd : ds[i]? = some ds[i] := List.getElem?_eq_getElem hlt
          rw [List.drop_eq_getElem_cons hlt] at qc
          obtain ⟨go, yl⟩ := wgo i ds[i] hd
          refine .inr ⟨go, _, fun σ' H' n => ⟨ds.length - (i + 1), by omega, n⟩, fun x H' hy => ?_⟩
          obtain ⟨sy, dr⟩ := yl x H' hy
          refine ⟨Oo O0 σc ρc, ρc, ds[i], (rc.same sy).rel, dr, ?_⟩
          unfold forLoop at qc
          cases hbt : bindTg tg ds[i] ρc with
          | none => rw [hbt] at qc; exact qc.elim
          | some ρ' =>
            rw [hbt] at qc
            intro σ2 r2 hl hwp
            obtain ⟨r3, m3⟩ := (rc.same sy).bind hbt r2 (hwp _ fun _ h => h)
            refine ⟨O0, Hb, ρ', Oo O0 σ2 ρ', H', r3, Mv.refl _ _, rdS.seq qc ((mv2.trans (Mv.same sy)).trans m3) rfl fun ρ4 σ4 H4 _ r4 m4 q4 => ?_⟩
            exact ⟨rfl, hlt, ρ4, r4, ((mv1.trans (Mv.same sy)).trans m3).trans m4, ((mv2.trans (Mv.same sy)).trans m3).trans m4, q4⟩
theorem ss_while {c : E} {body : Ss} (hb : SSs fns consts k body) : SSt fns consts k (.whileS c body) := by
  intro X W lp st g m
  unfold mS at m
  cases hz : zWhile st with
  | none => rw [hz] at m; cases m
  | some z =>
    obtain ⟨x, b⟩ := z
    rw [hz] at m
    obtain ⟨pos, rfl⟩ := zWhile_of hz
    simp only [Bool.and_eq_true] at m
    obtain ⟨⟨⟨h0, h1⟩, h2⟩, h3⟩ := m
    refine PS.weak (ps_while (g.po h0) ((sE c).t h1 X W x g.g h2) (hb X W lp b g h3)) fun Dn σ H ⟨O0, Hb, ρ, Ob, Hm, rs, mv, q⟩ => ?_
    unfold evS at q
    refine ⟨fun m σc Hc => ∃ ρc, RelS X.K W.t O0 Hb Hc σc ρc ∧ Mv Ob Hm (Oo O0 σc ρc) Hc ∧ rdS X W O0 Hb Ob Hm (whileLoop (fun ρ' => (bor ρ' c (evE (evFn fns k) ρ' c)).bind tru) (fun ρ' => evSs (evFn fns k) ρ' body) m ρc) Dn, ⟨fuelW, ρ, rs, mv, q⟩, ?_⟩
    rintro m σc Hc ⟨ρc, rc, mc, qc⟩
    cases m with
    | zero => unfold whileLoop at qc; exact qc.elim
    | succ n =>
      unfold whileLoop at qc
      refine ⟨Oo O0 σc ρc, ρc, rc.rel, rdT_then rc mc qc fun b H1 _ s1 q1 => ?_⟩
      cases b with
      | false => exact q1 σc H1 (rc.same s1) (mc.trans (Mv.same s1))
      | true =>
        refine ⟨_, fun σ' H' w => ⟨n, Nat.lt_succ_self n, w⟩, O0, Hb, ρc, Ob, Hm, rc.same s1, mc.trans (Mv.same s1), rdS.seq q1 (Mv.refl _ _) rfl fun ρ4 σ4 H4 _ r4 m4 q4 => ?_⟩
        exact ⟨ρ4, r4, m4, q4⟩
theorem sss_nil : SSs fns consts k .nil := by
  intro X W lp sts g m
  unfold mSs at m
  rw [isNil_of m]
  exact PSs.weak pss_nil fun Dn σ H ⟨O0, Hb, ρ, Ob, Hm, rs, mv, q⟩ => by unfold evSs at q; exact q σ H rs mv
theorem sss_cons {s : S} {ss : Ss} (h1 : SSt fns consts k s) (h2 : SSs fns consts k ss) : SSs fns consts k (.cons s ss) := by
  intro X W lp sts g m
  unfold mSs at m
  cases sts with
  | nil => cases m
  | cons st r =>
    dsimp only at m
    rw [Bool.and_eq_true] at m
    refine PSs.weak (pss_cons (h1 X W lp st g m.1) (h2 X W lp r g m.2)) fun Dn σ H ⟨O0, Hb, ρ, Ob, Hm, rs, mv, q⟩ => ?_
    unfold evSs at q
    exact ⟨O0, Hb, ρ, Ob, Hm, rs, mv, rdS.seq q (Mv.refl _ _) rfl fun ρ4 σ4 H4 _ r4 m4 q4 => ⟨O0, Hb, ρ4, Ob, Hm, r4, m4, q4⟩⟩
theorem sss_rel {i : Nat} {ss : Ss} (h2 : SSs fns consts k ss) : SSs fns consts k (.rel i ss) := by
  intro X W lp sts g m
  unfold mSs at m
  refine PSs.weak (h2 X W lp sts g m) fun Dn σ H ⟨O0, Hb, ρ, Ob, Hm, rs, mv, q⟩ => ?_
  unfold evSs at q
  obtain ⟨r2, m2⟩ := rs.release i
  exact ⟨O0, Hb, relE i ρ, Ob, Hm, r2, mv.trans m2, q⟩
end
end Qw

set_option Elab.async false
set_option linter.all false
set_option maxRecDepth 100000
set_option maxHeartbeats 4000000
/-! try with several clauses, each with a name. By an AI agent. -/
namespace Qw
open PySem PySem.Spec PyProof.Rows L2
/-- behind the suite the name is gone -/
def goneE (i : Nat) (Dn : Ends) : Ends := { nx := fun τ G => Dn.nx (τ.set i none) G, rt := Dn.rt, bk := fun τ G => Dn.bk (τ.set i none) G, ct := fun τ G => Dn.ct (τ.set i none) G }
abbrev Clz := List (Value × (Addr → Value → Option Addr → TS))
/-- what the clauses wish of an exception, one behind another -/
def wClz (K : PySem.W.Frag) (i : Nat) (Wo : WX) (Dn : Ends) : Clz → WX
  | [] => Wo
  | (c, ts) :: r => fun cl od τ G => ∃ b, PySem.W.exmOne K cl c = some b ∧
      (b = true → ∀ p, G p = none → ts p cl od (goneE i Dn) (τ.set i (some (.ref p))) G) ∧ (b = false → wClz K i Wo Dn r cl od τ G)
inductive ClzOk (X : Cx) (n : Str) : List ExceptHandler → Clz → Prop
  | nil : ClzOk X n [] []
  | cons {x : Str} {c : Value} {ts : Addr → Value → Option Addr → TS} {b₀ : Stmt} {rest : List Stmt} {q q' : Pos} {hs : List ExceptHandler} {l : Clz} (hc : Names X x c)
      (hb : ∀ (p : Addr) (ob : Obj) (cl : Value) (od : Option Addr) (pn : List (Addr × Obj)), Zc cl od ob → (∃ fs, ob.data = .fields fs) → PSs (X.suite p ((p, ob) :: pn)) (b₀ :: rest) (ts p cl od)) (r : ClzOk X n hs l) :
      ClzOk X n (.ExceptHandler (some (.Name x q)) (some n) (b₀ :: rest) q' :: hs) ((c, ts) :: l)
section
variable {X : Cx} {body : List Stmt} {h₀ : ExceptHandler} {hs : List ExceptHandler} {l : Clz} {pos : Pos} {tb : WX → TS} {Wo : WX} {n : Str} {i : Nat}
theorem ps_clz (hstk : X.stack = X.env :: X.outer) (hfr0 : X.env.frame = some X.env.locals) (hN : X.N.Nodup) (hi : X.N[i]? = some n) (hln : X.env.kindOf n = some .local) (tk : Takes X Wo)
    (hbody : ∀ (W' : WX) (pn : List (Addr × Obj)) (xe : Value → Shared → Prop), Takes (X.tr pn xe) W' → PassesOwn (model X.prog X.w) X.A X.env xe → PSs (X.tr pn xe) body (tb W'))
    (hcl : ClzOk X n (h₀ :: hs) l) : PS X (.Try body (h₀ :: hs) [] [] pos) (fun Dn τ G => tb (wClz X.K i Wo Dn l) Dn τ G) := by
  refine ⟨fun pins s τ G Dn I h => ?_⟩
  have ok := I.ok
  have hfrs : X.A.frames = some (X.env :: X.outer) := by rw [ok.frames, hstk]
  have hloc : Loc X.env.scope n := .inl hln
  refine wpAny_Try_except (wpAny_mono ((hbody (wClz X.K i Wo Dn l) (X.pn ++ pins) (fun e s₁ => wpAny (model X.prog X.w) X.A (noteFrame e X.env) (fun _ s₂ => wpAny (model X.prog X.w) X.A (setFlight e none) (fun _ s₃ =>
    wpAny (model X.prog X.w) X.A (handleBy e X.env (h₀ :: hs)) (SP X pins Dn) X.xe s₃) X.xe s₂) X.xe s₁) (fun u t' xx => ?_) PassesOwn.looking).run [] s τ G Dn (I.toTry _) h) (fun f t1 hsp => ?_) (fun _ _ z => z))
  · obtain ⟨p, B, t0, pins', τ', G', cl, od, rfl, J0, nb, up, sk, np, hos, hag, w⟩ := xx
    have J : Inv X pins τ' G' t0 := J0.ofTry ok
    have sk' : Sky B (X.env :: X.outer) p (Zc cl od) X.env.locals t'.heap := by rw [← hstk]; exact sk
    show wpAny (model X.prog X.w) X.A (noteFrame (.ref p) X.env) _ _ _
    refine Sky.land Zc.steady hfrs hfr0 sk' fun g3 fl up3 => ?_
    have J3 : Inv X pins τ' G' { t' with heap := g3 } := J.landed nb fl.1 (up.trans up3) hos hag
    obtain ⟨ob3, fs3, hp3, hz3, hd3⟩ := fl.there
    have nfr : p ∉ frs (X.env :: X.outer) := fun hm => by
      obtain ⟨_, o', e', hnf⟩ := fl.2.2.1.mem hm
      rw [hp3] at e'
      cases e'
      exact hnf _ hd3
    have nL : p ≠ X.env.locals := fun z => nfr (List.mem_filterMap.mpr ⟨X.env, List.mem_cons_self, by rw [hfr0, z]⟩)
    have nF : p ∉ X.fs := fun hm => by
      obtain ⟨e, he, q⟩ := List.mem_filterMap.mp hm
      exact nfr (List.mem_filterMap.mpr ⟨e, List.mem_cons_of_mem _ he, q⟩)
    have S3 := J3.suite hp3 hd3 np nL nF
    have walk : ∀ {hs' : List ExceptHandler} {l' : Clz}, ClzOk X n hs' l' → wClz X.K i Wo Dn l' cl od τ' G' → wpAny (model X.prog X.w) X.A (handleBy (.ref p) X.env hs') (SP X pins Dn) X.xe { t' with heap := g3 } := by
      intro hs' l' hk
      induction hk with
      | nil =>
        intro w
        refine wpAny_handleBy_nil ?_
        obtain ⟨_, _, _, ob, fs, T, oT, ts', hp, hz, hd, h1, hr⟩ := id fl
        unfold PySem.passOn
        refine wpAny_bind (wpAny_field hp hd h1 ?_)
        rw [if_neg (show ¬ ((Value.ref T == Value.none) = true) from by simp)]
        have last : wpAny (model X.prog X.w) X.A (setFlight (.ref p) X.env.frame) (fun _ s4 => wpAny (model X.prog X.w) X.A (throw (.ref p) : Sem Flow) (SP X pins Dn) X.xe s4) X.xe { t' with heap := g3 } := by
          rw [hfr0]
          exact HandSPX.setFlight_upZ fl fun h4 hh4 up4 => wpAny_throw (tk _ _ ⟨p, B, t0, pins, τ', G', cl, od, rfl, J, nb, (up.trans up3).trans up4, .inr (.inr (by rw [hstk]; exact hh4)), np, hos, hag, w⟩)
        first
          | exact wpAny_bind (wpAny_pure (wpAny_bind last))
          | exact wpAny_bind last
      | @cons x c ts b₀ rest q q' hs2 l2 hc hsu r ih =>
        intro w
        obtain ⟨b, hb1, yes, no⟩ := w
        refine wpAny_handleBy_cons (codeAny_handlers_test ?_) (by intro z; cases z)
        have LT : PySem.W.Looks (model X.prog X.w) g3 (typeOf (.ref p)) cl := fun A Q E s k q => wpAny_typeOf_ref (k _ _ hp3) (by rw [hz3.1]; exact q)
        have LM := PySem.W.exm_one (M := model X.prog X.w) (J3.kIn) LT hb1
        have named : ∀ {Q : Value → Shared → Prop} {E : Value → Shared → Prop}, Q c { t' with heap := g3 } → wpAny (model X.prog X.w) (X.A.mark (some (.ref p))) (eval (.Name x q) X.env) Q E { t' with heap := g3 } := fun {Q E} z => by
          obtain ⟨hg, hdbg, hm | ⟨hm, hv, hnn⟩⟩ := hc
          · exact ld_glob (X := X.suite p ((p, ob3) :: (X.pn ++ pins))) S3 hg hm z hdbg
          · exact ld_blt (X := X.suite p ((p, ob3) :: (X.pn ++ pins))) S3 hg hm hv z hnn hdbg
        refine named (LM.here ?_)
        cases b with
        | false =>
          show wpAny _ X.A (handleBy (.ref p) X.env hs2) _ _ _
          exact ih (no rfl)
        | true =>
          refine codeAny_handlers_suite_as (HandSPX.lands_againZ fl fun h4 fl4 up4 => ?_)
          have J4 : Inv X pins τ' G' { t' with heap := h4 } := J.landed nb fl4.1 ((up.trans up3).trans up4) hos hag
          obtain ⟨ob4, fs4, hp4, hz4, hd4⟩ := fl4.there
          have S4 := J4.suite hp4 hd4 np nL nF
          refine store_ok (X := X.suite p ((p, ob4) :: (X.pn ++ pins))) (v := .ref p) S4 hN hi hloc rfl (fun s5 S5 => ?_) (.inr hln)
          refine wpAny_mono ((hsu p ob4 cl od (X.pn ++ pins) hz4 ⟨_, hd4⟩).run [] s5 _ G' _ S5 (yes rfl p np)) (fun f s6 sp => ?_) (fun _ _ z => False.elim z)
          have close : ∀ {τ6 : L2.St} {G6 : Hp} {Q : Shared → Prop}, Inv (X.suite p ((p, ob4) :: (X.pn ++ pins))) [] τ6 G6 s6 → (∀ s7, Inv X pins (τ6.set i none) G6 s7 → Q s7) →
              wpAny (model X.prog X.w) X.A (do bindName X.env n .none; unbindBehindTheSuite X.env n q') (fun _ s7 => Q s7) X.xe s6 := fun {τ6 G6 Q} S6 hq => gone_ok (S6.unsuite ok) hN hi hln hq
          cases f with
          | next => obtain ⟨τ6, G6, S6, q6⟩ := sp; exact close S6 fun s7 J7 => ⟨_, _, J7, q6⟩
          | brk => obtain ⟨τ6, G6, S6, q6⟩ := sp; exact close S6 fun s7 J7 => ⟨_, _, J7, q6⟩
          | cont => obtain ⟨τ6, G6, S6, q6⟩ := sp; exact close S6 fun s7 J7 => ⟨_, _, J7, q6⟩
          | ret u => obtain ⟨v6, τ6, G6, S6, r6, q6⟩ := sp; exact close S6 fun s7 J7 => ⟨_, _, _, J7, r6, q6⟩
    exact walk hcl w
  · cases f with
    | next => obtain ⟨τ', G', J', q⟩ := hsp; exact wpAny_execs_nil ⟨τ', G', J'.ofTry ok, q⟩
    | brk => obtain ⟨τ', G', J', q⟩ := hsp; exact ⟨τ', G', J'.ofTry ok, q⟩
    | cont => obtain ⟨τ', G', J', q⟩ := hsp; exact ⟨τ', G', J'.ofTry ok, q⟩
    | ret u => obtain ⟨v, τ', G', J', r, q⟩ := hsp; exact ⟨v, τ', G', J'.ofTry ok, r, q⟩
end
end Qw

set_option Elab.async false
set_option linter.all false
set_option maxRecDepth 100000
set_option maxHeartbeats 4000000
/-! try; all statements. By an AI agent. -/
namespace Qw
open PySem PySem.Spec PyProof.Rows L2
theorem noExc_get {ρ : Env} {j : Nat} {c : Cell} (h : (noExc ρ)[j]? = some c) : c = .un ∨ ρ[j]? = some c := by
  unfold noExc at h
  rw [List.getElem?_map] at h
  cases q : ρ[j]? with
  | none => rw [q] at h; cases h
  | some b =>
    rw [q] at h
    cases b with
    | exc x => cases h; exact .inl rfl
    | un => cases h; exact .inl rfl
    | val d => cases h; exact .inr rfl
    | own es => cases h; exact .inr rfl
theorem noExc_own {ρ : Env} {j : Nat} {es : List D} : (noExc ρ)[j]? = some (.own es) ↔ ρ[j]? = some (.own es) := by
  constructor
  · intro h
    rcases noExc_get h with e | e
    · cases e
    · exact e
  · intro h
    unfold noExc
    rw [List.getElem?_map, h]
    rfl
section
variable {K : PySem.W.Frag} {T T' : XTy} {O0 : Own} {Hb H : Hp} {σ : L2.St} {ρ : Env}
/-- no caught exception: whatever they are said to be -/
theorem RelS.reT (h : ∀ a x, ¬ T a x) (r : RelS K T O0 Hb H σ ρ) : RelS K T' O0 Hb H σ ρ :=
  ⟨⟨r.rel.len, r.rel.dom, r.rel.val, r.rel.own, fun i x e => let ⟨a, _, z⟩ := r.rel.exc i x e; (h a x z).elim⟩, r.ex, r.new, r.d0, r.dis⟩
theorem RelS.noExc (r : RelS K T O0 Hb H σ ρ) : RelS K T' O0 Hb H σ (Qw.noExc ρ) ∧ Mv (Oo O0 σ ρ) H (Oo O0 σ (Qw.noExc ρ)) H := by
  have ov : ∀ a, OV σ (Qw.noExc ρ) a → OV σ ρ a := fun a ⟨j, es, h1, h2⟩ => ⟨j, es, noExc_own.mp h1, h2⟩
  have vo : ∀ a, OV σ ρ a → OV σ (Qw.noExc ρ) a := fun a ⟨j, es, h1, h2⟩ => ⟨j, es, noExc_own.mpr h1, h2⟩
  have mv : Mv (Oo O0 σ ρ) H (Oo O0 σ (Qw.noExc ρ)) H := mv_sub fun a z => z.elim .inl fun q => .inr (ov a q)
  refine ⟨⟨⟨by unfold Qw.noExc; rw [List.length_map]; exact r.rel.len, fun a z => r.rel.dom a (z.elim .inl fun q => .inr (ov a q)), fun i d e => ?_, fun i es e => ?_, fun i x e => ?_⟩, r.ex, fun a z => r.new a (ov a z), r.d0, fun i j es fs p h1 h2 => r.dis i j es fs p (noExc_own.mp h1) (noExc_own.mp h2)⟩, mv⟩
  · rcases noExc_get e with z | z
    · cases z
    · obtain ⟨v, e1, e2⟩ := r.rel.val i d z
      exact ⟨v, e1, DR.mv mv d v e2⟩
  · obtain ⟨p, xs, e1, e2, e3, e4⟩ := r.rel.own i es (noExc_own.mp e)
    exact ⟨p, xs, e1, .inr ⟨i, es, e, e1⟩, e3, DRs.mv mv es xs e4⟩
  · unfold Qw.noExc at e
    rw [List.getElem?_map] at e
    cases q : ρ[i]? with
    | none => rw [q] at e; cases e
    | some c => rw [q] at e; cases c <;> cases e
end
section
variable {fns : List Fn} {consts : List (Str × D)} {k : Nat}
theorem starred_no {e : Expr} (h : plainX e = true) : (match e with | .Starred .. => true | _ => false) = false := by
  cases e <;> first | rfl | cases h
theorem ss_par (i j : Nat) (a b : E) : SSt fns consts k (.par i j a b) := by
  intro X W lp st g m
  unfold mS at m
  cases hz : zPar st with
  | none => rw [hz] at m; cases m
  | some z =>
    obtain ⟨x, y, px, py, p, q⟩ := z
    rw [hz] at m
    obtain ⟨k1, p1, k2, p2, pos, rfl⟩ := zPar_of hz
    simp only [Bool.and_eq_true, Bool.not_eq_true', decide_eq_false_iff_not] at m
    obtain ⟨⟨⟨⟨⟨⟨⟨⟨⟨⟨⟨⟨h0, h1⟩, h2⟩, h3⟩, h4⟩, h5⟩, h6⟩, h7⟩, h8⟩, h9⟩, h10⟩, h11⟩, h12⟩ := m
    unfold nameOk at h2 h3
    simp only [Bool.and_eq_true, decide_eq_true_eq] at h2 h3
    have hx := locB_of h4
    have hy := locB_of h5
    have hne : x ≠ y := fun e => h1 (by
      have e1 := h2.1.1
      have e2 := h3.1.1
      rw [e] at e1
      exact nodup_ix g.g.nd e1 e2)
    have hb : X.env.blockKind = .function := by unfold Env.blockKind; rw [g.kind]; rfl
    have hw : swappedStores [.Tuple [.Name x px, .Name y py] k1 p1] (.Tuple [p, q] k2 p2) X.env = pure (some [x, y]) := by
      unfold swappedStores
      have e1 : X.env.kindOf x = some .local := hx
      have e2 : X.env.kindOf y = some .local := hy
      have e3 : ([x, y] : List Str).eraseDups = [x, y] := by
        simp [List.eraseDups_cons, hne, Ne.symm hne]
      have h6' : py.line = px.line := (eq_of_beq h6).symm
      have h9' : ¬ ([p, q].all (foldedForSure 8) = true) := by rw [h9]; exact Bool.false_ne_true
      have h10' : ¬ ([p, q].all (constantsAlone 8) = true) := by rw [h10]; exact Bool.false_ne_true
      dsimp only
      rw [if_neg (by rw [hb]; exact Bool.false_ne_true)]
      split
      · rename_i hany
        exfalso
        rw [List.any_eq_true] at hany
        obtain ⟨e, he, hh⟩ := hany
        have hp : plainX e = true := by
          simp only [List.mem_cons, List.not_mem_nil, or_false] at he
          rcases he with z | z
          · rw [z]; exact h7
          · rw [z]; exact h8
        cases e with
        | Starred v p => cases hp
        | _ => cases hh
      · simp only [List.filterMap_cons, List.filterMap_nil, e1, e2, List.head?_cons, Option.map_some, Option.getD_some, Expr.pos, h6', beq_self_eq_true, Bool.and_self, if_true, List.length_cons, List.length_nil, e3, bne_self_eq_false, Bool.or_self, Bool.false_eq_true, if_false, h9, h10]
    have hs1 := star_plain (es := [q]) (env := X.env) h7
    have hs2 := star_one (env := X.env) h8
    refine PS.weak (ps_par (g.g.calm (by rw [h0]; rfl)) g.g.nd h2.1.1 h3.1.1 h1 hx hy (pa_cons ((sE a).e X W p g.g h11) (pa_cons ((sE b).e X W q g.g h12) pa_nil hs2) hs1) hw) fun Dn σ H ⟨O0, Hb, ρ, Ob, Hm, rs, mv, q⟩ => ?_
    unfold evS at q
    rw [if_neg h1] at q
    refine ⟨Oo O0 σ ρ, ρ, rs.rel, rd_then rs mv q fun d v H1 _ s1 dr _ q1 => ?_⟩
    have rs1 := rs.same s1
    refine ⟨Oo O0 σ ρ, ρ, rs1.rel, rd_then rs1 (mv.trans (Mv.same s1)) q1 fun d2 v2 H2 _ s2 dr2 _ q2 => ?_⟩
    have rs2 := rs1.same s2
    obtain ⟨r3, m3⟩ := rs2.setVal (i := i) (dr.same s2)
    obtain ⟨r4, m4⟩ := r3.setVal (i := j) (DR.mv m3 d2 v2 dr2)
    exact ⟨v, v2, rfl, q2 _ H2 r4 ((((mv.trans (Mv.same s1)).trans (Mv.same s2)).trans m3).trans m4)⟩
end
theorem noCall_ev : evFn [] 0 = noCall := rfl
/-- which exception the suite holds -/
def sT (mg : Str → Option Value) (consts : List (Str × D)) (p : Addr) (cl : Value) (od : Option Addr) : XTy := fun a y => a = p ∧ od = none ∧ consts.lookup y.cls = some (.dict []) ∧ ∃ A, mg y.cls = some (.ref A) ∧ cl = .ref A
section
variable {consts : List (Str × D)}
theorem gd_suite {fns : List Fn} {k : Nat} {lp : Bool} {X : Cx} {W : WT} (g : GdS fns consts k lp X W) {p : Addr} {ob : Obj} {cl : Value} {od : Option Addr} {pn : List (Addr × Obj)} (hz : Zc cl od ob) (hf : ∃ fs, ob.data = .fields fs) :
    GdS [] consts 0 false (X.suite p ((p, ob) :: pn)) (noW (sT X.mg consts p cl od)) := by
  refine ⟨⟨(fun h => by cases h), g.g.nd, (fun h => by cases h), g.g.un, takes0, (fun f F h => by cases h), g.g.bi, g.g.cs, g.g.ex, g.g.xr, fun _ a x ⟨_, _, h1, A, h2, _⟩ => ⟨A, h2, h1⟩, (fun _ => ?_)⟩, g.kind, g.fa, (fun h => by cases h), g.stk, g.fr, (fun h => by cases h)⟩
  intro pins s σ H xs us Q I rv h
  obtain ⟨a, x, A, ⟨e1, e2, e3, A', e4, e5⟩, h2, h3⟩ := h
  subst e1 e2 e5
  have e6 : A' = A := by
    have h2 : X.mg x.cls = some (.ref A) := h2
    rw [e4] at h2
    cases h2
    rfl
  subst e6
  exact call_isE (X := X) (pn := pn) (g.g.xr x.cls x.cls A' A' e3 e3 e4 e4).1 hz hf pins s σ H xs us Q I rv h3
/-- an except suite keeps what the evaluator says -/
def SQs (consts : List (Str × D)) : Hs → Prop
  | .nil => True
  | .cons _ _ b hs => SSs [] consts 0 b ∧ SQs consts hs
theorem clz_of {fns : List Fn} {k : Nat} {lp : Bool} {X : Cx} {W : WT} (g : GdS fns consts k lp X W) (hcn : (!isNil fns) = true) {i : Nat} {n : Str} : ∀ {hs : Hs} {hds : List ExceptHandler}, SQs consts hs → (∀ n', X.N[i]? = some n' → n' = n) → mHs consts X.N X.env.scope i hs hds = true →
    ∃ l, ClzOk X n hds l ∧ ∀ x A Dn τ G O0 Hb ρ Ob Hm, x.arg = none → X.mg x.cls = some (.ref A) → consts.lookup x.cls = some (.dict []) → RelS X.K W.t O0 Hb G τ ρ → Mv Ob Hm (Oo O0 τ ρ) G → rdS X W O0 Hb Ob Hm (evHs ρ x hs) Dn → wClz X.K i W.w Dn l (.ref A) none τ G
  | .nil, hds, _, _, m => by
    unfold mHs at m
    rw [isNil_of m]
    refine ⟨[], .nil, fun x A Dn τ G O0 Hb ρ Ob Hm ha hA hx rs mv q => ?_⟩
    unfold evHs at q
    have q := q τ G rs mv
    unfold ErrOk at q
    rw [ha] at q
    obtain ⟨C, c1, c2⟩ := q
    rw [hA] at c1
    cases c1
    exact c2
  | .cons c i' b hs, hds, sq, hN, m => by
    unfold mHs at m
    cases hds with
    | nil => cases m
    | cons h r =>
      dsimp only at m
      rw [Bool.and_eq_true] at m
      obtain ⟨m1, m2⟩ := m
      cases hzh : zHd h with
      | none => rw [hzh] at m1; cases m1
      | some z =>
        obtain ⟨x0, n', bb⟩ := z
        rw [hzh] at m1
        obtain ⟨p, pos, rfl⟩ := zHd_of hzh
        simp only [nameOk, Bool.and_eq_true, decide_eq_true_eq, Bool.not_eq_true'] at m1
        obtain ⟨⟨⟨⟨⟨⟨⟨⟨k1, k2⟩, k3⟩, k4⟩, k5⟩, k6⟩, k7⟩, k8⟩, k9⟩ := m1
        subst k1 k2
        have hnn : n' = n := hN n' k6.1.1
        subst hnn
        have hl : consts.lookup x0 = some (.dict []) := by
          revert k5
          split
          · intro _; assumption
          · intro h; cases h
        obtain ⟨C, c1, _⟩ := g.g.ex x0 hl
        obtain ⟨b₀, rest, hbb⟩ : ∃ (b₀ : Stmt) (rest : List Stmt), bb = b₀ :: rest := by
          cases bb with
          | nil => cases k8
          | cons a r => exact ⟨a, r, rfl⟩
        subst hbb
        obtain ⟨l, hlz, hw⟩ := clz_of g hcn sq.2 hN m2
        refine ⟨(.ref C, fun p cl od => tSs [] 0 X (noW (sT X.mg consts p cl od)) b) :: l, .cons ⟨gl_of k3, k4, .inl c1⟩ (fun p ob cl od pn hz hf => sq.1 (X.suite p ((p, ob) :: pn)) (noW (sT X.mg consts p cl od)) false (b₀ :: rest) (gd_suite g hz hf) k9) hlz, fun x A Dn τ G O0 Hb ρ Ob Hm ha hA hx rs mv q => ?_⟩
        obtain ⟨x1, x2, x3⟩ := g.g.xr x.cls x0 A C hx hl hA c1
        refine ⟨_, x2, fun hb p np => ?_, fun hb => ?_⟩
        · unfold evHs at q
          rw [if_pos hb] at q
          obtain ⟨rs2, mv2⟩ := (rs.reT (T' := sT X.mg consts p (.ref A) none) (g.tno hcn)).setCell (i := i') (x := some (.ref p)) (c := .exc x) (fun es z => by cases z) (fun d z => by cases z) (fun ex z => by
            cases z
            exact ⟨p, rfl, rfl, rfl, hx, A, hA, rfl⟩)
          refine ⟨O0, Hb, ρ.set i' (.exc x), Ob, Hm, rs2, mv.trans mv2, ?_⟩
          rw [noCall_ev]
          revert q
          generalize evSs noCall (ρ.set i' (.exc x)) b = res
          intro q
          cases res with
          | next ρ' =>
            intro σ' H' r3 m3
            obtain ⟨r4, m4⟩ := r3.noExc (T' := W.t)
            obtain ⟨r5, m5⟩ := r4.unset i' none
            exact q _ H' r5 ((m3.trans m4).trans m5)
          | ret d => exact q
          | err y ρ' => exact q.elim
          | bad => exact q.elim
        · unfold evHs at q
          rw [if_neg (by rw [hb]; exact Bool.false_ne_true)] at q
          exact hw x A Dn τ G O0 Hb ρ Ob Hm ha hA hx rs mv q
theorem ss_try {fns : List Fn} {k : Nat} {cls : List Str} {body : Ss} {hs : Hs} (hb : SSs fns consts k body) (hh : SQs consts hs) : SSt fns consts k (.tryS cls body hs) := by
  intro X W lp st g m
  unfold mS at m
  cases hz : zTry st with
  | none => rw [hz] at m; cases m
  | some z =>
    obtain ⟨b, hds⟩ := z
    rw [hz] at m
    obtain ⟨pos, rfl⟩ := zTry_of hz
    simp only [Bool.and_eq_true] at m
    obtain ⟨⟨⟨⟨h1, h2⟩, h3⟩, h4⟩, h5⟩ := m
    cases hs with
    | nil =>
      unfold mHs at h5
      rw [isNil_of h5] at h2
      cases h2
    | cons c i b1 hs1 =>
      cases hds with
      | nil => cases h2
      | cons hd0 hds1 =>
        obtain ⟨n, hn, hloc⟩ : ∃ n, X.N[i]? = some n ∧ X.env.kindOf n = some .local := by
          unfold mHs at h5
          dsimp only at h5
          rw [Bool.and_eq_true] at h5
          obtain ⟨m1, _⟩ := h5
          cases hzh : zHd hd0 with
          | none => rw [hzh] at m1; cases m1
          | some z =>
            obtain ⟨x0, n', bb⟩ := z
            rw [hzh] at m1
            simp only [nameOk, Bool.and_eq_true, decide_eq_true_eq, Bool.not_eq_true'] at m1
            obtain ⟨⟨⟨⟨⟨⟨⟨⟨k1, k2⟩, k3⟩, k4⟩, k5⟩, k6⟩, k7⟩, k8⟩, k9⟩ := m1
            refine ⟨n', k6.1.1, ?_⟩
            show X.env.scope.names.lookup n' = some .local
            revert k7
            split
            · intro _; assumption
            · intro h; cases h
        obtain ⟨l, hl, hw⟩ := clz_of g h1 (hs := .cons c i b1 hs1) hh (i := i) (n := n) (fun n' e => by rw [hn] at e; cases e; rfl) h5
        refine PS.weak (ps_clz (i := i) (tb := fun W' => tSs fns k X ⟨W', W.t⟩ body) g.stk g.fr g.g.nd hn hloc g.g.takes (fun W' pn xe tk po => hb (X.tr pn xe) ⟨W', W.t⟩ lp b ⟨⟨g.g.calm, g.g.nd, g.g.room, g.g.un, tk, g.g.fn, g.g.bi, g.g.cs, g.g.ex, g.g.xr, (fun h => by rw [h] at h1; cases h1), (fun h => by rw [h] at h1; cases h1)⟩, g.kind, g.fa, fun _ => po, g.stk, g.fr, g.tno⟩ h4) hl) fun Dn σ H ⟨O0, Hb, ρ, Ob, Hm, rs, mv, q⟩ => ?_
        unfold evS at q
        refine ⟨O0, Hb, ρ, Ob, Hm, rs, mv, ?_⟩
        revert q
        generalize evSs (evFn fns k) ρ body = res
        intro q
        cases res with
        | next ρ' => exact q
        | ret d => exact q
        | bad => exact q
        | err x ρ' =>
          have q : rdS X W O0 Hb Ob Hm (if (x.arg.isNone && cls.contains x.cls) = true then evHs ρ' x (.cons c i b1 hs1) else .bad) Dn := q
          by_cases hx : (x.arg.isNone && cls.contains x.cls) = true
          · rw [if_pos hx] at q
            rw [Bool.and_eq_true, Option.isNone_iff_eq_none] at hx
            have hlk : consts.lookup x.cls = some (.dict []) := by
              unfold clsB at h3
              have := List.all_eq_true.mp h3 x.cls (by simpa using hx.2)
              revert this
              split
              · intro _; assumption
              · intro h; cases h
            obtain ⟨A, hA, _⟩ := g.g.ex x.cls hlk
            intro σ' H' r' m'
            show ErrOk X.mg (fun c d H'' => wClz X.K i W.w Dn l c d σ' H'') x H'
            unfold ErrOk
            rw [hx.1]
            exact ⟨A, hA, hw x A Dn σ' H' O0 Hb ρ' Ob Hm hx.1 hA hlk r' m' q⟩
          · rw [if_neg hx] at q
            exact q.elim
mutual
theorem sS (fns : List Fn) (k : Nat) : ∀ s : S, SSt fns consts k s
  | .asg i e => ss_asg i e
  | .asgOwn i e => ss_asgOwn i e
  | .asgT is e => ss_asgT is e
  | .par i j a b => ss_par i j a b
  | .setIx i kx e => ss_setIx i kx e
  | .app i e => ss_app i e
  | .ext i e => ss_ext i e
  | .aug i op e => ss_aug i op e
  | .expr e => ss_expr e
  | .ret e => ss_ret e
  | .retN => ss_retN
  | .ite c a b => ss_ite (sSs fns k a) (sSs fns k b)
  | .forS tg it body => ss_for (sSs fns k body)
  | .whileS c body => ss_while (sSs fns k body)
  | .raise c => ss_raise c
  | .tryS cls body hs => ss_try (sSs fns k body) (sHs hs)
  | .pass => ss_pass
  | .never => ss_never
theorem sSs (fns : List Fn) (k : Nat) : ∀ ss : Ss, SSs fns consts k ss
  | .nil => sss_nil
  | .cons s ss => sss_cons (sS fns k s) (sSs fns k ss)
  | .rel i ss => sss_rel (sSs fns k ss)
theorem sHs : ∀ hs : Hs, SQs consts hs
  | .nil => trivial
  | .cons c i b hs => ⟨sSs [] 0 b, sHs hs⟩
end
end
end Qw

set_option Elab.async false
set_option linter.all false
set_option maxRecDepth 100000
set_option maxHeartbeats 4000000
/-! The defs keep what the evaluator says; a law's end. By an AI agent. -/
namespace Qw
open PySem PySem.Spec PyProof.Rows L2
/-! ### checks of a def -/
def scopeB (N P : List Str) (sc : Scope) : Bool :=
  (match sc.kind with
    | .function => true
    | _ => false) && !sc.isCoroutine && !sc.isGenerator && decide N.Nodup && decide (N.take P.length = P) &&
    (P.all fun x => match sc.names.lookup x with
      | some .local => true
      | some .cell => true
      | _ => false) && sc.names.all fun y => match y.2 with
      | .free => false
      | _ => true
theorem scopeB_ok {N P : List Str} {sc : Scope} (h : scopeB N P sc = true) : FnScope N P sc := by
  unfold scopeB at h
  simp only [Bool.and_eq_true, decide_eq_true_eq, Bool.not_eq_true', List.all_eq_true] at h
  obtain ⟨⟨⟨⟨⟨⟨h1, h2⟩, h3⟩, h4⟩, h5⟩, h6⟩, h7⟩ := h
  refine ⟨?_, h2, h3, h4, h5, fun x hx => ?_, fun y hy e => ?_⟩
  · revert h1
    cases sc.kind <;> intro h1 <;> first | rfl | cases h1
  · have := h6 x hx
    revert this
    cases sc.names.lookup x with
    | none => intro h; cases h
    | some kd => cases kd <;> intro h <;> first | exact .inl rfl | exact .inr rfl | cases h
  · have := h7 y hy
    rw [e] at this
    cases this
def argsB (ps : List Str) (a : Arguments) : Bool := a.posonlyargs.isEmpty && a.vararg.isNone && a.kwonlyargs.isEmpty && a.kw_defaults.isEmpty && a.kwarg.isNone && a.defaults.isEmpty && decide (a.args.map (fun x => x.arg) = ps) && decide ps.Nodup
theorem look_zip : ∀ {ps : List Str} {us : List Value}, us.length = ps.length → ∀ n ∈ ps, ((ps.zip us).lookup n).isSome = true
  | [], _, _, n, hn => by cases hn
  | p :: ps, [], hl, n, hn => by cases hl
  | p :: ps, u :: us, hl, n, hn => by
    show (List.lookup n ((p, u) :: ps.zip us)).isSome = true
    rw [List.lookup_cons]
    cases e : (n == p) with
    | true => rfl
    | false =>
      refine look_zip (Nat.succ.inj hl) n ?_
      rcases List.mem_cons.mp hn with q | q
      · subst q
        rw [beq_self_eq_true] at e
        cases e
      · exact q
theorem look_skip {p : Str} {u : Value} {l : List (Str × Value)} : ∀ {qs : List Str}, p ∉ qs → (qs.filterMap fun n => (((p, u) :: l).lookup n).map fun v => (n, v)) = qs.filterMap fun n => (l.lookup n).map fun v => (n, v)
  | [], _ => rfl
  | q :: qs, h => by
    have e2 : (q == p) = false := by
      cases e : (q == p) with
      | false => rfl
      | true =>
        have := eq_of_beq e
        subst this
        exact absurd List.mem_cons_self h
    rw [List.filterMap_cons, List.filterMap_cons, List.lookup_cons, e2, look_skip fun z => h (List.mem_cons_of_mem _ z)]
theorem look_self : ∀ {ps : List Str} {us : List Value} (_ : us.length = ps.length) (_ : ps.Nodup), (ps.filterMap fun n => ((ps.zip us).lookup n).map fun v => (n, v)) = ps.zip us
  | [], [], _, _ => rfl
  | [], _ :: _, hl, _ => by cases hl
  | p :: ps, [], hl, _ => by cases hl
  | p :: ps, u :: us, hl, nd => by
    have nd' := List.nodup_cons.mp nd
    have e1 : (List.lookup p ((p, u) :: ps.zip us)) = some u := by rw [List.lookup_cons, beq_self_eq_true]
    rw [show (p :: ps).zip (u :: us) = (p, u) :: ps.zip us from rfl, List.filterMap_cons, e1, look_skip nd'.1, look_self (Nat.succ.inj hl) nd'.2]
    rfl
theorem binds_ok {ps : List Str} {x qual : Str} {params : Arguments} {body : List Stmt} {scope : Scope} (h : argsB ps params = true) (dV kV doc pm : Value) (an : Option Addr) (cdv ct : Value) (us : List Value) (hl : us.length = ps.length) (hd : dV = .none) : bindArgs (PySem.W.fnOf x qual params body scope dV kV doc pm an cdv ct) ⟨us, []⟩ = pure (ps.zip us) := by
  obtain ⟨po, as_, va, ko, kd, kw, df⟩ := params
  subst hd
  unfold argsB at h
  simp only [Bool.and_eq_true, decide_eq_true_eq, List.isEmpty_iff, Option.isNone_iff_eq_none] at h
  obtain ⟨⟨⟨⟨⟨⟨⟨rfl, rfl⟩, rfl⟩, rfl⟩, rfl⟩, rfl⟩, h1⟩, h2⟩ := h
  have e1 : ((as_.map (fun x => x.arg)).take ((as_.map (fun x => x.arg)).length - 0)).filter (fun n => (((as_.map (fun x => x.arg)).zip us).lookup n).isNone) = [] := by
    rw [Nat.sub_zero, List.take_length, List.filter_eq_nil_iff]
    intro n hn
    have := look_zip (by rw [h1]; exact hl) n hn
    rw [Option.isNone_iff_eq_none]
    intro z
    rw [z] at this
    cases this
  have e2 : ¬ us.length > (as_.map (fun x => x.arg)).length := by rw [h1]; omega
  have e3 := look_self (us := us) hl h2
  subst h1
  have hs : seqItems? Value.none = pure none := rfl
  rw [List.length_map] at e2
  have e1' : List.filter (fun n => (List.lookup n ((List.map (fun x => x.arg) as_).zip us)).isNone) (List.map (fun x => x.arg) as_) = [] := by
    rw [Nat.sub_zero, List.take_length] at e1
    exact e1
  have e4 : ¬ as_.length < us.length := e2
  have e5 : List.take as_.length (List.map (fun x => x.arg) as_) = List.map (fun x => x.arg) as_ := List.take_of_length_le (by rw [List.length_map]; exact Nat.le_refl _)
  unfold bindArgs
  simp [hs, PySem.W.fnOf, e4, e1', e5, -List.filter_map, -List.filterMap_map, -List.filter_eq_nil_iff, e3]
/-- a def of the row is the table's -/
def okDef (fns : List Fn) (consts : List (Str × D)) (F : Fn) (d : He.DefD) : Bool :=
  decide (d.at_ = (F.name, none)) && d.dfl.isEmpty && d.kwd.isEmpty && scopeB F.slots F.params d.scope && argsB F.params d.params && mSs fns consts F.slots d.scope true F.body d.body
/-! ### the promise -/
structure IsDef (K : PySem.W.Frag) (mg : Str → Option Value) (fns : List Fn) (consts : List (Str × D)) (F : Fn) (a : Addr) (fd : FuncData) : Prop where
  g : mg F.name = some (.ref a)
  ex : ∃ (x qual : Str) (params : Arguments) (body : List Stmt) (scope : Scope), FunD K x qual params body scope [] [] a fd ∧ scopeB F.slots F.params scope = true ∧ argsB F.params params = true ∧ mSs fns consts F.slots scope true F.body body = true
theorem IsDef.binds {K : PySem.W.Frag} {mg : Str → Option Value} {fns : List Fn} {consts : List (Str × D)} {F : Fn} {a : Addr} {fd : FuncData} (h : IsDef K mg fns consts F a fd) : Binds K fd F.params [] := by
  obtain ⟨x, qual, params, body, scope, fu, _, ha, _⟩ := h.ex
  exact fu.bindsN fun kV doc pm an cdv ct us hl => binds_ok ha .none kV doc pm an cdv ct us hl rfl
theorem IsDef.bindsA {K : PySem.W.Frag} {mg : Str → Option Value} {fns : List Fn} {consts : List (Str × D)} {F : Fn} {a : Addr} {fd : FuncData} (h : IsDef K mg fns consts F a fd) (s : Shared) (us : List Value) (hl : us.length = F.params.length) : BindsTo s fd ⟨us, []⟩ (F.params.zip us) := by
  obtain ⟨x, qual, params, body, scope, fu, _, ha, _⟩ := h.ex
  exact fu.bindsA (fun kV doc pm an cdv ct us hl => binds_ok ha .none kV doc pm an cdv ct us hl rfl) s us hl
theorem IsDef.kp {K : PySem.W.Frag} {mg : Str → Option Value} {fns : List Fn} {consts : List (Str × D)} {F : Fn} {a : Addr} {fd : FuncData} (h : IsDef K mg fns consts F a fd) : PySem.W.keepIn K (.ref a) = true := by
  obtain ⟨x, qual, params, body, scope, fu, _⟩ := h.ex
  exact fu.kp
section
variable {P : Program} {w : World} {K : PySem.W.Frag} {mg : Str → Option Value} {base : Heap} {fns : List Fn} {consts : List (Str × D)}
theorem start_rel {T : XTy} {H : Hp} {O : Own} {N : List Str} {vs : List V} {ds : List D} (dm : Dom O H) (h : DRs K H O vs ds) : RelS K T O H H (L2.start N vs) (ds.map Cell.val ++ List.replicate (N.length - ds.length) Cell.un) := by
  have hl := h.length
  have get : ∀ (i : Nat) (c : Cell), (ds.map Cell.val ++ List.replicate (N.length - ds.length) Cell.un)[i]? = some c → c = .un ∨ ∃ d v, c = .val d ∧ (L2.start N vs)[i]? = some (some v) ∧ DR K H O v d := fun i c e => by
    by_cases hi : i < ds.length
    · rw [List.getElem?_append_left (by simpa using hi), List.getElem?_map] at e
      rw [List.getElem?_eq_getElem hi] at e
      cases e
      obtain ⟨v, h1, h2⟩ := h.get (List.getElem?_eq_getElem hi)
      refine .inr ⟨_, v, rfl, ?_, h2⟩
      unfold L2.start
      rw [List.getElem?_append_left (by rw [List.length_map]; omega), List.getElem?_map, h1]
      rfl
    · rw [List.getElem?_append_right (by simpa using hi), List.getElem?_replicate] at e
      split at e
      · cases e; exact .inl rfl
      · cases e
  have no : ∀ a, ¬ OV (L2.start N vs) (ds.map Cell.val ++ List.replicate (N.length - ds.length) Cell.un) a := fun a ⟨i, es, h1, h2⟩ => by
    rcases get i _ h1 with e | ⟨_, _, e, _⟩ <;> cases e
  refine ⟨⟨?_, fun a z => z.elim (dm a) fun q => (no a q).elim, fun i d e => ?_, fun i es e => ?_, fun i x e => (by rcases get i _ e with q | ⟨_, _, q, _⟩ <;> cases q)⟩, Same.refl H, fun a z => (no a z).elim, dm, fun i j es fs p h1 _ _ _ => ?_⟩
  · unfold L2.start
    simp [hl]
  · rcases get i _ e with q | ⟨d', v, q, h1, h2⟩
    · cases q
    · cases q
      exact ⟨v, h1, DR.mv (mv_sub fun a z => z.elim id fun q => (no a q).elim) _ _ h2⟩
  · rcases get i _ e with q | ⟨_, _, q, _⟩ <;> cases q
  · rcases get i _ h1 with q | ⟨_, _, q, _⟩ <;> cases q
theorem fns_ok (hf : ∀ (f : Nat) (F : Fn), fns[f]? = some F → ∃ a fd, IsDef K mg fns consts F a fd) (bi : ∀ x, x ∈ biAll → mg x = none) (cs : ∀ x d, consts.lookup x = some d → flatD d = true → ∃ v u, mg x = some u ∧ RelV v u ∧ ∀ H O, DR K H O v d) (exs : ∀ x, consts.lookup x = some (.dict []) → ExcAt K mg x) (xr : ExcRel K mg consts) :
    ∀ (k f : Nat) (F : Fn) (a : Addr) (fd : FuncData), fns[f]? = some F → IsDef K mg fns consts F a fd → FnOk P w K mg base (L2.CX P w) k a fd F.params (spF K mg fns k f)
  | 0, f, F, a, fd, hF, hD => by
    have no : ∀ vs H Q E, ¬ spF K mg fns 0 f vs H Q E := fun vs H Q E h => by
      obtain ⟨O, ds, _, _, _, q⟩ := h
      unfold evFn at q
      exact q
    exact ⟨fun vs H Q E h => (no vs H Q E h).elim, fun A outer s H args us vs Q E _ _ _ _ h => (no vs H Q E h).elim⟩
  | k + 1, f, F, a, fd, hF, hD => by
    have ih := fns_ok hf bi cs exs xr k
    obtain ⟨x, qual, params, body, scope, fu, hsc, ha, hm⟩ := hD.ex
    have S := scopeB_ok hsc
    refine fu.ok S (fun vs H Q E h => ?_) fun cdv A outer s H vs Q E room h => ?_
    · obtain ⟨O, ds, _, drs, ⟨F', e, hl⟩, _⟩ := h
      rw [hF] at e
      cases e
      rw [drs.length]
      exact hl
    · obtain ⟨O, ds, dm, drs, ⟨F', e, hl⟩, q⟩ := h
      rw [hF] at e
      cases e
      have hcn : (!isNil fns) = true := by
        cases fns with
        | nil => cases hF
        | cons _ _ => rfl
      have g : GdS fns consts k true (cxOf (L2.CX P w) P w K mg base F.slots qual scope a cdv A outer s H E) ⟨fun cls d _ H => E cls d H, fun _ _ => False⟩ :=
        ⟨⟨fun _ => rfl, S.nd, fun _ => room, (by have := room.un; show (A.deeper (envOfC qual scope s.heap.objs.size a cdv)).units + 200 < cLine; omega), takes_of rfl rfl rfl rfl, fun f F hF => by
            obtain ⟨a', fd', hd⟩ := hf f F hF
            exact ⟨a', fd', hd.g, hd.kp, hd.binds, ih f F a' fd' hF hd⟩, bi, cs, exs, xr, (fun h => by rw [h] at hcn; cases hcn), (fun h => by rw [h] at hcn; cases hcn)⟩, S.kind, fun _ => rfl, fun _ => passes_of rfl, rfl, rfl, fun _ _ _ h => h⟩
      refine ⟨_, sSs fns k F.body _ _ true body g hm, O, H, _, Oo O (L2.start F.slots vs) (ds.map Cell.val ++ List.replicate (F.slots.length - ds.length) Cell.un), H, start_rel dm drs, Mv.refl _ _, ?_⟩
      unfold evFn at q
      rw [hF] at q
      dsimp only at q
      rw [if_pos hl, ← hl] at q
      revert q
      generalize evSs (evFn fns k) (ds.map Cell.val ++ List.replicate (F.slots.length - ds.length) Cell.un) F.body = r
      intro q
      cases r with
      | next ρ' => exact fun σ' H' rs _ => q .non H' rs.ex .non
      | ret d => exact fun v H' sm dr => q v H' sm dr
      | err x ρ' => exact fun σ' H' rs _ => q H' rs.ex
      | bad => exact q
end
theorem flyNo {P : Program} {w : World} (H : Hp) (s : Shared) (e : Value) (s' : Shared) (h : L2.CX P w [] H s (fun _ _ _ => False) e s') : False := by
  obtain ⟨a, B, H', cls, d, _, _, _, _, _, _, _, z⟩ := h
  exact z
end Qw

set_option Elab.async false
set_option linter.all false
set_option maxRecDepth 100000
set_option maxHeartbeats 4000000
/-! A law's end. By an AI agent. -/
namespace Qw
open PySem PySem.Spec PyProof.Rows L2
def cfa : Str × D → He.Fa
  | (x, .int i) => .int x i
  | (x, .str z) => .str x z
  | (x, .dict _) => .exc x
  | (x, _) => .keep x
/-- a class's name stands for it -/
def cgl : Str × D → He.Fa
  | (x, .dict _) => .glo x
  | (x, .int i) => .int x i
  | (x, .str z) => .str x z
  | (x, _) => .keep x
def cOk : Str × D → Bool
  | (_, .int _) => true
  | (_, .str _) => true
  | (_, .dict _) => true
  | _ => false
def faOf (fns : List Fn) (consts : List (Str × D)) : List He.Fa := (fns.map fun F => He.Fa.glo F.name) ++ ((biAll.map fun x => He.Fa.free x) ++ (consts.map cfa ++ consts.map cgl))
def tabOk (fns : List Fn) (consts : List (Str × D)) (defs : List He.DefD) : Bool := Nat.beq defs.length fns.length && ((fns.zip defs).all fun p => okDef fns consts p.1 p.2) && consts.all cOk
theorem says_mem {fa : List He.Fa} {fn : List He.DefD} {K : PySem.W.Frag} (c : He.SaysD fa fn K) {f : He.Fa} (h : f ∈ fa) : f.ok K = true := by
  obtain ⟨i, hi⟩ := List.getElem?_of_mem h
  exact c.fact i hi
theorem lookup_mem {x : Str} {d : D} : ∀ {l : List (Str × D)}, l.lookup x = some d → (x, d) ∈ l
  | [], h => by cases h
  | (y, e) :: l, h => by
    rw [List.lookup_cons] at h
    cases q : (x == y) with
    | true =>
      rw [q] at h
      cases h
      rw [eq_of_beq q]
      exact List.mem_cons_self
    | false =>
      rw [q] at h
      exact List.mem_cons_of_mem _ (lookup_mem h)
/-- the classes of exceptions among the constants -/
def exNames (consts : List (Str × D)) : List Str := consts.filterMap fun p => match p.2 with
  | .dict [] => some p.1
  | _ => none
theorem exNames_mem {consts : List (Str × D)} {x : Str} (h : consts.lookup x = some (.dict [])) : x ∈ exNames consts := List.mem_filterMap.mpr ⟨_, lookup_mem h, rfl⟩
/-- what isinstance and except ask of the classes -/
def excCB (K : PySem.W.Frag) (C : Addr) : Bool :=
  decide (PySem.W.findIn K (.ref C) "__getattribute__" = some (some (.builtin "BaseException.__getattribute__"))) && decide (PySem.W.findIn K (.ref C) "__getattr__" = some none) &&
  decide (PySem.W.subIn K (.ref C) (.type "BaseException") = some true) && PySem.W.hasDictIn K C && decide (PySem.W.findIn K (.ref C) "__class__" = some (some (.builtin "object.__class__"))) &&
  decide (PySem.W.specialIn K (.builtin "object.__class__") "__get__" = some (some (.builtin "getset_descriptor.__get__"))) && decide (PySem.W.takesIn K (.builtin "object.__class__") = some true) && decide (PySem.W.mroIn K C (.type "object") = some true)
theorem excCB_ok {K : PySem.W.Frag} {C : Addr} (h : excCB K C = true) : L2.ExcC K C := by
  unfold excCB at h
  simp only [Bool.and_eq_true, decide_eq_true_eq] at h
  obtain ⟨⟨⟨⟨⟨⟨⟨h1, h2⟩, h3⟩, h4⟩, h5⟩, h6⟩, h7⟩, h8⟩ := h
  exact ⟨h1, h2, h3, h4, h5, h6, h7, h8⟩
def relB (K : PySem.W.Frag) (xs : List Str) : Bool := xs.all fun x => excCB K (He.ga K x) && xs.all fun y => decide (PySem.W.exmOne K (.ref (He.ga K x)) (.ref (He.ga K y)) = some (isA x y)) && decide (PySem.W.kitOne K (.ref (He.ga K x)) (.ref (He.ga K y)) = some (isA x y))
def obsQ (n : Nat) (fa : List He.Fa) (fn : List He.DefD) (xs : List Str) (g : Addr → Option Obj) : Bool × He.AlD := (relB (He.frG g (He.asD g n)) xs, He.obsDG n fa fn g)
/-- the library's hook, and the classes' relations -/
def hookQ (n : Nat) (fa : List He.Fa) (fn : List He.DefD) (xs : List Str) : PySem.W.Hook where
  α := Bool × He.AlD
  obs := fun s => obsQ n fa fn xs s.heap.get?
  val := fun _ => (true, He.valD fn)
  says := fun _ h => ∃ K : PySem.W.Frag, K.In h ∧ He.SaysD fa fn K ∧ relB K xs = true
  of := fun _ _ e => ⟨_, He.frG_in, congrArg Prod.snd e, congrArg Prod.fst e⟩
  keeps := fun _ _ _ ⟨K, hK, c⟩ k => ⟨K, PySem.W.Frag.In.keeps hK k, c⟩
theorem obsQ_eq {n : Nat} {fa : List He.Fa} {fn : List He.DefD} {xs : List Str} {g : Addr → Option Obj} {s : Shared} (h : ∀ a, g a = s.heap.get? a) : obsQ n fa fn xs g = (hookQ n fa fn xs).obs s := by
  have e : g = s.heap.get? := funext h
  rw [e]
  rfl
section
variable {K : PySem.W.Frag} {h : Heap} {mg : Str → Option Value} {fns : List Fn} {consts : List (Str × D)} {defs : List He.DefD}
theorem tab_def (X : K.In h) (G : h.Ns mainGlobals mg) (c : He.SaysD (faOf fns consts) defs K) (ok : tabOk fns consts defs = true) (f : Nat) (F : Fn) (hF : fns[f]? = some F) : ∃ a fd, IsDef K mg fns consts F a fd := by
  unfold tabOk at ok
  simp only [Bool.and_eq_true, List.all_eq_true] at ok
  obtain ⟨⟨h1, h2⟩, h3⟩ := ok
  have h1 := Nat.eq_of_beq_eq_true h1
  have hlt : f < defs.length := by
    have := (List.getElem?_eq_some_iff.mp hF).1
    omega
  have hd : defs[f]? = some defs[f] := List.getElem?_eq_getElem hlt
  have hm : (F, defs[f]) ∈ fns.zip defs := by
    apply List.mem_of_getElem? (i := f)
    rw [List.getElem?_zip_eq_some]
    exact ⟨hF, hd⟩
  have q := h2 _ hm
  unfold okDef at q
  simp only [Bool.and_eq_true, decide_eq_true_eq, List.isEmpty_iff] at q
  obtain ⟨⟨⟨⟨⟨q1, q2⟩, q3⟩, q4⟩, q5⟩, q6⟩ := q
  obtain ⟨fd, fu⟩ := c.def_ f hd
  have e1 : defs[f].dvs K = [] := by unfold He.DefD.dvs; rw [q2]; rfl
  have e2 : defs[f].kws K = [] := by unfold He.DefD.kws; rw [q3]; rfl
  rw [e1, e2, q1] at fu
  refine ⟨He.ga K F.name, fd, He.glo_ok X G (says_mem c (List.mem_append_left _ (List.mem_map.mpr ⟨F, List.mem_of_getElem? hF, rfl⟩))), _, _, _, _, _, fu, q4, q5, q6⟩
theorem tab_bi (X : K.In h) (G : h.Ns mainGlobals mg) (c : He.SaysD (faOf fns consts) defs K) (x : Str) (hx : x ∈ biAll) : mg x = none :=
  He.free_ok X G (says_mem c (List.mem_append_right _ (List.mem_append_left _ (List.mem_map.mpr ⟨x, hx, rfl⟩))))
theorem tab_cs (X : K.In h) (G : h.Ns mainGlobals mg) (c : He.SaysD (faOf fns consts) defs K) (ok : tabOk fns consts defs = true) (x : Str) (d : D) (hx : consts.lookup x = some d) (hfl : flatD d = true) : ∃ v u, mg x = some u ∧ RelV v u ∧ ∀ H O, DR K H O v d := by
  unfold tabOk at ok
  simp only [Bool.and_eq_true, List.all_eq_true] at ok
  have hm := lookup_mem hx
  have h3 := ok.2 _ hm
  have hf := says_mem c (List.mem_append_right _ (List.mem_append_right _ (List.mem_append_left _ (List.mem_map.mpr ⟨_, hm, rfl⟩))))
  cases d with
  | int i =>
    obtain ⟨t, e⟩ := He.int_ok X G hf
    exact ⟨.int i, _, e, ⟨t, rfl⟩, fun H O => .int i⟩
  | str z =>
    obtain ⟨t, e⟩ := He.str_ok X G hf
    exact ⟨.str z, _, e, ⟨t, rfl⟩, fun H O => .str z⟩
  | dict _ => cases hfl
  | _ => cases h3
theorem tab_ex (X : K.In h) (G : h.Ns mainGlobals mg) (c : He.SaysD (faOf fns consts) defs K) (x : Str) (hx : consts.lookup x = some (.dict [])) : ExcAt K mg x := by
  have hm := lookup_mem hx
  have hf : (He.Fa.exc x).ok K = true := says_mem c (List.mem_append_right _ (List.mem_append_right _ (List.mem_append_left _ (List.mem_map.mpr ⟨_, hm, rfl⟩))))
  have hg : (He.Fa.glo x).ok K = true := says_mem c (List.mem_append_right _ (List.mem_append_right _ (List.mem_append_right _ (List.mem_map.mpr ⟨_, hm, rfl⟩))))
  obtain ⟨h1, h2, h3, h4⟩ := He.exc_ok hf
  exact ⟨He.ga K x, He.glo_ok X G hg, h1, h2, h3, h4⟩
theorem tab_xr (X : K.In h) (G : h.Ns mainGlobals mg) (c : He.SaysD (faOf fns consts) defs K) (r : relB K (exNames consts) = true) : ExcRel K mg consts := fun x y A B hx hy hA hB => by
  have gl : ∀ z Z, consts.lookup z = some (.dict []) → mg z = some (.ref Z) → Z = He.ga K z := fun z Z hz hZ => by
    have hg : (He.Fa.glo z).ok K = true := says_mem c (List.mem_append_right _ (List.mem_append_right _ (List.mem_append_right _ (List.mem_map.mpr ⟨_, lookup_mem hz, rfl⟩))))
    have := He.glo_ok X G hg
    rw [hZ] at this
    cases this
    rfl
  rw [gl x A hx hA, gl y B hy hB]
  unfold relB at r
  simp only [List.all_eq_true, Bool.and_eq_true, decide_eq_true_eq] at r
  obtain ⟨r1, r2⟩ := r x (exNames_mem hx)
  exact ⟨excCB_ok r1, r2 y (exNames_mem hy)⟩
theorem scr_dr {H : Hp} {a : Addr} {ns : List Int} (hO : Only H) (hS : SqL K H a (ns.map V.int)) : DR K H (fun _ => False) (.ref a) (scr ns) := .scr (ScrOk.of (fun z => z) hO hS) rfl
end
/-- what leaves a def, at some world -/
def cxW (P : Program) : CXT := fun outer H s E u s' => ∃ w, L2.CX P w outer H s E u s'
theorem fnok_w {P : Program} {w : World} {K : PySem.W.Frag} {mg : Str → Option Value} {base : Heap} {k : Nat} {f : Addr} {fd : FuncData} {ps : List Str} {sp : Sp} (F : FnOk P w K mg base (L2.CX P w) k f fd ps sp) : FnOk P w K mg base (cxW P) k f fd ps sp :=
  ⟨F.len, fun A outer s H args us vs Q E hr he hb hv hs => codeAny_mono (F.run A outer s H args us vs Q E hr he hb hv hs) fun r s' q => by
    cases r with
    | ok o => cases o <;> exact q
    | error e => exact ⟨w, q⟩⟩
/-- a law, whose def is the table's li-th -/
theorem law_walk {l : PySem.W.OpenLaw} {q : Program} {loose : List Str} {XP : (Str → Option Value) → Heap → Prop} {d : DefRec} {fns : List Fn} {consts : List (Str × D)} {defs : List He.DefD} {n m li k : Nat} {x : Str} {F : Fn}
    (hn : l.most = some n) (hn2 : n ≤ sizeLine) (hdf : d.params.defaults = []) (hr : Room k callerA) (ok : tabOk fns consts defs = true) (hF : fns[li]? = some F) (hps : F.params = [x]) (hnm : d.name = F.name)
    (main : ∀ ns : List Int, ns.length ≤ n → evFn fns k li [scr ns] = .ok (.bool true)) :
    PySem.W.WalkO q loose XP (hookQ m (faOf fns consts) defs (exNames consts)).says l.row.toRowW d [] (fun f vs => PySem.call f vs) := by
  refine L2.walk_ofE (k := k) (x := x) (CX := cxW l.prog) (n := n) hn hn2 hdf hr (fun w mg fa h Y G hg => ?_) fun H s e s' ⟨w, z⟩ => flyNo H s e s' z
  obtain ⟨K, KX, c, rB⟩ := Y
  obtain ⟨a0, fd, hD⟩ := tab_def KX G c ok li F hF
  have ea : a0 = fa := by
    have := hD.g
    rw [← hnm, hg] at this
    cases this
    rfl
  subst ea
  refine ⟨K, fd, spF K mg fns k li, KX, fun s u => ?_, fun H a ns hl hO hS => ?_, fun base kb gb => ?_⟩
  · have := hD.bindsA s [u] (by rw [hps]; rfl)
    rw [hps] at this
    exact this
  · refine ⟨fun _ => False, [scr ns], fun a z => z.elim, .cons (scr_dr hO hS) .nil, ⟨F, hF, by rw [hps]; rfl⟩, ?_⟩
    rw [main ns hl]
    intro v H' _ dr
    cases dr
    rfl
  · have q := fns_ok (P := l.prog) (w := w) (base := base) (fun f F hF => tab_def KX G c ok f F hF) (fun y hy => tab_bi KX G c y hy) (fun y d hy hfl => tab_cs KX G c ok y d hy hfl) (fun y hy => tab_ex KX G c y hy) (tab_xr KX G c rB) k li F a0 fd hF hD
    rw [hps] at q
    exact fnok_w q
end Qw

set_option Elab.async false
set_option linter.all false
set_option maxRecDepth 100000
/-! The defs of the program and of the laws as terms of the small language; printed by gen.py --lib. By an AI agent. -/
namespace Qw
open PySem
def F_in_range : Fn := { name := "in_range", params := ["value", "low", "high"], slots := ["value", "low", "high"], body := (.cons (.ret (.and (.bi (.isi .int) (.cons (.var 0) .nil)) (.and (.not (.bi (.isi .bool) (.cons (.var 0) .nil))) (.chain (.var 1) (.var 0) (.var 2))))) .nil) }
def F_is_coalition (i_in_range : Nat) : Fn := { name := "is_coalition", params := ["players", "value"], slots := ["players", "value", "player", "left", "right"], body := (.cons (.ite (.or (.not (.bi (.isi .tuple) (.cons (.var 1) .nil))) (.comp (.var 2) (.one 2) (.seq (.var 1)) (.some (.not (.call i_in_range (.cons (.var 2) (.cons (.cst (.int 0)) (.cons (.bin .sub (.var 0) (.cst (.int 1))) .nil)))))))) (.cons (.ret (.cst (.bool false))) .nil) .nil) (.cons (.ret (.not (.comp (.cst (.int 1)) (.many [3, 4]) (.zip (.var 1) (.cut (.var 1) (.some (.cst (.int 1))) .none)) (.some (.cmp .ge (.var 3) (.var 4)))))) .nil)) }
def F_is_subset : Fn := { name := "is_subset", params := ["left", "right"], slots := ["left", "right", "player"], body := (.cons (.ret (.not (.comp (.var 2) (.one 2) (.seq (.var 0)) (.some (.cmp .notin (.var 2) (.var 1)))))) .nil) }
def F_is_game (i_in_range : Nat) (i_is_coalition : Nat) (i_is_subset : Nat) : Fn := { name := "is_game", params := ["value"], slots := ["value", "item", "left", "right"], body := (.cons (.ite (.or (.not (.bi (.isi .tuple) (.cons (.var 0) .nil))) (.or (.cmp .ne (.bi .len (.cons (.var 0) .nil)) (.cst (.int 2))) (.not (.call i_in_range (.cons (.idx (.var 0) (.cst (.int 0))) (.cons (.cst (.int 1)) (.cons (.cst (.int 6)) .nil))))))) (.cons (.ret (.cst (.bool false))) .nil) .nil) (.cons (.ite (.or (.not (.bi (.isi .tuple) (.cons (.idx (.var 0) (.cst (.int 1))) .nil))) (.comp (.var 1) (.one 1) (.seq (.idx (.var 0) (.cst (.int 1)))) (.some (.not (.call i_is_coalition (.cons (.idx (.var 0) (.cst (.int 0))) (.cons (.var 1) .nil))))))) (.cons (.ret (.cst (.bool false))) .nil) .nil) (.cons (.ite (.or (.not (.idx (.var 0) (.cst (.int 1)))) (.or (.cmp .isin (.tup .nil) (.idx (.var 0) (.cst (.int 1)))) (.comp (.cst (.int 1)) (.many [2, 3]) (.zip (.idx (.var 0) (.cst (.int 1))) (.cut (.idx (.var 0) (.cst (.int 1))) (.some (.cst (.int 1))) .none)) (.some (.cmp .ge (.var 2) (.var 3)))))) (.cons (.ret (.cst (.bool false))) .nil) .nil) (.cons (.ret (.not (.comp2 (.cst (.int 1)) (.one 2) (.seq (.idx (.var 0) (.cst (.int 1)))) .none (.one 3) (.seq (.idx (.var 0) (.cst (.int 1)))) (.some (.and (.cmp .ne (.var 2) (.var 3)) (.call i_is_subset (.cons (.var 2) (.cons (.var 3) .nil)))))))) .nil)))) }
def F_check_game (i_is_game : Nat) : Fn := { name := "check_game", params := ["game"], slots := ["game"], body := (.cons (.ite (.not (.call i_is_game (.cons (.var 0) .nil))) (.cons (.raise "InvalidGame") .nil) .nil) .nil) }
def F_check_player (i_check_game : Nat) (i_in_range : Nat) : Fn := { name := "check_player", params := ["game", "player"], slots := ["game", "player"], body := (.cons (.expr (.call i_check_game (.cons (.var 0) .nil))) (.cons (.ite (.not (.call i_in_range (.cons (.var 1) (.cons (.cst (.int 0)) (.cons (.bin .sub (.idx (.var 0) (.cst (.int 0))) (.cst (.int 1))) .nil))))) (.cons (.raise "InvalidPlayer") .nil) .nil) .nil)) }
def F_all_coalitions : Fn := { name := "all_coalitions", params := ["players"], slots := ["players", "result", "player", "coalition"], body := (.cons (.asg 1 (.lst (.cons (.tup .nil) .nil))) (.cons (.forS (.one 2) (.range1 (.var 0)) (.cons (.asg 1 (.bin .add (.var 1) (.comp (.bin .add (.var 3) (.tup (.cons (.var 2) .nil))) (.one 3) (.seq (.var 1)) .none))) .nil)) (.cons (.ret (.bi .sorted (.cons (.var 1) .nil))) .nil))) }
def F_is_winning (i_is_subset : Nat) : Fn := { name := "is_winning", params := ["game", "coalition"], slots := ["game", "coalition", "minimal"], body := (.cons (.ret (.cmp .gt (.bi .len (.cons (.comp (.var 2) (.one 2) (.seq (.idx (.var 0) (.cst (.int 1)))) (.some (.call i_is_subset (.cons (.var 2) (.cons (.var 1) .nil))))) .nil)) (.cst (.int 0)))) .nil) }
def F_wins (i_check_game : Nat) (i_is_coalition : Nat) (i_is_winning : Nat) : Fn := { name := "wins", params := ["game", "coalition"], slots := ["game", "coalition"], body := (.cons (.expr (.call i_check_game (.cons (.var 0) .nil))) (.cons (.ite (.not (.call i_is_coalition (.cons (.idx (.var 0) (.cst (.int 0))) (.cons (.var 1) .nil)))) (.cons (.raise "InvalidCoalition") .nil) .nil) (.cons (.ret (.call i_is_winning (.cons (.var 0) (.cons (.var 1) .nil)))) .nil))) }
def F_winning (i_check_game : Nat) (i_all_coalitions : Nat) (i_is_winning : Nat) : Fn := { name := "winning", params := ["game"], slots := ["game", "coalition"], body := (.cons (.expr (.call i_check_game (.cons (.var 0) .nil))) (.cons (.ret (.comp (.var 1) (.one 1) (.seq (.call i_all_coalitions (.cons (.idx (.var 0) (.cst (.int 0))) .nil))) (.some (.call i_is_winning (.cons (.var 0) (.cons (.var 1) .nil)))))) .nil)) }
def F_with_player : Fn := { name := "with_player", params := ["coalition", "player"], slots := ["coalition", "player"], body := (.cons (.ret (.bi .tuple (.cons (.bi .sorted (.cons (.bin .add (.var 0) (.tup (.cons (.var 1) .nil))) .nil)) .nil))) .nil) }
def F_outsiders : Fn := { name := "outsiders", params := ["game", "coalition"], slots := ["game", "coalition", "player"], body := (.cons (.ret (.bi .tuple (.cons (.comp (.var 2) (.one 2) (.range1 (.idx (.var 0) (.cst (.int 0)))) (.some (.cmp .notin (.var 2) (.var 1)))) .nil))) .nil) }
def F_maximal_losing_of (i_all_coalitions : Nat) (i_is_winning : Nat) (i_with_player : Nat) (i_outsiders : Nat) : Fn := { name := "maximal_losing_of", params := ["game"], slots := ["game", "result", "coalition", "extended", "player", "larger"], body := (.cons (.asgOwn 1 (.lst .nil)) (.cons (.forS (.one 2) (.seq (.call i_all_coalitions (.cons (.idx (.var 0) (.cst (.int 0))) .nil))) (.cons (.ite (.not (.call i_is_winning (.cons (.var 0) (.cons (.var 2) .nil)))) (.cons (.asg 3 (.comp (.call i_with_player (.cons (.var 2) (.cons (.var 4) .nil))) (.one 4) (.seq (.call i_outsiders (.cons (.var 0) (.cons (.var 2) .nil)))) .none)) (.cons (.ite (.not (.comp (.var 5) (.one 5) (.seq (.var 3)) (.some (.not (.call i_is_winning (.cons (.var 0) (.cons (.var 5) .nil))))))) (.cons (.app 1 (.var 2)) .nil) .nil) .nil)) .nil) .nil)) (.rel 1 (.cons (.ret (.var 1)) .nil)))) }
def F_dominates (i_all_coalitions : Nat) (i_is_winning : Nat) (i_with_player : Nat) : Fn := { name := "dominates", params := ["game", "left", "right"], slots := ["game", "left", "right", "coalition"], body := (.cons (.forS (.one 3) (.seq (.call i_all_coalitions (.cons (.idx (.var 0) (.cst (.int 0))) .nil))) (.cons (.ite (.and (.cmp .notin (.var 1) (.var 3)) (.and (.cmp .notin (.var 2) (.var 3)) (.call i_is_winning (.cons (.var 0) (.cons (.call i_with_player (.cons (.var 3) (.cons (.var 2) .nil))) .nil))))) (.cons (.ite (.not (.call i_is_winning (.cons (.var 0) (.cons (.call i_with_player (.cons (.var 3) (.cons (.var 1) .nil))) .nil)))) (.cons (.ret (.cst (.bool false))) .nil) .nil) .nil) .nil) .nil)) (.cons (.ret (.cst (.bool true))) .nil)) }
def F_is_at_least (i_check_player : Nat) (i_dominates : Nat) : Fn := { name := "is_at_least", params := ["game", "left", "right"], slots := ["game", "left", "right"], body := (.cons (.expr (.call i_check_player (.cons (.var 0) (.cons (.var 1) .nil)))) (.cons (.expr (.call i_check_player (.cons (.var 0) (.cons (.var 2) .nil)))) (.cons (.ret (.call i_dominates (.cons (.var 0) (.cons (.var 1) (.cons (.var 2) .nil))))) .nil))) }
def F_swap (i_check_game : Nat) (i_dominates : Nat) (i_witness : Nat) : Fn := { name := "swap", params := ["game"], slots := ["game", "left", "right"], body := (.cons (.expr (.call i_check_game (.cons (.var 0) .nil))) (.cons (.forS (.one 1) (.range1 (.idx (.var 0) (.cst (.int 0)))) (.cons (.forS (.one 2) (.range1 (.idx (.var 0) (.cst (.int 0)))) (.cons (.ite (.and (.cmp .ne (.var 1) (.var 2)) (.and (.not (.call i_dominates (.cons (.var 0) (.cons (.var 1) (.cons (.var 2) .nil))))) (.not (.call i_dominates (.cons (.var 0) (.cons (.var 2) (.cons (.var 1) .nil))))))) (.cons (.ret (.tup (.cons (.call i_witness (.cons (.var 0) (.cons (.var 1) (.cons (.var 2) .nil)))) (.cons (.call i_witness (.cons (.var 0) (.cons (.var 2) (.cons (.var 1) .nil)))) (.cons (.var 1) (.cons (.var 2) .nil)))))) .nil) .nil) .nil)) .nil)) (.cons (.raise "IsComplete") .nil))) }
def F_witness (i_all_coalitions : Nat) (i_is_winning : Nat) (i_with_player : Nat) : Fn := { name := "witness", params := ["game", "member", "other"], slots := ["game", "member", "other", "coalition"], body := (.cons (.forS (.one 3) (.seq (.call i_all_coalitions (.cons (.idx (.var 0) (.cst (.int 0))) .nil))) (.cons (.ite (.and (.cmp .notin (.var 1) (.var 3)) (.and (.cmp .notin (.var 2) (.var 3)) (.call i_is_winning (.cons (.var 0) (.cons (.call i_with_player (.cons (.var 3) (.cons (.var 1) .nil))) .nil))))) (.cons (.ite (.not (.call i_is_winning (.cons (.var 0) (.cons (.call i_with_player (.cons (.var 3) (.cons (.var 2) .nil))) .nil)))) (.cons (.ret (.call i_with_player (.cons (.var 3) (.cons (.var 1) .nil)))) .nil) .nil) .nil) .nil) .nil)) (.cons (.ret (.cst .none)) .nil)) }
def F_entering_column : Fn := { name := "entering_column", params := ["table", "columns"], slots := ["table", "columns", "column"], body := (.cons (.forS (.one 2) (.range1 (.var 1)) (.cons (.ite (.cmp .gt (.idx (.idx (.var 0) (.neg (.cst (.int 1)))) (.var 2)) (.cst (.int 0))) (.cons (.ret (.var 2)) .nil) .nil) .nil)) (.cons (.ret (.cst .none)) .nil)) }
def F_leaving_row : Fn := { name := "leaving_row", params := ["table", "basis", "column"], slots := ["table", "basis", "column", "best", "row", "left", "right"], body := (.cons (.asg 3 (.cst .none)) (.cons (.forS (.one 4) (.range1 (.bin .sub (.bi .len (.cons (.var 0) .nil)) (.cst (.int 1)))) (.cons (.ite (.cmp .gt (.idx (.idx (.var 0) (.var 4)) (.var 2)) (.cst (.int 0))) (.cons (.ite (.isN false (.var 3)) (.cons (.asg 3 (.var 4)) .nil) (.cons (.asg 5 (.bin .mul (.idx (.idx (.var 0) (.var 4)) (.neg (.cst (.int 1)))) (.idx (.idx (.var 0) (.var 3)) (.var 2)))) (.cons (.asg 6 (.bin .mul (.idx (.idx (.var 0) (.var 3)) (.neg (.cst (.int 1)))) (.idx (.idx (.var 0) (.var 4)) (.var 2)))) (.cons (.ite (.or (.cmp .lt (.var 5) (.var 6)) (.and (.cmp .eq (.var 5) (.var 6)) (.cmp .lt (.idx (.var 1) (.var 4)) (.idx (.var 1) (.var 3))))) (.cons (.asg 3 (.var 4)) .nil) .nil) .nil)))) .nil) .nil) .nil)) (.cons (.ret (.var 3)) .nil))) }
def F_pivot : Fn := { name := "pivot", params := ["table", "row", "column", "scale"], slots := ["table", "row", "column", "scale", "source", "result", "index", "target", "factor", "entry", "other"], body := (.cons (.asg 4 (.idx (.var 0) (.var 1))) (.cons (.asgOwn 5 (.lst .nil)) (.cons (.forS (.many [6, 7]) (.enum (.var 0)) (.cons (.ite (.cmp .eq (.var 6) (.var 1)) (.cons (.app 5 (.var 7)) .nil) (.cons (.asg 8 (.idx (.var 7) (.var 2))) (.cons (.app 5 (.comp (.bin .div (.bin .sub (.bin .mul (.var 9) (.idx (.var 4) (.var 2))) (.bin .mul (.var 10) (.var 8))) (.var 3)) (.many [9, 10]) (.zip (.var 7) (.var 4)) .none)) .nil))) .nil)) (.rel 5 (.cons (.ret (.var 5)) .nil))))) }
def F_solve (i_entering_column : Nat) (i_leaving_row : Nat) (i_pivot : Nat) : Fn := { name := "solve", params := ["equations", "columns"], slots := ["equations", "columns", "count", "table", "index", "equation", "other", "sums", "row", "column", "basis", "scale", "next_scale", "solution", "variable"], body := (.cons (.asg 2 (.bi .len (.cons (.var 0) .nil))) (.cons (.asgOwn 3 (.lst .nil)) (.cons (.forS (.many [4, 5]) (.enum (.var 0)) (.cons (.app 3 (.bin .add (.bin .add (.cut (.var 5) .none (.some (.neg (.cst (.int 1))))) (.comp (.bi .int (.cons (.cmp .eq (.var 4) (.var 6)) .nil)) (.one 6) (.range1 (.var 2)) .none)) (.cut (.var 5) (.some (.neg (.cst (.int 1)))) .none))) .nil)) (.cons (.asg 7 (.comp (.bi .sum (.cons (.comp (.idx (.var 8) (.var 9)) (.one 8) (.seq (.var 3)) .none) .nil)) (.one 9) (.range1 (.var 1)) .none)) (.cons (.app 3 (.bin .add (.bin .add (.var 7) (.bin .mul (.lst (.cons (.cst (.int 0)) .nil)) (.var 2))) (.lst (.cons (.bi .sum (.cons (.comp (.idx (.var 8) (.neg (.cst (.int 1)))) (.one 8) (.seq (.var 3)) .none) .nil)) .nil)))) (.cons (.asgOwn 10 (.comp (.bin .add (.var 1) (.var 4)) (.one 4) (.range1 (.var 2)) .none)) (.cons (.asg 11 (.cst (.int 1))) (.cons (.asg 9 (.call i_entering_column (.cons (.var 3) (.cons (.var 1) .nil)))) (.rel 3 (.cons (.whileS (.isN true (.var 9)) (.cons (.asg 8 (.call i_leaving_row (.cons (.var 3) (.cons (.var 10) (.cons (.var 9) .nil))))) (.cons (.asg 12 (.idx (.idx (.var 3) (.var 8)) (.var 9))) (.rel 3 (.cons (.asg 3 (.call i_pivot (.cons (.var 3) (.cons (.var 8) (.cons (.var 9) (.cons (.var 11) .nil)))))) (.cons (.asg 11 (.var 12)) (.cons (.setIx 10 (.var 8) (.var 9)) (.cons (.asg 9 (.call i_entering_column (.cons (.var 3) (.cons (.var 1) .nil)))) .nil)))))))) (.cons (.ite (.cmp .ne (.idx (.idx (.var 3) (.neg (.cst (.int 1)))) (.neg (.cst (.int 1)))) (.cst (.int 0))) (.cons (.ret (.tup (.cons (.cst .none) (.cons (.comp (.bin .add (.idx (.idx (.var 3) (.neg (.cst (.int 1)))) (.bin .add (.var 1) (.var 4))) (.var 11)) (.one 4) (.range1 (.var 2)) .none) .nil)))) .nil) .nil) (.cons (.asgOwn 13 (.bin .mul (.lst (.cons (.cst (.int 0)) .nil)) (.var 1))) (.rel 10 (.cons (.forS (.many [8, 14]) (.enum (.var 10)) (.cons (.ite (.cmp .lt (.var 14) (.var 1)) (.cons (.setIx 13 (.var 14) (.idx (.idx (.var 3) (.var 8)) (.neg (.cst (.int 1))))) .nil) .nil) .nil)) (.rel 13 (.cons (.ret (.tup (.cons (.tup (.cons (.var 13) (.cons (.var 11) .nil))) (.cons (.cst .none) .nil)))) .nil)))))))))))))))) }
def F_weight_of : Fn := { name := "weight_of", params := ["weights", "coalition"], slots := ["weights", "coalition", "player"], body := (.cons (.ret (.bi .sum (.cons (.comp (.idx (.var 0) (.var 2)) (.one 2) (.seq (.var 1)) .none) .nil))) .nil) }
def F_separated (i_solve : Nat) : Fn := { name := "separated", params := ["players", "inside", "outside"], slots := ["players", "inside", "outside", "count", "equations", "index", "coalition", "row", "player", "other", "place", "solution", "multipliers"], body := (.cons (.asg 3 (.bin .add (.bi .len (.cons (.var 1) .nil)) (.bi .len (.cons (.var 2) .nil)))) (.cons (.asgOwn 4 (.lst .nil)) (.cons (.forS (.many [5, 6]) (.enum (.var 1)) (.cons (.asg 7 (.bin .add (.comp (.bi .int (.cons (.cmp .isin (.var 8) (.var 6)) .nil)) (.one 8) (.range1 (.var 0)) .none) (.lst (.cons (.neg (.cst (.int 1))) .nil)))) (.cons (.app 4 (.bin .add (.bin .add (.var 7) (.comp (.neg (.bi .int (.cons (.cmp .eq (.var 5) (.var 9)) .nil))) (.one 9) (.range1 (.var 3)) .none)) (.lst (.cons (.cst (.int 0)) .nil)))) .nil))) (.cons (.forS (.many [5, 6]) (.enum (.var 2)) (.cons (.asg 7 (.bin .add (.comp (.neg (.bi .int (.cons (.cmp .isin (.var 8) (.var 6)) .nil))) (.one 8) (.range1 (.var 0)) .none) (.lst (.cons (.cst (.int 1)) .nil)))) (.cons (.asg 10 (.bin .add (.bi .len (.cons (.var 1) .nil)) (.var 5))) (.cons (.app 4 (.bin .add (.bin .add (.var 7) (.comp (.neg (.bi .int (.cons (.cmp .eq (.var 10) (.var 9)) .nil))) (.one 9) (.range1 (.var 3)) .none)) (.lst (.cons (.cst (.int 1)) .nil)))) .nil)))) (.rel 4 (.cons (.asgT [11, 12] (.call i_solve (.cons (.var 4) (.cons (.bin .add (.bin .add (.var 0) (.cst (.int 1))) (.var 3)) .nil)))) (.cons (.ite (.isN false (.var 11)) (.cons (.ret (.tup (.cons (.cst .none) (.cons (.tup (.cons (.cut (.var 12) .none (.some (.bi .len (.cons (.var 1) .nil)))) (.cons (.cut (.var 12) (.some (.bi .len (.cons (.var 1) .nil))) .none) .nil))) .nil)))) .nil) .nil) (.cons (.ret (.tup (.cons (.tup (.cons (.idx (.idx (.var 11) (.cst (.int 0))) (.var 0)) (.cons (.bi .tuple (.cons (.cut (.idx (.var 11) (.cst (.int 0))) .none (.some (.var 0))) .nil)) .nil))) (.cons (.cst .none) .nil)))) .nil)))))))) }
def F_find_weights (i_check_game : Nat) (i_separated : Nat) (i_maximal_losing_of : Nat) : Fn := { name := "find_weights", params := ["game"], slots := ["game", "system", "multipliers"], body := (.cons (.expr (.call i_check_game (.cons (.var 0) .nil))) (.cons (.asgT [1, 2] (.call i_separated (.cons (.idx (.var 0) (.cst (.int 0))) (.cons (.bi .list (.cons (.idx (.var 0) (.cst (.int 1))) .nil)) (.cons (.call i_maximal_losing_of (.cons (.var 0) .nil)) .nil))))) (.cons (.ite (.isN false (.var 1)) (.cons (.raise "NotWeighted") .nil) .nil) (.cons (.ret (.var 1)) .nil)))) }
def F_expand : Fn := { name := "expand", params := ["coalitions", "multipliers"], slots := ["coalitions", "multipliers", "result", "coalition", "times"], body := (.cons (.asgOwn 2 (.lst .nil)) (.cons (.forS (.many [3, 4]) (.zip (.var 0) (.var 1)) (.cons (.ext 2 (.bin .mul (.lst (.cons (.var 3) .nil)) (.var 4))) .nil)) (.rel 2 (.cons (.ret (.var 2)) .nil)))) }
def F_gcd_of : Fn := { name := "gcd_of", params := ["numbers"], slots := ["numbers", "result", "number"], body := (.cons (.asg 1 (.cst (.int 0))) (.cons (.forS (.one 2) (.seq (.var 0)) (.cons (.whileS (.cmp .ne (.var 2) (.cst (.int 0))) (.cons (.par 1 2 (.var 2) (.bin .mod (.var 1) (.var 2))) .nil)) .nil)) (.cons (.ret (.var 1)) .nil))) }
def F_balanced (i_with_player : Nat) : Fn := { name := "balanced", params := ["players", "winners", "losers"], slots := ["players", "winners", "losers", "result", "player", "missing", "item", "extended", "coalition"], body := (.cons (.asg 3 (.bi .list (.cons (.var 1) .nil))) (.cons (.forS (.one 4) (.range1 (.var 0)) (.cons (.asg 5 (.bin .sub (.bi .len (.cons (.comp (.cst (.int 1)) (.one 6) (.seq (.var 2)) (.some (.cmp .isin (.var 4) (.var 6)))) .nil)) (.bi .len (.cons (.comp (.cst (.int 1)) (.one 6) (.seq (.var 3)) (.some (.cmp .isin (.var 4) (.var 6)))) .nil)))) (.cons (.asgOwn 7 (.lst .nil)) (.cons (.forS (.one 8) (.seq (.var 3)) (.cons (.ite (.and (.cmp .gt (.var 5) (.cst (.int 0))) (.cmp .notin (.var 4) (.var 8))) (.cons (.app 7 (.call i_with_player (.cons (.var 8) (.cons (.var 4) .nil)))) (.cons (.aug 5 .sub (.cst (.int 1))) .nil)) (.cons (.app 7 (.var 8)) .nil)) .nil)) (.rel 7 (.cons (.asg 3 (.var 7)) .nil)))))) (.cons (.ret (.var 3)) .nil))) }
def F_trade (i_check_game : Nat) (i_maximal_losing_of : Nat) (i_separated : Nat) (i_gcd_of : Nat) (i_expand : Nat) (i_balanced : Nat) : Fn := { name := "trade", params := ["game"], slots := ["game", "minimal", "losing", "system", "multipliers", "divisor", "losers", "times", "winners"], body := (.cons (.expr (.call i_check_game (.cons (.var 0) .nil))) (.cons (.par 1 2 (.bi .list (.cons (.idx (.var 0) (.cst (.int 1))) .nil)) (.call i_maximal_losing_of (.cons (.var 0) .nil))) (.cons (.asgT [3, 4] (.call i_separated (.cons (.idx (.var 0) (.cst (.int 0))) (.cons (.var 1) (.cons (.var 2) .nil))))) (.cons (.ite (.isN true (.var 3)) (.cons (.raise "IsWeighted") .nil) .nil) (.cons (.asg 5 (.call i_gcd_of (.cons (.bin .add (.idx (.var 4) (.cst (.int 0))) (.idx (.var 4) (.cst (.int 1)))) .nil))) (.cons (.asg 6 (.call i_expand (.cons (.var 2) (.cons (.comp (.bin .div (.var 7) (.var 5)) (.one 7) (.seq (.idx (.var 4) (.cst (.int 1)))) .none) .nil)))) (.cons (.asg 8 (.cut (.call i_expand (.cons (.var 1) (.cons (.comp (.bin .div (.var 7) (.var 5)) (.one 7) (.seq (.idx (.var 4) (.cst (.int 0)))) .none) .nil))) .none (.some (.bi .len (.cons (.var 6) .nil))))) (.cons (.ret (.tup (.cons (.bi .sorted (.cons (.call i_balanced (.cons (.idx (.var 0) (.cst (.int 0))) (.cons (.var 8) (.cons (.var 6) .nil)))) .nil)) (.cons (.bi .sorted (.cons (.var 6) .nil)) .nil)))) .nil)))))))) }
def F__law_cell : Fn := { name := "_law_cell", params := ["script", "k"], slots := ["script", "k"], body := (.cons (.ite (.cmp .lt (.var 1) (.bi .len (.cons (.var 0) .nil))) (.cons (.ret (.idx (.var 0) (.var 1))) .nil) .nil) (.cons (.ret (.cst (.int 0))) .nil)) }
def F__law_whole : Fn := { name := "_law_whole", params := ["found"], slots := ["found"], body := (.cons (.ret (.and (.bi (.isi .int) (.cons (.var 0) .nil)) (.not (.bi (.isi .bool) (.cons (.var 0) .nil))))) .nil) }
def F__law_row (i__law_cell : Nat) : Fn := { name := "_law_row", params := ["script", "at"], slots := ["script", "at", "cell", "found", "time"], body := (.cons (.asg 2 (.call i__law_cell (.cons (.var 0) (.cons (.var 1) .nil)))) (.cons (.asgOwn 3 (.lst .nil)) (.cons (.forS (.one 4) (.range1 (.cst (.int 60))) (.cons (.ite (.cmp .lt (.call i__law_cell (.cons (.var 0) (.cons (.var 1) .nil))) (.bin .pow (.cst (.int 10)) (.cst (.int 18)))) (.cons (.asg 2 (.bin .mod (.bin .add (.bin .add (.bin .add (.bin .mul (.var 2) (.cst (.int 48271))) (.bin .mul (.cst (.int 131)) (.var 4))) (.cst (.int 7))) (.call i__law_cell (.cons (.var 0) (.cons (.bin .mod (.bin .add (.bin .add (.var 1) (.cst (.int 1))) (.var 4)) (.cst (.int 20))) .nil)))) (.cst (.int 2147483647)))) (.cons (.app 3 (.bin .mod (.bin .div (.var 2) (.cst (.int 11))) (.cst (.int 1000)))) .nil)) (.cons (.app 3 (.bin .mod (.var 2) (.cst (.int 1000)))) (.cons (.asg 2 (.bin .div (.var 2) (.cst (.int 1000)))) .nil))) .nil)) (.rel 3 (.cons (.ret (.var 3)) .nil))))) }
def F__law_in (i__law_whole : Nat) : Fn := { name := "_law_in", params := ["thing", "low", "high"], slots := ["thing", "low", "high"], body := (.cons (.ret (.and (.call i__law_whole (.cons (.var 0) .nil)) (.chain (.var 1) (.var 0) (.var 2)))) .nil) }
def F__law_coalitions : Fn := { name := "_law_coalitions", params := ["players"], slots := ["players", "found", "player", "one"], body := (.cons (.asg 1 (.lst (.cons (.tup .nil) .nil))) (.cons (.forS (.one 2) (.range1 (.var 0)) (.cons (.asg 1 (.bin .add (.var 1) (.comp (.bin .add (.var 3) (.tup (.cons (.var 2) .nil))) (.one 3) (.seq (.var 1)) .none))) .nil)) (.cons (.ret (.bi .sorted (.cons (.var 1) .nil))) .nil))) }
def F__law_within : Fn := { name := "_law_within", params := ["one", "other"], slots := ["one", "other", "player"], body := (.cons (.ret (.cmp .eq (.comp (.var 2) (.one 2) (.seq (.var 0)) (.some (.cmp .notin (.var 2) (.var 1)))) (.lst .nil))) .nil) }
def F__law_wins (i__law_within : Nat) : Fn := { name := "_law_wins", params := ["game", "coalition"], slots := ["game", "coalition", "one"], body := (.cons (.ret (.cmp .ne (.comp (.var 2) (.one 2) (.seq (.idx (.var 0) (.cst (.int 1)))) (.some (.call i__law_within (.cons (.var 2) (.cons (.var 1) .nil))))) (.lst .nil))) .nil) }
def F__law_minimal (i__law_within : Nat) : Fn := { name := "_law_minimal", params := ["coalitions"], slots := ["coalitions", "found", "one", "other"], body := (.cons (.asgOwn 1 (.lst .nil)) (.cons (.forS (.one 2) (.seq (.bi .sortset (.cons (.var 0) .nil))) (.cons (.ite (.cmp .eq (.comp (.var 3) (.one 3) (.seq (.var 0)) (.some (.and (.cmp .ne (.var 3) (.var 2)) (.call i__law_within (.cons (.var 3) (.cons (.var 2) .nil)))))) (.lst .nil)) (.cons (.app 1 (.var 2)) .nil) .nil) .nil)) (.cons (.ret (.bi .tuple (.cons (.var 1) .nil))) .nil))) }
def F__law_game (i__law_row : Nat) (i__law_coalitions : Nat) (i__law_minimal : Nat) : Fn := { name := "_law_game", params := ["script", "at", "most_players"], slots := ["script", "at", "most_players", "draws", "players", "every", "weights", "player", "quota", "inside", "one", "chosen", "time"], body := (.cons (.asg 3 (.call i__law_row (.cons (.var 0) (.cons (.var 1) .nil)))) (.cons (.asg 4 (.bin .add (.cst (.int 1)) (.bin .mod (.idx (.var 3) (.cst (.int 0))) (.var 2)))) (.cons (.asg 5 (.call i__law_coalitions (.cons (.var 4) .nil))) (.cons (.ite (.cmp .eq (.bin .mod (.idx (.var 3) (.cst (.int 1))) (.cst (.int 3))) (.cst (.int 0))) (.cons (.asg 6 (.comp (.bin .mod (.idx (.var 3) (.bin .add (.cst (.int 2)) (.var 7))) (.idx (.lst (.cons (.cst (.int 3)) (.cons (.cst (.int 6)) (.cons (.cst (.int 10)) .nil)))) (.bin .mod (.idx (.var 3) (.cst (.int 9))) (.cst (.int 3))))) (.one 7) (.range1 (.var 4)) .none)) (.cons (.ite (.cmp .gt (.bi .sum (.cons (.var 6) .nil)) (.cst (.int 0))) (.cons (.asg 8 (.bin .add (.cst (.int 1)) (.bin .mod (.idx (.var 3) (.cst (.int 10))) (.bi .sum (.cons (.var 6) .nil))))) (.cons (.asg 9 (.comp (.var 10) (.one 10) (.seq (.var 5)) (.some (.cmp .ge (.bi .sum (.cons (.comp (.idx (.var 6) (.var 7)) (.one 7) (.seq (.var 10)) .none) .nil)) (.var 8))))) (.cons (.ret (.tup (.cons (.var 4) (.cons (.call i__law_minimal (.cons (.var 9) .nil)) .nil)))) .nil))) .nil) .nil)) .nil) (.cons (.asg 11 (.comp (.idx (.var 5) (.bin .add (.cst (.int 1)) (.bin .mod (.idx (.var 3) (.bin .add (.cst (.int 12)) (.var 12))) (.bin .sub (.bi .len (.cons (.var 5) .nil)) (.cst (.int 1)))))) (.one 12) (.range1 (.bin .add (.cst (.int 1)) (.bin .mod (.idx (.var 3) (.cst (.int 11))) (.cst (.int 6))))) .none)) (.cons (.ret (.tup (.cons (.var 4) (.cons (.call i__law_minimal (.cons (.var 11) .nil)) .nil)))) .nil)))))) }
def F__law_is_coalition (i__law_in : Nat) : Fn := { name := "_law_is_coalition", params := ["players", "value"], slots := ["players", "value", "one"], body := (.cons (.ite (.or (.not (.bi (.isi .tuple) (.cons (.var 1) .nil))) (.cmp .ne (.comp (.var 2) (.one 2) (.seq (.var 1)) (.some (.not (.call i__law_in (.cons (.var 2) (.cons (.cst (.int 0)) (.cons (.bin .sub (.var 0) (.cst (.int 1))) .nil))))))) (.lst .nil))) (.cons (.ret (.cst (.bool false))) .nil) .nil) (.cons (.ret (.cmp .eq (.bi .list (.cons (.var 1) .nil)) (.bi .sortset (.cons (.var 1) .nil)))) .nil)) }
def F_maximal_losing (i_check_game : Nat) (i_maximal_losing_of : Nat) : Fn := { name := "maximal_losing", params := ["game"], slots := ["game"], body := (.cons (.expr (.call i_check_game (.cons (.var 0) .nil))) (.cons (.ret (.call i_maximal_losing_of (.cons (.var 0) .nil))) .nil)) }
def F_minimal_members (i_is_subset : Nat) : Fn := { name := "minimal_members", params := ["coalitions"], slots := ["coalitions", "distinct", "larger", "item", "other"], body := (.cons (.asg 1 (.bi .sortset (.cons (.var 0) .nil))) (.cons (.asg 2 (.comp (.var 3) (.one 3) (.seq (.var 1)) (.some (.comp (.cst (.int 1)) (.one 4) (.seq (.var 1)) (.some (.and (.cmp .ne (.var 4) (.var 3)) (.call i_is_subset (.cons (.var 4) (.cons (.var 3) .nil))))))))) (.cons (.ret (.bi .tuple (.cons (.comp (.var 3) (.one 3) (.seq (.var 1)) (.some (.cmp .notin (.var 3) (.var 2)))) .nil))) .nil))) }
def F_from_coalitions (i_in_range : Nat) (i_is_coalition : Nat) (i_minimal_members : Nat) : Fn := { name := "from_coalitions", params := ["players", "coalitions"], slots := ["players", "coalitions", "item"], body := (.cons (.ite (.not (.call i_in_range (.cons (.var 0) (.cons (.cst (.int 1)) (.cons (.cst (.int 6)) .nil))))) (.cons (.raise "InvalidPlayer") .nil) .nil) (.cons (.ite (.or (.not (.bi (.isi .list) (.cons (.var 1) .nil))) (.not (.var 1))) (.cons (.raise "InvalidCoalition") .nil) .nil) (.cons (.ite (.or (.comp (.var 2) (.one 2) (.seq (.var 1)) (.some (.not (.call i_is_coalition (.cons (.var 0) (.cons (.var 2) .nil)))))) (.cmp .isin (.tup .nil) (.var 1))) (.cons (.raise "InvalidCoalition") .nil) .nil) (.cons (.ret (.tup (.cons (.var 0) (.cons (.call i_minimal_members (.cons (.var 1) .nil)) .nil)))) .nil)))) }
def F_dummies (i_check_game : Nat) : Fn := { name := "dummies", params := ["game"], slots := ["game", "player", "minimal"], body := (.cons (.expr (.call i_check_game (.cons (.var 0) .nil))) (.cons (.ret (.comp (.var 1) (.one 1) (.range1 (.idx (.var 0) (.cst (.int 0)))) (.some (.not (.comp (.cst (.int 1)) (.one 2) (.seq (.idx (.var 0) (.cst (.int 1)))) (.some (.cmp .isin (.var 1) (.var 2)))))))) .nil)) }
def F__law_stronger (i__law_coalitions : Nat) (i__law_wins : Nat) : Fn := { name := "_law_stronger", params := ["game", "left", "right"], slots := ["game", "left", "right", "one"], body := (.cons (.forS (.one 3) (.seq (.call i__law_coalitions (.cons (.idx (.var 0) (.cst (.int 0))) .nil))) (.cons (.ite (.and (.cmp .notin (.var 1) (.var 3)) (.and (.cmp .notin (.var 2) (.var 3)) (.call i__law_wins (.cons (.var 0) (.cons (.bin .add (.var 3) (.tup (.cons (.var 2) .nil))) .nil))))) (.cons (.ite (.not (.call i__law_wins (.cons (.var 0) (.cons (.bin .add (.var 3) (.tup (.cons (.var 1) .nil))) .nil)))) (.cons (.ret (.cst (.bool false))) .nil) .nil) .nil) .nil) .nil)) (.cons (.ret (.cst (.bool true))) .nil)) }
def F_without_player : Fn := { name := "without_player", params := ["coalition", "player"], slots := ["coalition", "player", "member"], body := (.cons (.ret (.bi .tuple (.cons (.comp (.var 2) (.one 2) (.seq (.var 0)) (.some (.cmp .ne (.var 2) (.var 1)))) .nil))) .nil) }
def F_is_complete_of (i_dominates : Nat) : Fn := { name := "is_complete_of", params := ["game"], slots := ["game", "pairs", "left", "right"], body := (.cons (.asg 1 (.comp2 (.tup (.cons (.var 2) (.cons (.var 3) .nil))) (.one 2) (.range1 (.idx (.var 0) (.cst (.int 0)))) .none (.one 3) (.range1 (.var 2)) .none)) (.cons (.ret (.not (.comp (.cst (.int 1)) (.many [2, 3]) (.seq (.var 1)) (.some (.and (.not (.call i_dominates (.cons (.var 0) (.cons (.var 2) (.cons (.var 3) .nil))))) (.not (.call i_dominates (.cons (.var 0) (.cons (.var 3) (.cons (.var 2) .nil)))))))))) .nil)) }
def F_exchanged (i_with_player : Nat) (i_without_player : Nat) : Fn := { name := "exchanged", params := ["coalition", "member", "other"], slots := ["coalition", "member", "other"], body := (.cons (.ret (.call i_with_player (.cons (.call i_without_player (.cons (.var 0) (.cons (.var 1) .nil))) (.cons (.var 2) .nil)))) .nil) }
def F_is_swap (i_check_game : Nat) (i_is_coalition : Nat) (i_in_range : Nat) (i_is_winning : Nat) (i_exchanged : Nat) : Fn := { name := "is_swap", params := ["game", "value"], slots := ["game", "value", "first", "second", "left", "right"], body := (.cons (.expr (.call i_check_game (.cons (.var 0) .nil))) (.cons (.ite (.or (.not (.bi (.isi .tuple) (.cons (.var 1) .nil))) (.or (.cmp .ne (.bi .len (.cons (.var 1) .nil)) (.cst (.int 4))) (.not (.call i_is_coalition (.cons (.idx (.var 0) (.cst (.int 0))) (.cons (.idx (.var 1) (.cst (.int 0))) .nil)))))) (.cons (.ret (.cst (.bool false))) .nil) .nil) (.cons (.ite (.or (.not (.call i_is_coalition (.cons (.idx (.var 0) (.cst (.int 0))) (.cons (.idx (.var 1) (.cst (.int 1))) .nil)))) (.not (.call i_in_range (.cons (.idx (.var 1) (.cst (.int 2))) (.cons (.cst (.int 0)) (.cons (.bin .sub (.idx (.var 0) (.cst (.int 0))) (.cst (.int 1))) .nil)))))) (.cons (.ret (.cst (.bool false))) .nil) .nil) (.cons (.ite (.not (.call i_in_range (.cons (.idx (.var 1) (.cst (.int 3))) (.cons (.cst (.int 0)) (.cons (.bin .sub (.idx (.var 0) (.cst (.int 0))) (.cst (.int 1))) .nil))))) (.cons (.ret (.cst (.bool false))) .nil) .nil) (.cons (.asgT [2, 3, 4, 5] (.var 1)) (.cons (.ite (.or (.cmp .notin (.var 4) (.var 2)) (.or (.cmp .isin (.var 5) (.var 2)) (.or (.cmp .notin (.var 5) (.var 3)) (.cmp .isin (.var 4) (.var 3))))) (.cons (.ret (.cst (.bool false))) .nil) .nil) (.cons (.ite (.or (.not (.call i_is_winning (.cons (.var 0) (.cons (.var 2) .nil)))) (.not (.call i_is_winning (.cons (.var 0) (.cons (.var 3) .nil))))) (.cons (.ret (.cst (.bool false))) .nil) .nil) (.cons (.ret (.and (.not (.call i_is_winning (.cons (.var 0) (.cons (.call i_exchanged (.cons (.var 2) (.cons (.var 4) (.cons (.var 5) .nil)))) .nil)))) (.not (.call i_is_winning (.cons (.var 0) (.cons (.call i_exchanged (.cons (.var 3) (.cons (.var 5) (.cons (.var 4) .nil)))) .nil)))))) .nil)))))))) }
def F__law_swap (xc : List Str) (i_swap : Nat) : Fn := { name := "_law_swap", params := ["game"], slots := ["game", "e"], body := (.cons (.tryS xc (.cons (.ret (.call i_swap (.cons (.var 0) .nil))) .nil) (.cons "IsComplete" 1 (.cons (.ret (.ifx (.and (.isE 1 "GameError") (.not (.isE 1 "InvalidGame"))) (.cst (.str "complete")) (.cst (.str "other")))) .nil) .nil)) .nil) }
def F__law_is_swap (i__law_is_coalition : Nat) (i__law_in : Nat) (i__law_wins : Nat) : Fn := { name := "_law_is_swap", params := ["game", "value"], slots := ["game", "value", "first", "second", "left", "right", "one", "player", "other"], body := (.cons (.ite (.or (.not (.bi (.isi .tuple) (.cons (.var 1) .nil))) (.cmp .ne (.bi .len (.cons (.var 1) .nil)) (.cst (.int 4)))) (.cons (.ret (.cst (.bool false))) .nil) .nil) (.cons (.asgT [2, 3, 4, 5] (.var 1)) (.cons (.ite (.or (.not (.call i__law_is_coalition (.cons (.idx (.var 0) (.cst (.int 0))) (.cons (.var 2) .nil)))) (.not (.call i__law_is_coalition (.cons (.idx (.var 0) (.cst (.int 0))) (.cons (.var 3) .nil))))) (.cons (.ret (.cst (.bool false))) .nil) .nil) (.cons (.ite (.or (.not (.call i__law_in (.cons (.var 4) (.cons (.cst (.int 0)) (.cons (.bin .sub (.idx (.var 0) (.cst (.int 0))) (.cst (.int 1))) .nil))))) (.not (.call i__law_in (.cons (.var 5) (.cons (.cst (.int 0)) (.cons (.bin .sub (.idx (.var 0) (.cst (.int 0))) (.cst (.int 1))) .nil)))))) (.cons (.ret (.cst (.bool false))) .nil) .nil) (.cons (.ite (.or (.cmp .notin (.var 4) (.var 2)) (.or (.cmp .isin (.var 5) (.var 2)) (.or (.cmp .notin (.var 5) (.var 3)) (.cmp .isin (.var 4) (.var 3))))) (.cons (.ret (.cst (.bool false))) .nil) .nil) (.cons (.asg 6 (.bin .add (.bi .tuple (.cons (.comp (.var 7) (.one 7) (.seq (.var 2)) (.some (.cmp .ne (.var 7) (.var 4)))) .nil)) (.tup (.cons (.var 5) .nil)))) (.cons (.asg 8 (.bin .add (.bi .tuple (.cons (.comp (.var 7) (.one 7) (.seq (.var 3)) (.some (.cmp .ne (.var 7) (.var 5)))) .nil)) (.tup (.cons (.var 4) .nil)))) (.cons (.ite (.or (.not (.call i__law_wins (.cons (.var 0) (.cons (.var 2) .nil)))) (.not (.call i__law_wins (.cons (.var 0) (.cons (.var 3) .nil))))) (.cons (.ret (.cst (.bool false))) .nil) .nil) (.cons (.ret (.and (.not (.call i__law_wins (.cons (.var 0) (.cons (.var 6) .nil)))) (.not (.call i__law_wins (.cons (.var 0) (.cons (.var 8) .nil)))))) .nil))))))))) }
def F_is_system (i_in_range : Nat) : Fn := { name := "is_system", params := ["players", "value"], slots := ["players", "value", "weight"], body := (.cons (.ite (.or (.not (.bi (.isi .tuple) (.cons (.var 1) .nil))) (.or (.cmp .ne (.bi .len (.cons (.var 1) .nil)) (.cst (.int 2))) (.or (.not (.bi (.isi .tuple) (.cons (.idx (.var 1) (.cst (.int 1))) .nil))) (.cmp .ne (.bi .len (.cons (.idx (.var 1) (.cst (.int 1))) .nil)) (.var 0))))) (.cons (.ret (.cst (.bool false))) .nil) .nil) (.cons (.ite (.comp (.var 2) (.one 2) (.seq (.idx (.var 1) (.cst (.int 1)))) (.some (.not (.call i_in_range (.cons (.var 2) (.cons (.cst (.int 0)) (.cons (.cst (.int 999)) .nil))))))) (.cons (.ret (.cst (.bool false))) .nil) .nil) (.cons (.ret (.call i_in_range (.cons (.idx (.var 1) (.cst (.int 0))) (.cons (.cst (.int 1)) (.cons (.bin .mul (.cst (.int 999)) (.cst (.int 6))) .nil))))) .nil))) }
def F_represents (i_check_game : Nat) (i_is_system : Nat) (i_all_coalitions : Nat) (i_weight_of : Nat) (i_is_winning : Nat) : Fn := { name := "represents", params := ["game", "value"], slots := ["game", "value", "quota", "weights", "coalition"], body := (.cons (.expr (.call i_check_game (.cons (.var 0) .nil))) (.cons (.ite (.not (.call i_is_system (.cons (.idx (.var 0) (.cst (.int 0))) (.cons (.var 1) .nil)))) (.cons (.ret (.cst (.bool false))) .nil) .nil) (.cons (.asgT [2, 3] (.var 1)) (.cons (.forS (.one 4) (.seq (.call i_all_coalitions (.cons (.idx (.var 0) (.cst (.int 0))) .nil))) (.cons (.ite (.cmp .ne (.cmp .ge (.call i_weight_of (.cons (.var 3) (.cons (.var 4) .nil))) (.var 2)) (.call i_is_winning (.cons (.var 0) (.cons (.var 4) .nil)))) (.cons (.ret (.cst (.bool false))) .nil) .nil) .nil)) (.cons (.ret (.cst (.bool true))) .nil))))) }
def F_is_weighted (i_check_game : Nat) (i_separated : Nat) (i_maximal_losing_of : Nat) : Fn := { name := "is_weighted", params := ["game"], slots := ["game"], body := (.cons (.expr (.call i_check_game (.cons (.var 0) .nil))) (.cons (.ret (.isN true (.idx (.call i_separated (.cons (.idx (.var 0) (.cst (.int 0))) (.cons (.bi .list (.cons (.idx (.var 0) (.cst (.int 1))) .nil)) (.cons (.call i_maximal_losing_of (.cons (.var 0) .nil)) .nil)))) (.cst (.int 0))))) .nil)) }
def F_is_trade (i_check_game : Nat) (i_is_coalition : Nat) (i_is_winning : Nat) : Fn := { name := "is_trade", params := ["game", "value"], slots := ["game", "value", "side", "item", "counts", "player"], body := (.cons (.expr (.call i_check_game (.cons (.var 0) .nil))) (.cons (.ite (.or (.not (.bi (.isi .tuple) (.cons (.var 1) .nil))) (.cmp .ne (.bi .len (.cons (.var 1) .nil)) (.cst (.int 2)))) (.cons (.ret (.cst (.bool false))) .nil) .nil) (.cons (.forS (.one 2) (.seq (.var 1)) (.cons (.ite (.or (.not (.bi (.isi .list) (.cons (.var 2) .nil))) (.not (.chain (.cst (.int 1)) (.bi .len (.cons (.var 2) .nil)) (.cst (.int 999))))) (.cons (.ret (.cst (.bool false))) .nil) .nil) (.cons (.ite (.comp (.var 3) (.one 3) (.seq (.var 2)) (.some (.not (.call i_is_coalition (.cons (.idx (.var 0) (.cst (.int 0))) (.cons (.var 3) .nil)))))) (.cons (.ret (.cst (.bool false))) .nil) .nil) .nil))) (.cons (.ite (.or (.cmp .ne (.bi .len (.cons (.idx (.var 1) (.cst (.int 0))) .nil)) (.bi .len (.cons (.idx (.var 1) (.cst (.int 1))) .nil))) (.comp (.var 3) (.one 3) (.seq (.idx (.var 1) (.cst (.int 0)))) (.some (.not (.call i_is_winning (.cons (.var 0) (.cons (.var 3) .nil))))))) (.cons (.ret (.cst (.bool false))) .nil) .nil) (.cons (.ite (.comp (.var 3) (.one 3) (.seq (.idx (.var 1) (.cst (.int 1)))) (.some (.call i_is_winning (.cons (.var 0) (.cons (.var 3) .nil))))) (.cons (.ret (.cst (.bool false))) .nil) .nil) (.cons (.asg 4 (.comp (.comp (.bi .len (.cons (.comp (.cst (.int 1)) (.one 3) (.seq (.var 2)) (.some (.cmp .isin (.var 5) (.var 3)))) .nil)) (.one 5) (.range1 (.idx (.var 0) (.cst (.int 0)))) .none) (.one 2) (.seq (.var 1)) .none)) (.cons (.ret (.cmp .eq (.idx (.var 4) (.cst (.int 0))) (.idx (.var 4) (.cst (.int 1))))) .nil))))))) }
def F__law_reaches : Fn := { name := "_law_reaches", params := ["system", "coalition"], slots := ["system", "coalition", "player"], body := (.cons (.ret (.cmp .ge (.bi .sum (.cons (.comp (.idx (.idx (.var 0) (.cst (.int 1))) (.var 2)) (.one 2) (.seq (.var 1)) .none) .nil)) (.idx (.var 0) (.cst (.int 0))))) .nil) }
def F__law_is_system (i__law_in : Nat) : Fn := { name := "_law_is_system", params := ["players", "value"], slots := ["players", "value", "one"], body := (.cons (.ite (.or (.not (.bi (.isi .tuple) (.cons (.var 1) .nil))) (.or (.cmp .ne (.bi .len (.cons (.var 1) .nil)) (.cst (.int 2))) (.or (.not (.bi (.isi .tuple) (.cons (.idx (.var 1) (.cst (.int 1))) .nil))) (.cmp .ne (.bi .len (.cons (.idx (.var 1) (.cst (.int 1))) .nil)) (.var 0))))) (.cons (.ret (.cst (.bool false))) .nil) .nil) (.cons (.ret (.and (.cmp .eq (.comp (.var 2) (.one 2) (.seq (.idx (.var 1) (.cst (.int 1)))) (.some (.not (.call i__law_in (.cons (.var 2) (.cons (.cst (.int 0)) (.cons (.cst (.int 999)) .nil))))))) (.lst .nil)) (.call i__law_in (.cons (.idx (.var 1) (.cst (.int 0))) (.cons (.cst (.int 1)) (.cons (.cst (.int 5994)) .nil)))))) .nil)) }
def F__law_represents (i__law_is_system : Nat) (i__law_coalitions : Nat) (i__law_reaches : Nat) (i__law_wins : Nat) : Fn := { name := "_law_represents", params := ["game", "value"], slots := ["game", "value", "every", "one"], body := (.cons (.ite (.not (.call i__law_is_system (.cons (.idx (.var 0) (.cst (.int 0))) (.cons (.var 1) .nil)))) (.cons (.ret (.cst (.bool false))) .nil) .nil) (.cons (.asg 2 (.call i__law_coalitions (.cons (.idx (.var 0) (.cst (.int 0))) .nil))) (.cons (.ret (.cmp .eq (.comp (.var 3) (.one 3) (.seq (.var 2)) (.some (.cmp .ne (.call i__law_reaches (.cons (.var 1) (.cons (.var 3) .nil))) (.call i__law_wins (.cons (.var 0) (.cons (.var 3) .nil)))))) (.lst .nil))) .nil))) }
def F__law_weights (xc : List Str) (i_find_weights : Nat) : Fn := { name := "_law_weights", params := ["game"], slots := ["game", "e"], body := (.cons (.tryS xc (.cons (.ret (.call i_find_weights (.cons (.var 0) .nil))) .nil) (.cons "NotWeighted" 1 (.cons (.ret (.ifx (.and (.isE 1 "GameError") (.not (.isE 1 "InvalidGame"))) (.cst (.str "none")) (.cst (.str "other")))) .nil) .nil)) .nil) }
def F__law_trade (xc : List Str) (i_trade : Nat) : Fn := { name := "_law_trade", params := ["game"], slots := ["game", "e"], body := (.cons (.tryS xc (.cons (.ret (.call i_trade (.cons (.var 0) .nil))) .nil) (.cons "IsWeighted" 1 (.cons (.ret (.ifx (.and (.isE 1 "GameError") (.not (.isE 1 "InvalidGame"))) (.cst (.str "none")) (.cst (.str "other")))) .nil) .nil)) .nil) }
def F__law_is_trade (i__law_is_coalition : Nat) (i__law_wins : Nat) : Fn := { name := "_law_is_trade", params := ["game", "value"], slots := ["game", "value", "side", "one", "player"], body := (.cons (.ite (.or (.not (.bi (.isi .tuple) (.cons (.var 1) .nil))) (.cmp .ne (.bi .len (.cons (.var 1) .nil)) (.cst (.int 2)))) (.cons (.ret (.cst (.bool false))) .nil) .nil) (.cons (.forS (.one 2) (.seq (.var 1)) (.cons (.ite (.or (.not (.bi (.isi .list) (.cons (.var 2) .nil))) (.not (.chain (.cst (.int 1)) (.bi .len (.cons (.var 2) .nil)) (.cst (.int 999))))) (.cons (.ret (.cst (.bool false))) .nil) .nil) (.cons (.ite (.cmp .ne (.comp (.var 3) (.one 3) (.seq (.var 2)) (.some (.not (.call i__law_is_coalition (.cons (.idx (.var 0) (.cst (.int 0))) (.cons (.var 3) .nil)))))) (.lst .nil)) (.cons (.ret (.cst (.bool false))) .nil) .nil) .nil))) (.cons (.ite (.cmp .ne (.bi .len (.cons (.idx (.var 1) (.cst (.int 0))) .nil)) (.bi .len (.cons (.idx (.var 1) (.cst (.int 1))) .nil))) (.cons (.ret (.cst (.bool false))) .nil) .nil) (.cons (.ite (.cmp .ne (.comp (.var 3) (.one 3) (.seq (.idx (.var 1) (.cst (.int 0)))) (.some (.not (.call i__law_wins (.cons (.var 0) (.cons (.var 3) .nil)))))) (.lst .nil)) (.cons (.ret (.cst (.bool false))) .nil) .nil) (.cons (.ite (.cmp .ne (.comp (.var 3) (.one 3) (.seq (.idx (.var 1) (.cst (.int 1)))) (.some (.call i__law_wins (.cons (.var 0) (.cons (.var 3) .nil))))) (.lst .nil)) (.cons (.ret (.cst (.bool false))) .nil) .nil) (.cons (.forS (.one 4) (.range1 (.idx (.var 0) (.cst (.int 0)))) (.cons (.ite (.cmp .ne (.bi .len (.cons (.comp (.cst (.int 1)) (.one 3) (.seq (.idx (.var 1) (.cst (.int 0)))) (.some (.cmp .isin (.var 4) (.var 3)))) .nil)) (.bi .len (.cons (.comp (.cst (.int 1)) (.one 3) (.seq (.idx (.var 1) (.cst (.int 1)))) (.some (.cmp .isin (.var 4) (.var 3)))) .nil))) (.cons (.ret (.cst (.bool false))) .nil) .nil) .nil)) (.cons (.ret (.cst (.bool true))) .nil))))))) }
def F_law_k06 (i__law_game : Nat) (i__law_weights : Nat) (i__law_trade : Nat) (i_is_weighted : Nat) (i_represents : Nat) (i__law_represents : Nat) (i_is_trade : Nat) (i__law_is_trade : Nat) : Fn := { name := "law", params := ["script"], slots := ["script", "game", "system", "found"], body := (.cons (.asg 1 (.call i__law_game (.cons (.var 0) (.cons (.cst (.int 2)) (.cons (.cst (.int 6)) .nil))))) (.cons (.asg 2 (.call i__law_weights (.cons (.var 1) .nil))) (.cons (.asg 3 (.call i__law_trade (.cons (.var 1) .nil))) (.cons (.ite (.or (.cmp .eq (.cmp .eq (.var 2) (.cst (.str "none"))) (.cmp .eq (.var 3) (.cst (.str "none")))) (.cmp .ne (.call i_is_weighted (.cons (.var 1) .nil)) (.cmp .eq (.var 3) (.cst (.str "none"))))) (.cons (.ret (.cst (.bool false))) .nil) .nil) (.cons (.ite (.cmp .ne (.var 2) (.cst (.str "none"))) (.cons (.ret (.and (.call i__law_represents (.cons (.var 1) (.cons (.var 2) .nil))) (.call i_represents (.cons (.var 1) (.cons (.var 2) .nil))))) .nil) .nil) (.cons (.ret (.and (.call i__law_is_trade (.cons (.var 1) (.cons (.var 3) .nil))) (.call i_is_trade (.cons (.var 1) (.cons (.var 3) .nil))))) .nil)))))) }
def F_game_of (i_is_system : Nat) (i_all_coalitions : Nat) (i_weight_of : Nat) (i_minimal_members : Nat) : Fn := { name := "game_of", params := ["value"], slots := ["value", "players", "found", "item"], body := (.cons (.ite (.or (.not (.bi (.isi .tuple) (.cons (.var 0) .nil))) (.or (.cmp .ne (.bi .len (.cons (.var 0) .nil)) (.cst (.int 2))) (.not (.bi (.isi .tuple) (.cons (.idx (.var 0) (.cst (.int 1))) .nil))))) (.cons (.raise "InvalidWeights") .nil) .nil) (.cons (.asg 1 (.bi .len (.cons (.idx (.var 0) (.cst (.int 1))) .nil))) (.cons (.ite (.or (.not (.chain (.cst (.int 1)) (.var 1) (.cst (.int 6)))) (.or (.not (.call i_is_system (.cons (.var 1) (.cons (.var 0) .nil)))) (.cmp .lt (.bi .sum (.cons (.idx (.var 0) (.cst (.int 1))) .nil)) (.idx (.var 0) (.cst (.int 0)))))) (.cons (.raise "InvalidWeights") .nil) .nil) (.cons (.asg 2 (.comp (.var 3) (.one 3) (.seq (.call i_all_coalitions (.cons (.var 1) .nil))) (.some (.cmp .ge (.call i_weight_of (.cons (.idx (.var 0) (.cst (.int 1))) (.cons (.var 3) .nil))) (.idx (.var 0) (.cst (.int 0))))))) (.cons (.ret (.tup (.cons (.var 1) (.cons (.call i_minimal_members (.cons (.var 2) .nil)) .nil)))) .nil))))) }
def F__law_game_of (xc : List Str) (i_game_of : Nat) : Fn := { name := "_law_game_of", params := ["value"], slots := ["value", "e"], body := (.cons (.tryS xc (.cons (.ret (.call i_game_of (.cons (.var 0) .nil))) .nil) (.cons "InvalidWeights" 1 (.cons (.ret (.ifx (.and (.isE 1 "GameError") (.not (.isE 1 "InvalidGame"))) (.cst (.str "weights")) (.cst (.str "other")))) .nil) .nil)) .nil) }
def F_dual_of (i_outsiders : Nat) (i_maximal_losing_of : Nat) : Fn := { name := "dual_of", params := ["game"], slots := ["game", "coalition"], body := (.cons (.ret (.tup (.cons (.idx (.var 0) (.cst (.int 0))) (.cons (.bi .tuple (.cons (.bi .sorted (.cons (.comp (.call i_outsiders (.cons (.var 0) (.cons (.var 1) .nil))) (.one 1) (.seq (.call i_maximal_losing_of (.cons (.var 0) .nil))) .none) .nil)) .nil)) .nil)))) .nil) }
def F_dual (i_check_game : Nat) (i_dual_of : Nat) : Fn := { name := "dual", params := ["game"], slots := ["game"], body := (.cons (.expr (.call i_check_game (.cons (.var 0) .nil))) (.cons (.ret (.call i_dual_of (.cons (.var 0) .nil))) .nil)) }
def F_factorial : Fn := { name := "factorial", params := ["number"], slots := ["number", "result", "factor"], body := (.cons (.asg 1 (.cst (.int 1))) (.cons (.forS (.one 2) (.range2 (.cst (.int 2)) (.bin .add (.var 0) (.cst (.int 1)))) (.cons (.asg 1 (.bin .mul (.var 1) (.var 2))) .nil)) (.cons (.ret (.var 1)) .nil))) }
def F_swing_sizes (i_all_coalitions : Nat) (i_is_winning : Nat) (i_with_player : Nat) : Fn := { name := "swing_sizes", params := ["game", "player"], slots := ["game", "player", "result", "coalition"], body := (.cons (.asgOwn 2 (.lst .nil)) (.cons (.forS (.one 3) (.seq (.call i_all_coalitions (.cons (.idx (.var 0) (.cst (.int 0))) .nil))) (.cons (.ite (.and (.cmp .notin (.var 1) (.var 3)) (.not (.call i_is_winning (.cons (.var 0) (.cons (.var 3) .nil))))) (.cons (.ite (.call i_is_winning (.cons (.var 0) (.cons (.call i_with_player (.cons (.var 3) (.cons (.var 1) .nil))) .nil))) (.cons (.app 2 (.bi .len (.cons (.var 3) .nil))) .nil) .nil) .nil) .nil) .nil)) (.rel 2 (.cons (.ret (.var 2)) .nil)))) }
def F_swings (i_check_game : Nat) (i_swing_sizes : Nat) : Fn := { name := "swings", params := ["game"], slots := ["game", "player"], body := (.cons (.expr (.call i_check_game (.cons (.var 0) .nil))) (.cons (.ret (.bi .tuple (.cons (.comp (.bi .len (.cons (.call i_swing_sizes (.cons (.var 0) (.cons (.var 1) .nil))) .nil)) (.one 1) (.range1 (.idx (.var 0) (.cst (.int 0)))) .none) .nil))) .nil)) }
def F_pivots (i_check_game : Nat) (i_swing_sizes : Nat) (i_factorial : Nat) : Fn := { name := "pivots", params := ["game"], slots := ["game", "result", "player", "sizes", "size"], body := (.cons (.expr (.call i_check_game (.cons (.var 0) .nil))) (.cons (.asgOwn 1 (.lst .nil)) (.cons (.forS (.one 2) (.range1 (.idx (.var 0) (.cst (.int 0)))) (.cons (.asg 3 (.call i_swing_sizes (.cons (.var 0) (.cons (.var 2) .nil)))) (.cons (.app 1 (.bi .sum (.cons (.comp (.bin .mul (.call i_factorial (.cons (.var 4) .nil)) (.call i_factorial (.cons (.bin .sub (.bin .sub (.idx (.var 0) (.cst (.int 0))) (.cst (.int 1))) (.var 4)) .nil))) (.one 4) (.seq (.var 3)) .none) .nil))) .nil))) (.cons (.ret (.bi .tuple (.cons (.var 1) .nil))) .nil)))) }
def F__law_orders (i__law_orders : Nat) : Fn := { name := "_law_orders", params := ["items"], slots := ["items", "found", "index", "rest"], body := (.cons (.ite (.cmp .eq (.var 0) (.lst .nil)) (.cons (.ret (.lst (.cons (.tup .nil) .nil))) .nil) .nil) (.cons (.asg 1 (.lst .nil)) (.cons (.forS (.one 2) (.range1 (.bi .len (.cons (.var 0) .nil))) (.cons (.asg 1 (.bin .add (.var 1) (.comp (.bin .add (.tup (.cons (.idx (.var 0) (.var 2)) .nil)) (.var 3)) (.one 3) (.seq (.call i__law_orders (.cons (.bin .add (.cut (.var 0) .none (.some (.var 2))) (.cut (.var 0) (.some (.bin .add (.var 2) (.cst (.int 1)))) .none)) .nil))) .none))) .nil)) (.cons (.ret (.var 1)) .nil)))) }
def F_law_k16 (i__law_game : Nat) (i__law_coalitions : Nat) (i__law_wins : Nat) (i_swings : Nat) (i__law_orders : Nat) (i_pivots : Nat) (i_dual : Nat) (i_is_at_least : Nat) (i_dummies : Nat) : Fn := { name := "law", params := ["script"], slots := ["script", "game", "players", "every", "counts", "player", "outside", "one", "arrived", "order", "many", "found", "left", "right", "fewer"], body := (.cons (.asg 1 (.call i__law_game (.cons (.var 0) (.cons (.cst (.int 2)) (.cons (.cst (.int 5)) .nil))))) (.cons (.asg 2 (.idx (.var 1) (.cst (.int 0)))) (.cons (.asg 3 (.call i__law_coalitions (.cons (.var 2) .nil))) (.cons (.asgOwn 4 (.lst .nil)) (.cons (.forS (.one 5) (.range1 (.var 2)) (.cons (.asg 6 (.comp (.var 7) (.one 7) (.seq (.var 3)) (.some (.and (.cmp .notin (.var 5) (.var 7)) (.not (.call i__law_wins (.cons (.var 1) (.cons (.var 7) .nil)))))))) (.cons (.app 4 (.bi .len (.cons (.comp (.var 7) (.one 7) (.seq (.var 6)) (.some (.call i__law_wins (.cons (.var 1) (.cons (.bin .add (.var 7) (.tup (.cons (.var 5) .nil))) .nil))))) .nil))) .nil))) (.cons (.ite (.cmp .ne (.call i_swings (.cons (.var 1) .nil)) (.bi .tuple (.cons (.var 4) .nil))) (.cons (.ret (.cst (.bool false))) .nil) .nil) (.cons (.asgOwn 8 (.bin .mul (.lst (.cons (.cst (.int 0)) .nil)) (.var 2))) (.cons (.forS (.one 9) (.seq (.call i__law_orders (.cons (.bi .listrange (.cons (.var 2) .nil)) .nil))) (.cons (.asg 10 (.cst (.int 1))) (.cons (.whileS (.not (.call i__law_wins (.cons (.var 1) (.cons (.cut (.var 9) .none (.some (.var 10))) .nil)))) (.cons (.asg 10 (.bin .add (.var 10) (.cst (.int 1)))) .nil)) (.cons (.setIx 8 (.idx (.var 9) (.bin .sub (.var 10) (.cst (.int 1)))) (.bin .add (.idx (.var 8) (.idx (.var 9) (.bin .sub (.var 10) (.cst (.int 1))))) (.cst (.int 1)))) .nil)))) (.cons (.asg 11 (.call i_pivots (.cons (.var 1) .nil))) (.cons (.ite (.or (.cmp .ne (.var 11) (.bi .tuple (.cons (.var 8) .nil))) (.or (.cmp .ne (.call i_swings (.cons (.call i_dual (.cons (.var 1) .nil)) .nil)) (.call i_swings (.cons (.var 1) .nil))) (.cmp .ne (.call i_pivots (.cons (.call i_dual (.cons (.var 1) .nil)) .nil)) (.var 11)))) (.cons (.ret (.cst (.bool false))) .nil) .nil) (.cons (.forS (.one 12) (.range1 (.var 2)) (.cons (.forS (.one 13) (.range1 (.var 2)) (.cons (.asg 14 (.or (.cmp .lt (.idx (.var 11) (.var 12)) (.idx (.var 11) (.var 13))) (.cmp .lt (.idx (.var 4) (.var 12)) (.idx (.var 4) (.var 13))))) (.cons (.ite (.and (.call i_is_at_least (.cons (.var 1) (.cons (.var 12) (.cons (.var 13) .nil)))) (.var 14)) (.cons (.ret (.cst (.bool false))) .nil) .nil) .nil))) .nil)) (.cons (.ret (.cmp .eq (.comp (.var 5) (.one 5) (.range1 (.var 2)) (.some (.cmp .eq (.idx (.var 11) (.var 5)) (.cst (.int 0))))) (.call i_dummies (.cons (.var 1) .nil)))) .nil)))))))))))) }
end Qw

set_option Elab.async false
set_option linter.all false
set_option maxRecDepth 100000
set_option maxHeartbeats 1000000
/-! Reading the evaluator. By an AI agent. -/
namespace Qw
open PySem
/-- a def's answer -/
def fin' : Res → R D
  | .next _ => .ok .none
  | .ret d => .ok d
  | .err x _ => .err x
  | .bad => .bad
theorem evFn_at {fns : List Fn} {i k : Nat} {F : Fn} {ds : List D} (h : fns[i]? = some F) (hl : ds.length = F.params.length) :
    evFn fns (k + 1) i ds = fin' (evSs (evFn fns k) (ds.map Cell.val ++ List.replicate (F.slots.length - F.params.length) Cell.un) F.body) := by
  conv => lhs; unfold evFn
  rw [h]
  dsimp only
  rw [if_pos hl]
  rfl
/-- from the level k on the def answers so -/
def At (fns : List Fn) (k i : Nat) (ds : List D) (r : R D) : Prop := ∀ m, k ≤ m → evFn fns m i ds = r
theorem At.mk {fns : List Fn} {k i : Nat} {F : Fn} {ds : List D} {r : R D} (h : fns[i]? = some F) (hl : ds.length = F.params.length)
    (hb : ∀ m, k ≤ m → fin' (evSs (evFn fns m) (ds.map Cell.val ++ List.replicate (F.slots.length - F.params.length) Cell.un) F.body) = r) : At fns (k + 1) i ds r := fun m hm => by
  obtain ⟨j, rfl⟩ : ∃ j, m = j + 1 := ⟨m - 1, by omega⟩
  rw [evFn_at h hl]
  exact hb j (by omega)
theorem At.mono {fns : List Fn} {k j i : Nat} {ds : List D} {r : R D} (h : At fns k i ds r) (hj : k ≤ j) : At fns j i ds r := fun m hm => h m (Nat.le_trans hj hm)
@[simp] theorem bind_ok {α β : Type} (a : α) (f : α → R β) : (R.ok a).bind f = f a := rfl
@[simp] theorem bind_err {α β : Type} (x : Exc) (f : α → R β) : (R.err x : R α).bind f = .err x := rfl
@[simp] theorem rThen_ok {α : Type} (ρ : Env) (a : α) (f : α → Res) : rThen ρ (.ok a) f = f a := rfl
@[simp] theorem rThen_err {α : Type} (ρ : Env) (x : Exc) (f : α → Res) : rThen ρ (.err x : R α) f = .err x ρ := rfl
@[simp] theorem seqR_next (ρ : Env) (f : Env → Res) : seqR (.next ρ) f = f ρ := rfl
@[simp] theorem seqR_ret (d : D) (f : Env → Res) : seqR (.ret d) f = .ret d := rfl
@[simp] theorem seqR_err (x : Exc) (ρ : Env) (f : Env → Res) : seqR (.err x ρ) f = .err x ρ := rfl
@[simp] theorem fin_ret (d : D) : fin' (.ret d) = .ok d := rfl
@[simp] theorem fin_next (ρ : Env) : fin' (.next ρ) = .ok .none := rfl
@[simp] theorem fin_err (x : Exc) (ρ : Env) : fin' (.err x ρ) = .err x := rfl
@[simp] theorem tru_bool (b : Bool) : tru (.bool b) = .ok b := rfl
@[simp] theorem tru_list (l : List D) : tru (.list l) = .ok (!l.isEmpty) := rfl
@[simp] theorem tru_tuple (l : List D) : tru (.tuple l) = .ok (!l.isEmpty) := rfl
@[simp] theorem tru_int (i : Int) : tru (.int i) = .ok (i != 0) := rfl
@[simp] theorem ite_ok {α : Type} (c : Prop) [Decidable c] (a b : α) : (if c then R.ok a else R.ok b) = R.ok (if c then a else b) := by by_cases h : c <;> simp [h]
theorem filter_none {α : Type} (p : α → Bool) (l : List α) : (l.filter fun x => !p x).isEmpty = l.all p := by
  rw [Bool.eq_iff_iff, List.isEmpty_iff, List.filter_eq_nil_iff, List.all_eq_true]
  simp
theorem comp_ok {f : D → R (List D)} {g : D → List D} : ∀ {ds : List D}, (∀ d ∈ ds, f d = .ok (g d)) → compLoop f ds = .ok (ds.flatMap g)
  | [], _ => rfl
  | d :: ds, h => by
    unfold compLoop
    rw [h d List.mem_cons_self, comp_ok fun e he => h e (List.mem_cons_of_mem _ he)]
    rfl
/-- a comprehension over encoded items, filtered and mapped -/
theorem comp_filter {α : Type} {enc : α → D} {f : D → R (List D)} (p : α → Bool) (g : α → D) {l : List α} (h : ∀ a ∈ l, f (enc a) = .ok (if p a = true then [g a] else [])) : compLoop f (l.map enc) = .ok ((l.filter p).map g) := by
  induction l with
  | nil => rfl
  | cons a l ih =>
    rw [List.map_cons]
    unfold compLoop
    rw [h a List.mem_cons_self, ih fun b hb => h b (List.mem_cons_of_mem _ hb)]
    cases hp : p a with
    | true => rw [List.filter_cons_of_pos hp]; rfl
    | false => rw [List.filter_cons_of_neg (by rw [hp]; exact Bool.false_ne_true)]; rfl
theorem comp_map {α : Type} {enc : α → D} {f : D → R (List D)} (g : α → D) {l : List α} (h : ∀ a ∈ l, f (enc a) = .ok [g a]) : compLoop f (l.map enc) = .ok (l.map g) := by
  have := comp_filter (enc := enc) (f := f) (fun _ => true) g (l := l) fun a ha => by rw [h a ha]; rfl
  rw [this, List.filter_eq_self.mpr fun _ _ => rfl]
/-- a loop that keeps a shape of the environment -/
theorem for_ok {α σ : Type} {enc : α → D} {tg : Tg} {body : Env → Res} (sh : σ → Env → Prop) (step : σ → α → σ) {l : List α} : ∀ {s : σ} {ρ : Env}, sh s ρ →
    (∀ a ∈ l, ∀ s ρ, sh s ρ → ∃ ρ1 ρ2, bindTg tg (enc a) ρ = some ρ1 ∧ body ρ1 = .next ρ2 ∧ sh (step s a) ρ2) → ∃ ρ', forLoop tg body (l.map enc) ρ = .next ρ' ∧ sh (l.foldl step s) ρ' := by
  induction l with
  | nil => exact fun h _ => ⟨_, rfl, h⟩
  | cons a l ih =>
    intro s ρ h hs
    obtain ⟨ρ1, ρ2, h1, h2, h3⟩ := hs a List.mem_cons_self s ρ h
    obtain ⟨ρ', h4, h5⟩ := ih h3 fun b hb => hs b (List.mem_cons_of_mem _ hb)
    refine ⟨ρ', ?_, h5⟩
    rw [List.map_cons]
    unfold forLoop
    rw [h1]
    dsimp only
    rw [h2, seqR_next]
    exact h4
/-! ### ints in sequences -/
theorem plain_ints (l : List Int) : PyData.plainAll (l.map PyData.int) = true := by
  induction l with
  | nil => rfl
  | cons a l ih => rw [List.map_cons]; simp only [PyData.plainAll, PyData.plain, ih, Bool.and_self]
theorem depth_ints (l : List Int) : PyData.depthAll (l.map PyData.int) = 0 := PySem.W.depth_ints l
@[simp] theorem eqv_int (a b : Int) : PyData.eqv (.int a) (.int b) = decide (a = b) := by
  simp only [PyData.eqv]
  by_cases h : a = b <;> simp [h]
theorem eqv_ints : ∀ a b : List Int, PyData.eqvAll (a.map PyData.int) (b.map PyData.int) = decide (a = b)
  | [], [] => rfl
  | [], _ :: _ => by simp [PyData.eqvAll]
  | _ :: _, [] => by simp [PyData.eqvAll]
  | x :: a, y :: b => by
    rw [List.map_cons, List.map_cons]
    simp only [PyData.eqvAll, eqv_int, eqv_ints a b]
    by_cases h : x = y <;> by_cases h2 : a = b <;> simp [h, h2]
@[simp] theorem eqv_K (a b : List Int) : PyData.eqv (encK a) (encK b) = decide (a = b) := by
  unfold encK
  simp only [PyData.eqv]
  exact eqv_ints a b
theorem plain_K (a : List Int) : (encK a).plain = true := by
  unfold encK
  simp only [PyData.plain]
  exact plain_ints a
theorem depth_K' (a : List Int) : (encK a).depth = 1 := by
  unfold encK
  simp only [PyData.depth, depth_ints]
theorem plain_Ks (l : List (List Int)) : PyData.plainAll (l.map encK) = true := by
  induction l with
  | nil => rfl
  | cons a l ih => rw [List.map_cons]; simp only [PyData.plainAll, plain_K, ih, Bool.and_self]
theorem depth_Ks (l : List (List Int)) : PyData.depthAll (l.map encK) ≤ 1 := by
  induction l with
  | nil => simp [PyData.depthAll]
  | cons a l ih =>
    rw [List.map_cons]
    simp only [PyData.depthAll, depth_K']
    omega
theorem in_ints (x : Int) (l : List Int) : dIn (.int x) (encK l) = .ok (decide (x ∈ l)) := by
  have h : okIn (.int x) (l.map PyData.int) = true := by
    unfold okIn
    rw [plain_ints, depth_ints]
    rfl
  show (if okIn (.int x) (l.map PyData.int) = true then R.ok ((l.map PyData.int).any fun z => PyData.eqv z (.int x)) else .bad) = _
  rw [if_pos h, List.any_map]
  congr 1
  rw [Bool.eq_iff_iff]
  simp only [List.any_eq_true, Function.comp, eqv_int, decide_eq_true_eq]
  constructor
  · rintro ⟨a, h1, rfl⟩; exact h1
  · intro h; exact ⟨x, h, rfl⟩
section
variable {fns : List Fn} {i k : Nat}
def subB (l r : List Int) : Bool := l.all fun x => decide (x ∈ r)
theorem is_subset_ok (h : fns[i]? = some F_is_subset) (l r : List Int) : At fns 1 i [encK l, encK r] (.ok (.bool (subB l r))) := by
  refine At.mk h rfl fun m _ => ?_
  simp [F_is_subset, evSs, evS, evE, evIt, bor, itemsOf]
  rw [show encK l = .tuple (l.map .int) from rfl]
  dsimp only [bind_ok]
  rw [comp_filter (fun x => !decide (x ∈ r)) PyData.int fun a _ => by
    simp [bindTg, wipeE, Tg.slots, evCond, evE, bor, dCmp, in_ints]]
  simp [filter_none, subB]
end
end Qw

set_option Elab.async false
set_option linter.all false
set_option maxRecDepth 100000
set_option maxHeartbeats 2000000
/-! What the defs of the games' module and the laws' first defs answer. By an AI agent. -/
namespace Qw
open PySem
def gameD (n : Int) (ms : List (List Int)) : D := .tuple [.int n, .tuple (ms.map encK)]
def winB (ms : List (List Int)) (c : List Int) : Bool := ms.any fun m => subB m c
theorem for_idx {tg : Tg} {body : Env → Res} (sh : Nat → Env → Prop) : ∀ {ds : List D} {j0 : Nat} {ρ : Env}, sh j0 ρ →
    (∀ j d, ds[j]? = some d → ∀ ρ, sh (j0 + j) ρ → ∃ ρ1 ρ2, bindTg tg d ρ = some ρ1 ∧ body ρ1 = .next ρ2 ∧ sh (j0 + j + 1) ρ2) → ∃ ρ', forLoop tg body ds ρ = .next ρ' ∧ sh (j0 + ds.length) ρ'
  | [], j0, ρ, h, _ => ⟨ρ, rfl, h⟩
  | d :: ds, j0, ρ, h, hs => by
    obtain ⟨ρ1, ρ2, h1, h2, h3⟩ := hs 0 d rfl ρ h
    obtain ⟨ρ', h4, h5⟩ := for_idx sh (ds := ds) (j0 := j0 + 1) h3 fun j e he ρ hρ => by
      have := hs (j + 1) e he ρ (by rw [show j0 + (j + 1) = j0 + 1 + j by omega]; exact hρ)
      rw [show j0 + (j + 1) + 1 = j0 + 1 + j + 1 by omega] at this
      exact this
    refine ⟨ρ', ?_, ?_⟩
    · unfold forLoop
      rw [h1]
      dsimp only
      rw [h2, seqR_next]
      exact h4
    · rw [List.length_cons, show j0 + (ds.length + 1) = j0 + 1 + ds.length by omega]
      exact h5
theorem range_at {n j : Nat} {d : D} (h : (rangeD 0 n)[j]? = some d) : j < n ∧ d = .int (j : Int) := by
  unfold rangeD at h
  rw [List.getElem?_map] at h
  cases e : (List.range n)[j]? with
  | none => rw [e] at h; cases h
  | some m =>
    rw [e] at h
    obtain ⟨h1, h2⟩ := List.getElem?_eq_some_iff.mp e
    rw [List.getElem_range] at h2
    subst h2
    rw [List.length_range] at h1
    cases h
    exact ⟨h1, by simp⟩
theorem range_len' (n : Nat) : (rangeD 0 n).length = n := by unfold rangeD; rw [List.length_map, List.length_range]
/-- a loop over range(n) -/
theorem for_range {tg : Tg} {body : Env → Res} {n : Nat} {ρ : Env} (sh : Nat → Env → Prop) (h0 : sh 0 ρ) (hs : ∀ j, j < n → ∀ ρ, sh j ρ → ∃ ρ1 ρ2, bindTg tg (.int (j : Int)) ρ = some ρ1 ∧ body ρ1 = .next ρ2 ∧ sh (j + 1) ρ2) : ∃ ρ', forLoop tg body (rangeD 0 n) ρ = .next ρ' ∧ sh n ρ' := by
  obtain ⟨ρ', h1, h2⟩ := for_idx (tg := tg) (body := body) sh (ds := rangeD 0 n) (j0 := 0) h0 fun j d hd ρ hρ => by
    obtain ⟨g1, rfl⟩ := range_at hd
    rw [Nat.zero_add] at hρ ⊢
    exact hs j g1 ρ hρ
  rw [range_len', Nat.zero_add] at h2
  exact ⟨ρ', h1, h2⟩
theorem cmp_nil (l : List D) (h : PyData.plainAll l = true) : dCmp .eq (.list l) (.list []) = .ok (.bool l.isEmpty) := by
  have e : okEq (.list l) (.list []) = true := by
    unfold okEq
    simp only [PyData.plain, h, PyData.plainAll, Bool.true_and, Bool.and_eq_true, decide_eq_true_eq, true_and]
    exact Nat.le_trans (Nat.min_le_right _ _) (by decide)
  show (if okEq (.list l) (.list []) = true then R.ok (PyData.bool (PyData.eqv (.list l) (.list []))) else .bad) = _
  rw [if_pos e]
  cases l <;> simp [PyData.eqv, PyData.eqvAll]
theorem ncmp_nil (l : List D) (h : PyData.plainAll l = true) : dCmp .ne (.list l) (.list []) = .ok (.bool !l.isEmpty) := by
  have e : okEq (.list l) (.list []) = true := by
    unfold okEq
    simp only [PyData.plain, h, PyData.plainAll, Bool.true_and, Bool.and_eq_true, decide_eq_true_eq, true_and]
    exact Nat.le_trans (Nat.min_le_right _ _) (by decide)
  show (if okEq (.list l) (.list []) = true then R.ok (PyData.bool (!PyData.eqv (.list l) (.list []))) else .bad) = _
  rw [if_pos e]
  cases l <;> simp [PyData.eqv, PyData.eqvAll]
theorem idx0 (n : Int) (ms : List (List Int)) : dIdx (gameD n ms) (.int 0) = .ok (.int n) := rfl
theorem idx1 (n : Int) (ms : List (List Int)) : dIdx (gameD n ms) (.int 1) = .ok (.tuple (ms.map encK)) := rfl
theorem filter_any {α : Type} (p : α → Bool) (l : List α) : (l.filter p).isEmpty = !l.any p := by
  rw [Bool.eq_iff_iff, List.isEmpty_iff, List.filter_eq_nil_iff]
  simp
section
variable {fns : List Fn} {i j a b : Nat}
theorem law_within_ok (h : fns[i]? = some F__law_within) (l r : List Int) : At fns 1 i [encK l, encK r] (.ok (.bool (subB l r))) := by
  refine At.mk h rfl fun m _ => ?_
  simp [F__law_within, evSs, evS, evE, evEs, evIt, bor, itemsOf]
  rw [show encK l = .tuple (l.map .int) from rfl]
  dsimp only [bind_ok]
  rw [comp_filter (fun x => !decide (x ∈ r)) PyData.int fun a _ => by
    simp [bindTg, wipeE, Tg.slots, evCond, evE, bor, dCmp, in_ints]]
  simp [cmp_nil _ (plain_ints _), filter_none, subB]
theorem law_wins_ok (h : fns[i]? = some (F__law_wins j)) (hj : fns[j]? = some F__law_within) (n : Int) (ms : List (List Int)) (c : List Int) : At fns 2 i [gameD n ms, encK c] (.ok (.bool (winB ms c))) := by
  refine At.mk h rfl fun m hm => ?_
  simp [F__law_wins, evSs, evS, evE, evEs, evIt, bor, itemsOf, idx1]
  rw [comp_filter (fun x => subB x c) encK fun a _ => by
    simp [bindTg, wipeE, Tg.slots, evCond, evE, evEsB, bor, anyOwn, isOwn, law_within_ok hj a c m hm, flatD]]
  simp [ncmp_nil _ (plain_Ks _), filter_any, winB]
theorem is_winning_ok (h : fns[i]? = some (F_is_winning j)) (hj : fns[j]? = some F_is_subset) (n : Int) (ms : List (List Int)) (c : List Int) : At fns 2 i [gameD n ms, encK c] (.ok (.bool (winB ms c))) := by
  refine At.mk h rfl fun m hm => ?_
  simp [F_is_winning, evSs, evS, evE, evEs, evEsB, evIt, bor, itemsOf, idx1]
  rw [comp_filter (fun x => subB x c) encK fun a _ => by
    simp [bindTg, wipeE, Tg.slots, evCond, evE, evEsB, bor, anyOwn, isOwn, is_subset_ok hj a c m hm, flatD]]
  simp [dBi, one, dLen, dCmp, dOrd, winB]
  rw [Bool.eq_iff_iff, decide_eq_true_eq, List.any_eq_true]
/-- the coalitions of n players, as they are built; sorted -/
def subs : Nat → List (List Int)
  | 0 => [[]]
  | n + 1 => subs n ++ (subs n).map fun c => c ++ [(n : Int)]
def allC (n : Nat) : List (List Int) := sortK (subs n)
theorem subs_len : ∀ n, (subs n).length = 2 ^ n
  | 0 => rfl
  | n + 1 => by
    unfold subs
    rw [List.length_append, List.length_map, subs_len n]
    omega
theorem sorted_Ks (l : List (List Int)) : dSorted (.list (l.map encK)) = .ok (.list ((sortK l).map encK)) := by
  have h : sortOk (l.map encK) = true := by
    unfold sortOk
    simp only [Bool.and_eq_true, Bool.or_eq_true, List.all_eq_true, decide_eq_true_eq]
    refine ⟨fun d hd => ?_, .inl fun d hd => ?_⟩
    · obtain ⟨a, _, rfl⟩ := List.mem_map.mp hd
      refine ⟨fun e he => ?_, depth_K a⟩
      obtain ⟨b, _, rfl⟩ := List.mem_map.mp he
      exact alike_K a b
    · obtain ⟨a, _, rfl⟩ := List.mem_map.mp hd
      rfl
  show (if sortOk (l.map encK) = true then R.ok (PyData.list (sortD (l.map encK))) else .bad) = _
  rw [if_pos h, sortD_K]
theorem subs_small : ∀ {n : Nat} {c : List Int}, c ∈ subs n → c.length ≤ n
  | 0, c, h => by
    have : c = [] := by simpa [subs] using h
    subst this
    exact Nat.le_refl _
  | n + 1, c, h => by
    unfold subs at h
    rcases List.mem_append.mp h with h | h
    · exact Nat.le_succ_of_le (subs_small h)
    · obtain ⟨d, hd, rfl⟩ := List.mem_map.mp h
      rw [List.length_append]
      exact Nat.succ_le_succ (subs_small hd)
theorem add_K (a b : List Int) (h : a.length + b.length ≤ LIM) : dBin .add (encK a) (encK b) = .ok (encK (a ++ b)) := by
  have e : (a.map PyData.int).length + (b.map PyData.int).length ≤ LIM := by rw [List.length_map, List.length_map]; exact h
  show (if (a.map PyData.int).length + (b.map PyData.int).length ≤ LIM then R.ok (PyData.tuple (a.map PyData.int ++ b.map PyData.int)) else .bad) = _
  rw [if_pos e, ← List.map_append]
  rfl
theorem add_L (a b : List D) (h : a.length + b.length ≤ LIM) : dBin .add (.list a) (.list b) = .ok (.list (a ++ b)) := if_pos h
theorem add_Ks (a b : List (List Int)) (h : a.length + b.length ≤ LIM) : dBin .add (.list (a.map encK)) (.list (b.map encK)) = .ok (.list ((a ++ b).map encK)) := by
  rw [add_L _ _ (by rw [List.length_map, List.length_map]; exact h), List.map_append]
theorem one_K (j : Int) : PyData.tuple [.int j] = encK [j] := rfl
theorem nil_K : PyData.tuple [] = encK [] := rfl
theorem build_ok {call : Nat → List D → R D} {n : Nat} (hn : n ≤ 16) : ∃ c, forLoop (.one 2) (fun ρ' => evSs call ρ' (.cons (.asg 1 (.bin .add (.var 1) (.comp (.bin .add (.var 3) (.tup (.cons (.var 2) .nil))) (.one 3) (.seq (.var 1)) .none))) .nil)) (rangeD 0 n) [.val (.int n), .val (.list [encK []]), .un, .un]
    = .next [.val (.int n), .val (.list ((subs n).map encK)), c, .un] := by
  obtain ⟨ρ', h1, c, h2⟩ := for_range (tg := .one 2) (n := n) (body := fun ρ' => evSs call ρ' (.cons (.asg 1 (.bin .add (.var 1) (.comp (.bin .add (.var 3) (.tup (.cons (.var 2) .nil))) (.one 3) (.seq (.var 1)) .none))) .nil))
    (ρ := [.val (.int n), .val (.list [encK []]), .un, .un]) (fun j ρ => ∃ c, ρ = [.val (.int n), .val (.list ((subs j).map encK)), c, .un]) ⟨_, rfl⟩ fun j hj ρ ⟨c, hρ⟩ => by
      subst hρ
      have hl : (subs j).length ≤ 32768 := by rw [subs_len]; exact Nat.pow_le_pow_right (by omega) (show j ≤ 15 by omega)
      refine ⟨_, _, rfl, ?_, .val (.int j), rfl⟩
      simp [evSs, evS, evE, evEs, evIt, bor, itemsOf]
      rw [comp_map (fun c => encK (c ++ [(j : Int)])) fun a ha => by
        have := subs_small ha
        simp [bindTg, wipeE, Tg.slots, evCond, one_K]
        rw [add_K _ _ (by show _ + 1 ≤ 100000; omega)]
        rfl]
      dsimp only [bind_ok]
      rw [show (subs j).map (fun c => encK (c ++ [(j : Int)])) = ((subs j).map fun c => c ++ [(j : Int)]).map encK by rw [List.map_map]; rfl]
      rw [add_Ks _ _ (by rw [List.length_map]; show _ ≤ 100000; omega)]
      rfl
  subst h2
  exact ⟨c, h1⟩
theorem all_coalitions_ok (h : fns[i]? = some F_all_coalitions) (n : Nat) (hn : n ≤ 16) : At fns 1 i [.int n] (.ok (.list ((allC n).map encK))) := by
  refine At.mk h rfl fun m _ => ?_
  obtain ⟨c, hc⟩ := build_ok (call := evFn fns m) hn
  have hr : -1000000 ≤ (n : Int) ∧ (n : Int) ≤ 1000000 := by omega
  simp [F_all_coalitions, evSs, evS, evE, evEs, evEsB, evIt, bor, itemsOf, itOwn, nil_K, hr]
  simp [evSs, evS, evE, evEs, evIt, bor, itemsOf] at hc
  rw [hc]
  simp [dBi, one, sorted_Ks, allC]
theorem law_coalitions_ok (h : fns[i]? = some F__law_coalitions) (n : Nat) (hn : n ≤ 16) : At fns 1 i [.int n] (.ok (.list ((allC n).map encK))) := by
  refine At.mk h rfl fun m _ => ?_
  obtain ⟨c, hc⟩ := build_ok (call := evFn fns m) hn
  have hr : -1000000 ≤ (n : Int) ∧ (n : Int) ≤ 1000000 := by omega
  simp [F__law_coalitions, evSs, evS, evE, evEs, evEsB, evIt, bor, itemsOf, itOwn, nil_K, hr]
  simp [evSs, evS, evE, evEs, evIt, bor, itemsOf] at hc
  rw [hc]
  simp [dBi, one, sorted_Ks, allC]
end
end Qw

set_option Elab.async false
set_option linter.all false
set_option maxRecDepth 100000
set_option maxHeartbeats 2000000
/-! What the laws' first defs answer: cells, rows, games. By an AI agent. -/
namespace Qw
open PySem L2
def rng (n : Nat) : List Int := (List.range n).map fun (i : Nat) => (i : Int)
theorem rangeD_rng (n : Nat) : rangeD 0 n = (rng n).map PyData.int := by
  unfold rangeD rng
  rw [List.map_map]
  refine List.map_congr_left fun a _ => ?_
  simp
theorem sorted_ints (l : List Int) : dSorted (encK l) = .ok (.list ((sortI l).map PyData.int)) := by
  have h : sortOk (l.map PyData.int) = true := by
    unfold sortOk
    simp only [Bool.and_eq_true, Bool.or_eq_true, List.all_eq_true, decide_eq_true_eq]
    refine ⟨fun d hd => ?_, .inr fun d hd => ?_⟩
    · obtain ⟨a, _, rfl⟩ := List.mem_map.mp hd
      refine ⟨fun e he => ?_, by simp [PyData.depth]⟩
      obtain ⟨b, _, rfl⟩ := List.mem_map.mp he
      simp [PySem.W.alike]
    · obtain ⟨a, _, rfl⟩ := List.mem_map.mp hd
      rfl
  show (if sortOk (l.map PyData.int) = true then R.ok (PyData.list (sortD (l.map PyData.int))) else .bad) = _
  rw [if_pos h]
  congr 2
  unfold sortD sortI
  refine (List.map_mergeSort fun a _ b _ => ?_).symm
  rw [PySem.W.dataLe_eq]
  show decide (a ≤ b) = (!PySem.W.dataLt (.int b) (.int a))
  rw [PySem.W.dataLt_int]
  rw [Bool.eq_iff_iff]
  simp
section
variable {fns : List Fn} {i j a b : Nat}
theorem with_player_ok (h : fns[i]? = some F_with_player) (c : List Int) (p : Int) (hc : c.length < 1000) : At fns 1 i [encK c, .int p] (.ok (encK (sortI (c ++ [p])))) := by
  refine At.mk h rfl fun m _ => ?_
  simp [F_with_player, evSs, evS, evE, evEs, evEsB, bor, one_K]
  rw [add_K _ _ (by show _ + 1 ≤ 100000; omega)]
  simp [dBi, one, sorted_ints, dTuple, itemsOf]
  rfl
theorem outsiders_ok (h : fns[i]? = some F_outsiders) (n : Nat) (hn : n ≤ 1000) (ms : List (List Int)) (c : List Int) : At fns 1 i [gameD n ms, encK c] (.ok (encK ((rng n).filter fun p => !decide (p ∈ c)))) := by
  refine At.mk h rfl fun m _ => ?_
  have hr : -1000000 ≤ (n : Int) ∧ (n : Int) ≤ 1000000 := by omega
  simp [F_outsiders, evSs, evS, evE, evEs, evEsB, evIt, bor, idx0, hr, rangeD_rng]
  rw [comp_filter (fun p => !decide (p ∈ c)) PyData.int fun a _ => by
    simp [bindTg, wipeE, Tg.slots, evCond, evE, bor, dCmp, in_ints]]
  simp [dBi, one, dTuple, itemsOf]
  rfl
theorem idx_L {α : Type} {enc : α → D} {l : List α} {k : Nat} {x : α} (h : l[k]? = some x) : dIdx (.list (l.map enc)) (.int k) = .ok (enc x) := by
  have : atI (l.map enc) (k : Int) = some (enc x) := atI_nat (by rw [List.getElem?_map, h]; rfl)
  show (match atI (l.map enc) (k : Int) with | some d => R.ok d | none => .bad) = _
  rw [this]
theorem idx_T {α : Type} {enc : α → D} {l : List α} {k : Nat} {x : α} (h : l[k]? = some x) : dIdx (.tuple (l.map enc)) (.int k) = .ok (enc x) := by
  have : atI (l.map enc) (k : Int) = some (enc x) := atI_nat (by rw [List.getElem?_map, h]; rfl)
  show (match atI (l.map enc) (k : Int) with | some d => R.ok d | none => .bad) = _
  rw [this]
theorem cell_ok (h : fns[i]? = some F__law_cell) (ns : List Int) (k : Nat) : At fns 1 i [scr ns, .int k] (.ok (.int (ns.getD k 0))) := by
  refine At.mk h rfl fun m _ => ?_
  have e1 : dLen (scr ns) = .ok (.int ns.length) := by
    unfold scr dLen
    simp
  simp [F__law_cell, evSs, evS, evE, evEs, evEsB, bor, dBi, one, e1, dCmp, dOrd]
  by_cases hk : k < ns.length
  · have e2 : dIdx (scr ns) (.int k) = .ok (.int ns[k]) := by
      have : atI (ns.map fun n => (PyData.int n, PyData.none)) (k : Int) = some (PyData.int ns[k], PyData.none) := atI_nat (by rw [List.getElem?_map, List.getElem?_eq_getElem hk]; rfl)
      show (match atI (ns.map fun n => (PyData.int n, PyData.none)) (k : Int) with | some (.int n, _) => R.ok (PyData.int n) | _ => .bad) = _
      rw [this]
    simp [hk, e2]
  · simp [hk]
/-- the draws of a row -/
def rowS (g : Nat → Int) (at_ : Nat) (st : Int × List Int) (t : Nat) : Int × List Int :=
  if g at_ < 10 ^ 18 then ((st.1 * 48271 + 131 * t + 7 + g ((at_ + 1 + t) % 20)) % 2147483647, st.2 ++ [(st.1 * 48271 + 131 * t + 7 + g ((at_ + 1 + t) % 20)) % 2147483647 / 11 % 1000])
  else (st.1 / 1000, st.2 ++ [st.1 % 1000])
def rowN (g : Nat → Int) (at_ n : Nat) : Int × List Int := (List.range n).foldl (rowS g at_) (g at_, [])
def rowL (ns : List Int) (at_ : Nat) : List Int := (rowN (fun k => ns.getD k 0) at_ 60).2
theorem rowN_succ (g : Nat → Int) (at_ n : Nat) : rowN g at_ (n + 1) = rowS g at_ (rowN g at_ n) n := by
  unfold rowN
  rw [List.range_succ, List.foldl_append]
  rfl
theorem rowN_len (g : Nat → Int) (at_ : Nat) : ∀ n, (rowN g at_ n).2.length = n ∧ ∀ x ∈ (rowN g at_ n).2, 0 ≤ x ∧ x < 1000
  | 0 => ⟨rfl, fun x hx => by cases hx⟩
  | n + 1 => by
    obtain ⟨h1, h2⟩ := rowN_len g at_ n
    rw [rowN_succ]
    unfold rowS
    split
    · refine ⟨by simp [h1], fun x hx => ?_⟩
      rcases List.mem_append.mp hx with hx | hx
      · exact h2 x hx
      · rw [List.mem_singleton.mp hx]; omega
    · refine ⟨by simp [h1], fun x hx => ?_⟩
      rcases List.mem_append.mp hx with hx | hx
      · exact h2 x hx
      · rw [List.mem_singleton.mp hx]; omega
theorem bin_add (a b : Int) : dBin .add (.int a) (.int b) = .ok (.int (a + b)) := rfl
theorem bin_sub (a b : Int) : dBin .sub (.int a) (.int b) = .ok (.int (a - b)) := rfl
theorem bin_div (a b : Int) (h : 0 < b ∧ b < 1073741824) : dBin .div (.int a) (.int b) = .ok (.int (a / b)) := if_pos h
theorem bin_mod (a b : Int) (h : 0 < b) : dBin .mod (.int a) (.int b) = .ok (.int (a % b)) := if_pos h
theorem bin_mul (a b : Int) (h : mulOk a b = true) : dBin .mul (.int a) (.int b) = .ok (.int (a * b)) := if_pos h
theorem cmp_lt (a b : Int) : dCmp .lt (.int a) (.int b) = .ok (.bool (decide (a < b))) := rfl
theorem cmp_le (a b : Int) : dCmp .le (.int a) (.int b) = .ok (.bool (decide (a ≤ b))) := rfl
theorem cmp_gt (a b : Int) : dCmp .gt (.int a) (.int b) = .ok (.bool (decide (b < a))) := rfl
theorem cmp_ge (a b : Int) : dCmp .ge (.int a) (.int b) = .ok (.bool (decide (b ≤ a))) := rfl
theorem cmp_eq (a b : Int) : dCmp .eq (.int a) (.int b) = .ok (.bool (decide (a = b))) := by
  show (if okEq (.int a) (.int b) = true then R.ok (PyData.bool (PyData.eqv (.int a) (.int b))) else .bad) = _
  rw [if_pos (by rfl : okEq (.int a) (.int b) = true), eqv_int]
theorem cmp_ne (a b : Int) : dCmp .ne (.int a) (.int b) = .ok (.bool (!decide (a = b))) := by
  show (if okEq (.int a) (.int b) = true then R.ok (PyData.bool (!PyData.eqv (.int a) (.int b))) else .bad) = _
  rw [if_pos (by rfl : okEq (.int a) (.int b) = true), eqv_int]
theorem pow18 : dBin .pow (.int 10) (.int 18) = .ok (.int (10 ^ 18)) := rfl
theorem mulOk_r (a b : Int) (h : -(2 ^ 64) < b ∧ b < 2 ^ 64) : mulOk a b = true := by
  unfold mulOk
  simp only [Bool.or_eq_true, Bool.and_eq_true, decide_eq_true_eq]
  exact .inr h
theorem mulOk_l (a b : Int) (h : -(2 ^ 64) < a ∧ a < 2 ^ 64) : mulOk a b = true := by
  unfold mulOk
  simp only [Bool.or_eq_true, Bool.and_eq_true, decide_eq_true_eq]
  exact .inl h
theorem seq_range {tg : Tg} {body : Env → Res} {n : Nat} {ρ : Env} {K : Env → Res} {r : R D} (sh : Nat → Env → Prop) (h0 : sh 0 ρ) (hs : ∀ j, j < n → ∀ ρ, sh j ρ → ∃ ρ1 ρ2, bindTg tg (.int (j : Int)) ρ = some ρ1 ∧ body ρ1 = .next ρ2 ∧ sh (j + 1) ρ2)
    (hk : ∀ ρ', sh n ρ' → fin' (K ρ') = r) : fin' (seqR (forLoop tg body (rangeD 0 n) ρ) K) = r := by
  obtain ⟨ρ', h1, h2⟩ := for_range sh h0 hs
  rw [h1, seqR_next]
  exact hk ρ' h2
theorem row_ok (h : fns[i]? = some (F__law_row j)) (hj : fns[j]? = some F__law_cell) (ns : List Int) (k : Nat) : At fns 2 i [scr ns, .int k] (.ok (.list ((rowL ns k).map .int))) := by
  refine At.mk h rfl fun m hm => ?_
  have hc : ∀ q : Nat, evFn fns m j [scr ns, .int q] = .ok (.int (ns.getD q 0)) := fun q => cell_ok hj ns q m hm
  simp [F__law_row, evSs, evS, evE, evEs, evEsB, evIt, bor, anyOwn, isOwn, itOwn, isNew, hc, flatD]
  refine seq_range (n := 60) (fun j ρ => ∃ c, ρ = [.val (scr ns), .val (.int k), .val (.int (rowN (fun k => ns.getD k 0) k j).1), .own ((rowN (fun k => ns.getD k 0) k j).2.map .int), c]) ⟨_, rfl⟩ (fun t ht ρ ⟨c, hρ⟩ => ?_) fun ρ' ⟨c, hρ⟩ => ?_
  · subst hρ
    have hlen := (rowN_len (fun k => ns.getD k 0) k t).1
    refine ⟨_, _, rfl, ?_, .val (.int t), rfl⟩
    have e20 : ((k : Int) + 1 + (t : Int)) % 20 = (((k + 1 + t) % 20 : Nat) : Int) := by omega
    rw [rowN_succ]
    unfold rowS
    have hL : ((rowN (fun k => ns.getD k 0) k t).2.map PyData.int).length < LIM := by rw [List.length_map, hlen]; show t < 100000; omega
    by_cases hg : ns.getD k 0 < 10 ^ 18
    · rw [if_pos hg]
      simp only [pow18, List.getElem?_cons_zero, List.getElem?_cons_succ, List.set_cons_zero, List.set_cons_succ, bin_mul _ _ (mulOk_r _ 48271 (by decide)), bin_mul _ _ (mulOk_l 131 _ (by decide)), bin_add, bin_mod _ 20 (by decide), bin_mod _ 2147483647 (by decide), bin_div _ 11 (by decide), bin_mod _ 1000 (by decide), bin_div _ 1000 (by decide), cmp_lt, e20, hc, bind_ok, rThen_ok, seqR_next, hg, decide_true, if_true, true_or, tru_bool, hL, List.map_append, List.map_cons, List.map_nil]
    · rw [if_neg hg]
      simp only [pow18, List.getElem?_cons_zero, List.getElem?_cons_succ, List.set_cons_zero, List.set_cons_succ, bin_mul _ _ (mulOk_r _ 48271 (by decide)), bin_mul _ _ (mulOk_l 131 _ (by decide)), bin_add, bin_mod _ 20 (by decide), bin_mod _ 2147483647 (by decide), bin_div _ 11 (by decide), bin_mod _ 1000 (by decide), bin_div _ 1000 (by decide), cmp_lt, e20, hc, bind_ok, rThen_ok, seqR_next, hg, decide_false, if_false, if_true, true_or, tru_bool, hL, List.map_append, List.map_cons, List.map_nil, Bool.false_eq_true]
  · subst hρ
    simp [relE, rowL]
end
end Qw

set_option Elab.async false
set_option linter.all false
set_option maxRecDepth 100000
set_option maxHeartbeats 2000000
/-! What the laws' games are. By an AI agent. -/
namespace Qw
open PySem L2
theorem seq_list {α : Type} {enc : α → D} {l : List α} {tg : Tg} {body : Env → Res} {ρ : Env} {K : Env → Res} {r : R D} (sh : Nat → Env → Prop) (h0 : sh 0 ρ) (hs : ∀ j a, l[j]? = some a → ∀ ρ, sh j ρ → ∃ ρ1 ρ2, bindTg tg (enc a) ρ = some ρ1 ∧ body ρ1 = .next ρ2 ∧ sh (j + 1) ρ2)
    (hk : ∀ ρ', sh l.length ρ' → fin' (K ρ') = r) : fin' (seqR (forLoop tg body (l.map enc) ρ) K) = r := by
  obtain ⟨ρ', h1, h2⟩ := for_idx (tg := tg) (body := body) sh (ds := l.map enc) (j0 := 0) h0 fun j d hd ρ hρ => by
    rw [List.getElem?_map] at hd
    cases e : l[j]? with
    | none => rw [e] at hd; cases hd
    | some a =>
      rw [e] at hd
      cases hd
      rw [Nat.zero_add] at hρ ⊢
      exact hs j a e ρ hρ
  rw [List.length_map, Nat.zero_add] at h2
  rw [h1, seqR_next]
  exact hk ρ' h2
theorem take_filter {α : Type} {l : List α} {j : Nat} {a : α} (h : l[j]? = some a) (p : α → Bool) : (l.take (j + 1)).filter p = (l.take j).filter p ++ if p a = true then [a] else [] := by
  rw [List.take_add_one, h, List.filter_append]
  cases hp : p a <;> simp [hp]
theorem okEq_K (a b : List Int) : okEq (encK a) (encK b) = true := by
  unfold okEq
  rw [plain_K, plain_K, depth_K', depth_K']
  rfl
theorem cmp_eqK (a b : List Int) : dCmp .eq (encK a) (encK b) = .ok (.bool (decide (a = b))) := by
  show (if okEq (encK a) (encK b) = true then R.ok (PyData.bool (PyData.eqv (encK a) (encK b))) else .bad) = _
  rw [if_pos (okEq_K a b), eqv_K]
theorem cmp_neK (a b : List Int) : dCmp .ne (encK a) (encK b) = .ok (.bool (!decide (a = b))) := by
  show (if okEq (encK a) (encK b) = true then R.ok (PyData.bool (!PyData.eqv (encK a) (encK b))) else .bad) = _
  rw [if_pos (okEq_K a b), eqv_K]
theorem intsOf_map (k : List Int) : intsOf (k.map PyData.int) = some k := by
  induction k with
  | nil => rfl
  | cons a k ih => rw [List.map_cons]; unfold intsOf; rw [ih]; rfl
theorem tupsK_map (ks : List (List Int)) : tupsK (ks.map encK) = some ks := by
  induction ks with
  | nil => rfl
  | cons a k ih =>
    rw [List.map_cons]
    unfold tupsK
    rw [ih]
    have : tupK (encK a) = some a := intsOf_map a
    rw [this]
theorem sortset_K (ks : List (List Int)) (h : ks.length < 64) : dSortSet (.list (ks.map encK)) = .ok (.list ((sortK (nubK ks)).map encK)) := by
  show (match tupsK (ks.map encK) with | some ks => if ks.length < 64 then R.ok (PyData.list ((sortK (nubK ks)).map encK)) else .bad | none => .bad) = _
  rw [tupsK_map]
  exact if_pos h
theorem nubK_len (ks : List (List Int)) : (nubK ks).length ≤ ks.length := by
  induction ks with
  | nil => exact Nat.le_refl _
  | cons a k ih =>
    unfold nubK
    rw [List.length_cons, List.length_cons]
    exact Nat.succ_le_succ (Nat.le_trans (List.length_filter_le _ _) ih)
/-- the minimal ones, sorted -/
def isMin (cs : List (List Int)) (c : List Int) : Bool := !cs.any fun o => !decide (o = c) && subB o c
def minK (cs : List (List Int)) : List (List Int) := (sortK (nubK cs)).filter (isMin cs)
section
variable {fns : List Fn} {i j a b i1 i2 i3 : Nat}
theorem minimal_ok (h : fns[i]? = some (F__law_minimal j)) (hj : fns[j]? = some F__law_within) (cs : List (List Int)) (hl : cs.length < 64) : At fns 2 i [.list (cs.map encK)] (.ok (.tuple ((minK cs).map encK))) := by
  refine At.mk h rfl fun m hm => ?_
  have hw : ∀ l r, evFn fns m j [encK l, encK r] = .ok (.bool (subB l r)) := fun l r => law_within_ok hj l r m hm
  have hS : (sortK (nubK cs)).length < 64 := by rw [(sortK_perm _).length_eq]; exact Nat.lt_of_le_of_lt (nubK_len cs) hl
  simp only [F__law_minimal, evSs, evS, evE, evEs, evEsB, evIt, bor, itOwn, isOwn, isNew, List.map, List.length, List.replicate, List.cons_append, List.nil_append, List.getElem?_cons_zero, List.getElem?_cons_succ, List.set_cons_zero, List.set_cons_succ, bind_ok, rThen_ok, seqR_next, dBi, one, sortset_K _ hl, itemsOf, if_true, if_false, Bool.false_eq_true]
  refine seq_list (fun j ρ => ∃ c, ρ = [.val (.list (cs.map encK)), .own ((((sortK (nubK cs)).take j).filter (isMin cs)).map encK), c, .un]) ⟨_, rfl⟩ (fun t a ht ρ ⟨c, hρ⟩ => ?_) fun ρ' ⟨c, hρ⟩ => ?_
  · subst hρ
    refine ⟨_, _, rfl, ?_, .val (encK a), rfl⟩
    have hL : ((((sortK (nubK cs)).take t).filter (isMin cs)).map encK).length < LIM := by
      rw [List.length_map]
      refine Nat.lt_of_le_of_lt (List.length_filter_le _ _) (Nat.lt_of_le_of_lt (List.length_take_le' _ _) ?_)
      show _ < 100000
      omega
    simp only [List.set_cons_zero, List.set_cons_succ, List.getElem?_cons_zero, List.getElem?_cons_succ, itemsOf, bind_ok]
    rw [comp_filter (fun o => !decide (o = a) && subB o a) encK fun o _ => by
      simp [bindTg, wipeE, Tg.slots, evCond, evE, evEsB, bor, anyOwn, isOwn, cmp_neK, hw, flatD]
      by_cases e : o = a <;> simp [e]]
    dsimp only [bind_ok]
    rw [cmp_nil _ (plain_Ks _), take_filter ht]
    have e : ((cs.filter fun o => !decide (o = a) && subB o a).map encK).isEmpty = isMin cs a := by
      rw [List.isEmpty_map, filter_any]
      rfl
    rw [e]
    cases isMin cs a with
    | true => simp only [bind_ok, tru_bool, rThen_ok, if_true, List.getElem?_cons_zero, List.getElem?_cons_succ, hL, List.set_cons_zero, List.set_cons_succ, seqR_next, List.map_append, List.map_cons, List.map_nil]
    | false => simp only [bind_ok, tru_bool, rThen_ok, if_false, Bool.false_eq_true, seqR_next, List.append_nil]
  · subst hρ
    simp [dTuple, itemsOf, minK, List.take_length]
end
end Qw

set_option Elab.async false
set_option linter.all false
set_option maxRecDepth 100000
set_option maxHeartbeats 2000000
/-! The coalitions; the laws' games. By an AI agent. -/
namespace Qw
open PySem L2
theorem subs_lt : ∀ {n : Nat} {c : List Int}, c ∈ subs n → ∀ x ∈ c, 0 ≤ x ∧ x < n
  | 0, c, h, x, hx => by
    have : c = [] := by simpa [subs] using h
    subst this
    cases hx
  | n + 1, c, h, x, hx => by
    unfold subs at h
    rcases List.mem_append.mp h with h | h
    · have := subs_lt h x hx
      omega
    · obtain ⟨d, hd, rfl⟩ := List.mem_map.mp h
      rcases List.mem_append.mp hx with hx | hx
      · have := subs_lt hd x hx
        omega
      · rw [List.mem_singleton.mp hx]
        omega
theorem subs_inc : ∀ {n : Nat} {c : List Int}, c ∈ subs n → c.Pairwise (· < ·)
  | 0, c, h => by
    have : c = [] := by simpa [subs] using h
    subst this
    exact List.Pairwise.nil
  | n + 1, c, h => by
    unfold subs at h
    rcases List.mem_append.mp h with h | h
    · exact subs_inc h
    · obtain ⟨d, hd, rfl⟩ := List.mem_map.mp h
      rw [List.pairwise_append]
      refine ⟨subs_inc hd, List.pairwise_singleton _ _, fun x hx y hy => ?_⟩
      rw [List.mem_singleton.mp hy]
      exact (subs_lt hd x hx).2
theorem mem_subs : ∀ {n : Nat} {c : List Int}, c.Pairwise (· < ·) → (∀ x ∈ c, 0 ≤ x ∧ x < n) → c ∈ subs n
  | 0, c, _, h => by
    cases c with
    | nil => exact List.mem_singleton.mpr rfl
    | cons x c =>
      have := h x List.mem_cons_self
      omega
  | n + 1, c, hp, h => by
    unfold subs
    rw [List.mem_append]
    by_cases hn : (n : Int) ∈ c
    · refine .inr (List.mem_map.mpr ⟨c.dropLast, ?_, ?_⟩)
      · refine mem_subs (hp.sublist (List.dropLast_sublist c)) fun x hx => ?_
        have h1 := h x (List.dropLast_sublist c |>.subset hx)
        refine ⟨h1.1, ?_⟩
        have hne : c ≠ [] := by rintro rfl; cases hn
        have hl := List.dropLast_concat_getLast hne
        rw [← hl, List.pairwise_append] at hp
        have h2 := hp.2.2 x hx (c.getLast hne) (List.mem_singleton.mpr rfl)
        have h3 := h (c.getLast hne) (List.getLast_mem hne)
        omega
      · have hne : c ≠ [] := by rintro rfl; cases hn
        have hl := List.dropLast_concat_getLast hne
        have hlast : c.getLast hne = (n : Int) := by
          have h3 := h (c.getLast hne) (List.getLast_mem hne)
          rw [← hl] at hn
          rcases List.mem_append.mp hn with hn | hn
          · have hp' := hp
            rw [← hl, List.pairwise_append] at hp'
            have := hp'.2.2 _ hn _ (List.mem_singleton.mpr rfl)
            omega
          · exact (List.mem_singleton.mp hn).symm
        rw [hlast] at hl
        exact hl
    · refine .inl (mem_subs hp fun x hx => ?_)
      have h1 := h x hx
      have h2 : x ≠ (n : Int) := fun z => hn (z ▸ hx)
      omega
theorem subs_nodup : ∀ n, (subs n).Nodup
  | 0 => List.pairwise_singleton _ _
  | n + 1 => by
    unfold subs
    rw [List.nodup_append]
    refine ⟨subs_nodup n, ?_, fun a ha b hb e => ?_⟩
    · refine List.Pairwise.map _ (fun a b hne e => hne ?_) (subs_nodup n)
      exact (List.append_inj' e rfl).1
    · obtain ⟨d, hd, rfl⟩ := List.mem_map.mp hb
      subst e
      have := subs_lt ha n (List.mem_append_right _ (List.mem_singleton.mpr rfl))
      omega
theorem allC_mem {n : Nat} {c : List Int} : c ∈ allC n ↔ c ∈ subs n := (sortK_perm _).mem_iff
theorem allC_len (n : Nat) : (allC n).length = 2 ^ n := by rw [← subs_len]; exact (sortK_perm _).length_eq
theorem allC_nodup (n : Nat) : (allC n).Nodup := (sortK_perm _).nodup_iff.mpr (subs_nodup n)
theorem nil_subs (n : Nat) : [] ∈ subs n := mem_subs List.Pairwise.nil fun x hx => by cases hx
theorem allC_head (n : Nat) : ∃ r, allC n = [] :: r ∧ [] ∉ r := by
  have hm : ([] : List Int) ∈ allC n := allC_mem.mpr (nil_subs n)
  cases e : allC n with
  | nil => rw [e] at hm; cases hm
  | cons c r =>
    have hp : (allC n).Pairwise fun a b => decide (a ≤ b) = true := sortK_pw _
    have hc : c = [] := by
      rw [e] at hm hp
      rcases List.mem_cons.mp hm with z | z
      · exact z.symm
      · have := of_decide_eq_true ((List.pairwise_cons.mp hp).1 [] z)
        cases c with
        | nil => rfl
        | cons x c => exact absurd this (by simp)
    subst hc
    have hd := allC_nodup n
    rw [e] at hd
    exact ⟨r, rfl, (List.nodup_cons.mp hd).1⟩
theorem rng_mem {n : Nat} {x : Int} : x ∈ rng n ↔ 0 ≤ x ∧ x < n := by
  unfold rng
  rw [List.mem_map]
  constructor
  · rintro ⟨a, ha, rfl⟩
    have := List.mem_range.mp ha
    omega
  · intro h
    exact ⟨x.toNat, List.mem_range.mpr (by omega), by omega⟩
theorem rng_inc (n : Nat) : (rng n).Pairwise (· < ·) := by
  unfold rng
  refine List.Pairwise.map _ (fun a b h => ?_) List.pairwise_lt_range
  omega
theorem rng_subs (n : Nat) : rng n ∈ subs n := mem_subs (rng_inc n) fun x hx => rng_mem.mp hx
/-- the games that the laws draw -/
structure IsG (n : Nat) (ms : List (List Int)) : Prop where
  ex : ∃ cs : List (List Int), ms = minK cs ∧ cs ≠ [] ∧ cs.length < 64 ∧ ∀ c ∈ cs, c ∈ subs n ∧ c ≠ []
section
variable {fns : List Fn} {i j a b i1 i2 i3 q w : Nat}
theorem draw {ns : List Int} {k t : Nat} (ht : t < 60) : dIdx (.list ((rowL ns k).map .int)) (.int t) = .ok (.int ((rowL ns k).getD t 0)) ∧ 0 ≤ (rowL ns k).getD t 0 ∧ (rowL ns k).getD t 0 < 1000 := by
  obtain ⟨h1, h2⟩ := rowN_len (fun k => ns.getD k 0) k 60
  have hl : t < (rowL ns k).length := by unfold rowL; omega
  have e : (rowL ns k)[t]? = some (rowL ns k)[t] := List.getElem?_eq_getElem hl
  have e2 : (rowL ns k).getD t 0 = (rowL ns k)[t] := by rw [List.getD_eq_getElem?_getD, e]; rfl
  rw [e2]
  exact ⟨idx_L e, h2 _ (List.getElem_mem hl)⟩
end
end Qw

set_option Elab.async false
set_option linter.all false
set_option maxRecDepth 100000
set_option maxHeartbeats 4000000
/-! The laws' games: the def _law_game. By an AI agent. -/
namespace Qw
open PySem L2
theorem sum_L (l : List Int) : dSum (.list (l.map .int)) = .ok (.int l.sum) := by
  show (match intsOf (l.map .int) with | some ns => R.ok (PyData.int ns.sum) | none => .bad) = _
  rw [intsOf_map]
theorem modl (x : Int) (h0 : 0 ≤ x) : ∃ v : Int, (v = 3 ∨ v = 6 ∨ v = 10) ∧ dIdx (.list [.int 3, .int 6, .int 10]) (.int (x % 3)) = .ok (.int v) := by
  have h : x % 3 = 0 ∨ x % 3 = 1 ∨ x % 3 = 2 := by omega
  rcases h with h | h | h <;> rw [h]
  · exact ⟨3, .inl rfl, rfl⟩
  · exact ⟨6, .inr (.inl rfl), rfl⟩
  · exact ⟨10, .inr (.inr rfl), rfl⟩
theorem sum_nonneg : ∀ {l : List Int}, (∀ x ∈ l, 0 ≤ x) → 0 ≤ l.sum
  | [], _ => Int.le_refl _
  | x :: l, h => by
    rw [List.sum_cons]
    have h1 := h x List.mem_cons_self
    have h2 := sum_nonneg fun y hy => h y (List.mem_cons_of_mem _ hy)
    omega
/-- the weights that a law draws -/
def wts (d : Nat → Int) (v : Int) (n : Nat) : List Int := (rng n).map fun p => d (2 + p.toNat) % v
def wt (W : List Int) (p : Int) : Int := W.getD p.toNat 0
theorem wts_len (d : Nat → Int) (v : Int) (n : Nat) : (wts d v n).length = n := by unfold wts rng; simp
theorem wts_map (d : Nat → Int) (v : Int) (n : Nat) : (rng n).map (wt (wts d v n)) = wts d v n := by
  refine List.ext_getElem (by rw [List.length_map, wts_len]; unfold rng; simp) fun k h1 h2 => ?_
  rw [List.getElem_map]
  unfold wt
  have hk : k < n := by rw [wts_len] at h2; exact h2
  have e : (rng n)[k]'(by rw [List.length_map] at h1; exact h1) = (k : Int) := by unfold rng; simp
  rw [e, Int.toNat_natCast, List.getD_eq_getElem?_getD, List.getElem?_eq_getElem h2]
  rfl
/-! ### steps -/
section
variable {call : Nat → List D → R D} {ρ : Env} {e c : E} {es : Es} {d r : D} {ds : List D} {i f : Nat} {ss a b : Ss} {k : Bool}
theorem asg_step (h : evE call ρ e = .ok d) : evSs call ρ (.cons (.asg i e) ss) = evSs call (ρ.set i (.val d)) ss := by
  conv => lhs; unfold evSs evS
  rw [h]
  rfl
theorem own_step (hn : isNew e = true) (h : evE call ρ e = .ok (.list ds)) : evSs call ρ (.cons (.asgOwn i e) ss) = evSs call (ρ.set i (.own ds)) ss := by
  conv => lhs; unfold evSs evS
  rw [if_pos hn, h]
  rfl
theorem app_step {es : List D} (ho : ρ[i]? = some (.own es)) (h : evE call ρ e = .ok d) (hl : es.length < LIM) : evSs call ρ (.cons (.app i e) ss) = evSs call (ρ.set i (.own (es ++ [d]))) ss := by
  conv => lhs; unfold evSs evS
  rw [ho]
  dsimp only
  rw [h]
  dsimp only [rThen_ok]
  rw [if_pos hl]
  rfl
theorem ret_step (h : evE call ρ e = .ok d) : evSs call ρ (.cons (.ret e) ss) = .ret d := by
  conv => lhs; unfold evSs evS
  rw [h]
  rfl
theorem expr_step (h : evE call ρ e = .ok d) : evSs call ρ (.cons (.expr e) ss) = evSs call ρ ss := by
  conv => lhs; unfold evSs evS
  rw [h]
  rfl
theorem ite_step (h : (bor ρ c (evE call ρ c)).bind tru = .ok k) : evSs call ρ (.cons (.ite c a b) ss) = seqR (if k = true then evSs call ρ a else evSs call ρ b) fun ρ' => evSs call ρ' ss := by
  conv => lhs; unfold evSs evS
  rw [h]
  rfl
theorem nil_step : evSs call ρ .nil = .next ρ := by unfold evSs; rfl
theorem rel_step : evSs call ρ (.rel i ss) = evSs call (relE i ρ) ss := by conv => lhs; unfold evSs
theorem for_step {tg : Tg} {it : It} (ho : itOwn ρ it = false) (h : evIt call ρ it = .ok ds) : evSs call ρ (.cons (.forS tg it a) ss) = seqR (forLoop tg (fun ρ' => evSs call ρ' a) ds ρ) fun ρ' => evSs call ρ' ss := by
  conv => lhs; unfold evSs evS
  rw [if_neg (by rw [ho]; exact Bool.false_ne_true), h]
  rfl
theorem call_ev (h1 : evEsB call ρ es = .ok ds) (h2 : call f ds = .ok r) (h3 : (flatD r || !anyOwn ρ es) = true) : evE call ρ (.call f es) = .ok r := by
  conv => lhs; unfold evE
  rw [h1, bind_ok, h2, bind_ok, if_pos h3]
theorem comp_ev {α : Type} {enc : α → D} {elt : E} {tg : Tg} {it : It} {cond : Eo} {l : List α} (p : α → Bool) (g : α → D) (h1 : evIt call ρ it = .ok (l.map enc))
    (h2 : ∀ a ∈ l, ∃ ρ', bindTg tg (enc a) (wipeE ρ tg.slots) = some ρ' ∧ evCond call ρ' cond = .ok (p a) ∧ (p a = true → evE call ρ' elt = .ok (g a))) : evE call ρ (.comp elt tg it cond) = .ok (.list ((l.filter p).map g)) := by
  conv => lhs; unfold evE
  rw [h1, bind_ok]
  rw [comp_filter p g fun a ha => by
    obtain ⟨ρ', e1, e2, e3⟩ := h2 a ha
    rw [e1]
    dsimp only
    rw [e2, bind_ok]
    cases hp : p a with
    | true => rw [if_pos rfl, e3 hp]; rfl
    | false => rfl]
theorem comp_evM {α : Type} {enc : α → D} {elt : E} {tg : Tg} {it : It} {l : List α} (g : α → D) (h1 : evIt call ρ it = .ok (l.map enc))
    (h2 : ∀ a ∈ l, ∃ ρ', bindTg tg (enc a) (wipeE ρ tg.slots) = some ρ' ∧ evE call ρ' elt = .ok (g a)) : evE call ρ (.comp elt tg it .none) = .ok (.list (l.map g)) := by
  rw [comp_ev (fun _ => true) g h1 fun a ha => by
    obtain ⟨ρ', e1, e2⟩ := h2 a ha
    exact ⟨ρ', e1, by unfold evCond; rfl, fun _ => e2⟩]
  rw [List.filter_eq_self.mpr fun _ _ => rfl]
end
section
variable {fns : List Fn} {i i1 i2 i3 q w : Nat}
/-- the last two statements of _law_game -/
def gTail (i3 : Nat) : Ss := (.cons (.asg 11 (.comp (.idx (.var 5) (.bin .add (.cst (.int 1)) (.bin .mod (.idx (.var 3) (.bin .add (.cst (.int 12)) (.var 12))) (.bin .sub (.bi .len (.cons (.var 5) .nil)) (.cst (.int 1)))))) (.one 12) (.range1 (.bin .add (.cst (.int 1)) (.bin .mod (.idx (.var 3) (.cst (.int 11))) (.cst (.int 6))))) .none)) (.cons (.ret (.tup (.cons (.var 4) (.cons (.call i3 (.cons (.var 11) .nil)) .nil)))) .nil))
/-- the statements behind the first three -/
def gRest (i3 : Nat) : Ss := (.cons (.ite (.cmp .eq (.bin .mod (.idx (.var 3) (.cst (.int 1))) (.cst (.int 3))) (.cst (.int 0))) (.cons (.asg 6 (.comp (.bin .mod (.idx (.var 3) (.bin .add (.cst (.int 2)) (.var 7))) (.idx (.lst (.cons (.cst (.int 3)) (.cons (.cst (.int 6)) (.cons (.cst (.int 10)) .nil)))) (.bin .mod (.idx (.var 3) (.cst (.int 9))) (.cst (.int 3))))) (.one 7) (.range1 (.var 4)) .none)) (.cons (.ite (.cmp .gt (.bi .sum (.cons (.var 6) .nil)) (.cst (.int 0))) (.cons (.asg 8 (.bin .add (.cst (.int 1)) (.bin .mod (.idx (.var 3) (.cst (.int 10))) (.bi .sum (.cons (.var 6) .nil))))) (.cons (.asg 9 (.comp (.var 10) (.one 10) (.seq (.var 5)) (.some (.cmp .ge (.bi .sum (.cons (.comp (.idx (.var 6) (.var 7)) (.one 7) (.seq (.var 10)) .none) .nil)) (.var 8))))) (.cons (.ret (.tup (.cons (.var 4) (.cons (.call i3 (.cons (.var 9) .nil)) .nil)))) .nil))) .nil) .nil)) .nil) (gTail i3))
/-- the drawn coalitions -/
def chosen (Y : Nat → Int) (n : Nat) : List (List Int) := (rng (1 + Y 11 % 6).toNat).map fun t => (allC n).getD (1 + Y (12 + t.toNat) % (2 ^ n - 1)).toNat []
theorem chosen_at {Y : Nat → Int} {n : Nat} (hn : 1 ≤ n) (t : Nat) : ∃ j c, 1 + Y t % (2 ^ n - 1) = ((j : Nat) : Int) ∧ (allC n)[j]? = some c ∧ c ∈ subs n ∧ c ≠ [] := by
  have hpow : 2 ≤ 2 ^ n := Nat.pow_le_pow_right (n := 2) (by omega) (show 1 ≤ n by omega)
  have hpz : (2 : Int) ≤ 2 ^ n := by exact_mod_cast hpow
  have p1 := Int.emod_nonneg (Y t) (show ((2 : Int) ^ n - 1) ≠ 0 by omega)
  have p2 := Int.emod_lt_of_pos (Y t) (show (0 : Int) < 2 ^ n - 1 by omega)
  have hz : ((2 ^ n : Nat) : Int) = 2 ^ n := by push_cast; rfl
  obtain ⟨r, hr, hn'⟩ := allC_head n
  have hl := allC_len n
  have hj : (1 + Y t % (2 ^ n - 1)).toNat < (allC n).length := by rw [hl]; omega
  refine ⟨(1 + Y t % (2 ^ n - 1)).toNat, (allC n)[(1 + Y t % (2 ^ n - 1)).toNat], by omega, List.getElem?_eq_getElem hj, allC_mem.mp (List.getElem_mem hj), fun z => hn' ?_⟩
  obtain ⟨j, hj'⟩ : ∃ j, (1 + Y t % (2 ^ n - 1)).toNat = j + 1 := ⟨(1 + Y t % (2 ^ n - 1)).toNat - 1, by omega⟩
  have e : (allC n)[(1 + Y t % (2 ^ n - 1)).toNat]? = some [] := by rw [List.getElem?_eq_getElem hj, z]
  rw [hj', hr, List.getElem?_cons_succ] at e
  exact List.mem_of_getElem? e
theorem tail_ok (h3 : fns[i3]? = some (F__law_minimal w)) (hw : fns[w]? = some F__law_within) {Y : Nat → Int} {L : List PyData} {n m : Nat} (hm : 2 ≤ m) (hn : 1 ≤ n) (hn2 : n ≤ 6) (dr : ∀ t : Nat, t < 60 → dIdx (.list L) (.int t) = .ok (.int (Y t))) (db : ∀ t : Nat, t < 60 → 0 ≤ Y t ∧ Y t < 1000) (a0 a1 a2 c6 c7 c8 c9 c10 : Cell) :
    evSs (evFn fns m) [a0, a1, a2, .val (.list L), .val (.int n), .val (.list ((allC n).map encK)), c6, c7, c8, c9, c10, .un, .un] (gTail i3) = .ret (gameD n (minK (chosen Y n))) ∧ IsG n (minK (chosen Y n)) := by
  have k1 : 1 ≤ (1 + Y 11 % 6).toNat ∧ (1 + Y 11 % 6).toNat ≤ 6 ∧ ((1 + Y 11 % 6).toNat : Int) = 1 + Y 11 % 6 := by omega
  have hlen : (chosen Y n).length = (1 + Y 11 % 6).toNat := by unfold chosen rng; simp
  have hpow : 2 ≤ 2 ^ n := Nat.pow_le_pow_right (n := 2) (by omega) (show 1 ≤ n by omega)
  have hz : ((2 ^ n : Nat) : Int) = 2 ^ n := by push_cast; rfl
  have dr11 : dIdx (.list L) (.int 11) = .ok (.int (Y 11)) := dr 11 (by omega)
  refine ⟨?_, ⟨_, rfl, fun z => ?_, by omega, fun c hc => ?_⟩⟩
  · unfold gTail
    rw [asg_step (comp_evM (enc := PyData.int) (l := rng (1 + Y 11 % 6).toNat) (fun t => encK ((allC n).getD (1 + Y (12 + t.toNat) % (2 ^ n - 1)).toNat [])) (by
      simp only [evIt, evE, bor, List.getElem?_cons_zero, List.getElem?_cons_succ, bind_ok, dr11, bin_mod _ 6 (by decide), bin_add]
      rw [if_pos (by omega), rangeD_rng]) fun t ht => ?_)]
    · have e : (rng (1 + Y 11 % 6).toNat).map (fun t => encK ((allC n).getD (1 + Y (12 + t.toNat) % (2 ^ n - 1)).toNat [])) = (chosen Y n).map encK := by
        unfold chosen
        rw [List.map_map]
        rfl
      rw [e]
      have hmn := minimal_ok h3 hw (chosen Y n) (by omega) m hm
      refine ret_step ?_
      simp only [evE, evEs, List.set_cons_zero, List.set_cons_succ, List.getElem?_cons_zero, List.getElem?_cons_succ, bind_ok]
      simp only [evEsB, evE, bor, List.getElem?_cons_zero, List.getElem?_cons_succ, bind_ok, hmn]
      rfl
    · have h1 := rng_mem.mp ht
      have e12 : (12 : Int) + t = ((12 + t.toNat : Nat) : Int) := by omega
      have d12 := dr (12 + t.toNat) (by omega)
      obtain ⟨j, c, j1, j2, _, _⟩ := chosen_at (Y := Y) hn (12 + t.toNat)
      refine ⟨_, rfl, ?_⟩
      have hl2 : dLen (.list ((allC n).map encK)) = .ok (.int (2 ^ n)) := by
        show R.ok (PyData.int (((allC n).map encK).length : Int)) = _
        rw [List.length_map, allC_len, hz]
      simp only [evE, evEsB, Tg.slots, wipeE, bor, List.set_cons_zero, List.set_cons_succ, List.getElem?_cons_zero, List.getElem?_cons_succ, bind_ok, dBi, one, bin_add, bin_sub, e12, d12, hl2]
      rw [bin_mod _ _ (by omega)]
      simp only [bind_ok, bin_add]
      rw [j1, idx_L j2]
      have : (allC n).getD (((j : Nat) : Int)).toNat [] = c := by rw [Int.toNat_natCast, List.getD_eq_getElem?_getD, j2]; rfl
      rw [this]
  · have := congrArg List.length z
    rw [hlen] at this
    simp at this
    omega
  · unfold chosen at hc
    obtain ⟨t, _, rfl⟩ := List.mem_map.mp hc
    obtain ⟨j, c, j1, j2, j3, j4⟩ := chosen_at (Y := Y) hn (12 + t.toNat)
    have : (allC n).getD (1 + Y (12 + t.toNat) % (2 ^ n - 1)).toNat [] = c := by rw [j1, Int.toNat_natCast, List.getD_eq_getElem?_getD, j2]; rfl
    rw [this]
    exact ⟨j3, j4⟩
theorem game_ok (h : fns[i]? = some (F__law_game i1 i2 i3)) (h1 : fns[i1]? = some (F__law_row q)) (hq : fns[q]? = some F__law_cell) (h2 : fns[i2]? = some F__law_coalitions) (h3 : fns[i3]? = some (F__law_minimal w)) (hw : fns[w]? = some F__law_within)
    (ns : List Int) (k most : Nat) (hm : 1 ≤ most) (hm2 : most ≤ 6) : ∃ n ms, 1 ≤ n ∧ n ≤ most ∧ IsG n ms ∧ At fns 3 i [scr ns, .int k, .int most] (.ok (gameD n ms)) := by
  obtain ⟨Y, hD⟩ : ∃ Y : Nat → Int, Y = fun t => (rowL ns k).getD t 0 := ⟨_, rfl⟩
  have dr : ∀ t : Nat, t < 60 → dIdx (.list ((rowL ns k).map .int)) (.int t) = .ok (.int (Y t)) := fun t ht => by rw [hD]; exact (draw ht).1
  have db : ∀ t : Nat, t < 60 → 0 ≤ Y t ∧ Y t < 1000 := fun t ht => by rw [hD]; exact (draw ht).2
  clear hD
  obtain ⟨n, hn, hn1⟩ : ∃ n : Nat, (1 : Int) + Y 0 % most = n ∧ 1 ≤ n ∧ n ≤ most := by
    have p1 := Int.emod_nonneg (Y 0) (show (most : Int) ≠ 0 by omega)
    have p2 := Int.emod_lt_of_pos (Y 0) (show (0 : Int) < most by omega)
    refine ⟨(1 + Y 0 % most).toNat, ?_, ?_⟩ <;> omega
  have hall : (allC n).length = 2 ^ n := allC_len n
  have h64 : 2 ^ n ≤ 64 := Nat.pow_le_pow_right (n := 2) (by omega) (show n ≤ 6 by omega)
  have hpow : 2 ≤ 2 ^ n := Nat.pow_le_pow_right (n := 2) (by omega) (show 1 ≤ n by omega)
  obtain ⟨v, hv, hvi⟩ := modl (Y 9) (db 9 (by omega)).1
  have hr : -1000000 ≤ (n : Int) ∧ (n : Int) ≤ 1000000 := by omega
  have start : ∀ m, 2 ≤ m → evFn fns m i1 [scr ns, .int k] = .ok (.list ((rowL ns k).map .int)) ∧ evFn fns m i2 [.int n] = .ok (.list ((allC n).map encK)) := fun m hm => ⟨row_ok h1 hq ns k m hm, law_coalitions_ok h2 n (by omega) m (by omega)⟩
  have dr0 : dIdx (.list ((rowL ns k).map .int)) (.int 0) = .ok (.int (Y 0)) := dr 0 (by omega)
  have dr1 : dIdx (.list ((rowL ns k).map .int)) (.int 1) = .ok (.int (Y 1)) := dr 1 (by omega)
  have dr9 : dIdx (.list ((rowL ns k).map .int)) (.int 9) = .ok (.int (Y 9)) := dr 9 (by omega)
  have dr10 : dIdx (.list ((rowL ns k).map .int)) (.int 10) = .ok (.int (Y 10)) := dr 10 (by omega)
  have cut : ∀ m, 2 ≤ m → fin' (evSs (evFn fns m) ([scr ns, .int k, .int most].map Cell.val ++ List.replicate ((F__law_game i1 i2 i3).slots.length - (F__law_game i1 i2 i3).params.length) Cell.un) (F__law_game i1 i2 i3).body) =
      fin' (evSs (evFn fns m) [.val (scr ns), .val (.int k), .val (.int most), .val (.list ((rowL ns k).map .int)), .val (.int n), .val (.list ((allC n).map encK)), .un, .un, .un, .un, .un, .un, .un] (gRest i3)) := fun m hm => by
    obtain ⟨s1, s2⟩ := start m hm
    show fin' (evSs (evFn fns m) [.val (scr ns), .val (.int k), .val (.int most), .un, .un, .un, .un, .un, .un, .un, .un, .un, .un] (.cons _ (.cons _ (.cons _ (gRest i3))))) = _
    rw [asg_step (call_ev (ds := [scr ns, .int k]) rfl s1 rfl), asg_step (d := .int n) (by
      simp only [evE, bor, List.getElem?_cons_zero, List.getElem?_cons_succ, List.set_cons_zero, List.set_cons_succ, bind_ok, dr0, bin_mod _ _ (show (0 : Int) < most by omega), bin_add, hn]), asg_step (call_ev (ds := [.int n]) rfl s2 rfl)]
    rfl
  by_cases c1 : Y 1 % 3 = 0
  · have vpos : 0 < v := by rcases hv with z | z | z <;> rw [z] <;> decide
    have hW : ∀ m, evE (evFn fns m) [.val (scr ns), .val (.int k), .val (.int most), .val (.list ((rowL ns k).map .int)), .val (.int n), .val (.list ((allC n).map encK)), .un, .un, .un, .un, .un, .un, .un] (.comp (.bin .mod (.idx (.var 3) (.bin .add (.cst (.int 2)) (.var 7))) (.idx (.lst (.cons (.cst (.int 3)) (.cons (.cst (.int 6)) (.cons (.cst (.int 10)) .nil)))) (.bin .mod (.idx (.var 3) (.cst (.int 9))) (.cst (.int 3))))) (.one 7) (.range1 (.var 4)) .none)
        = .ok (.list ((wts Y v n).map PyData.int)) := fun m => by
      rw [comp_evM (enc := PyData.int) (l := rng n) (fun p => PyData.int (Y (2 + p.toNat) % v)) (by
        simp only [evIt, evE, List.getElem?_cons_zero, List.getElem?_cons_succ, bind_ok]
        rw [if_pos hr, rangeD_rng, Int.toNat_natCast]) fun p hp => ?_]
      · unfold wts
        rw [List.map_map]
        rfl
      · have h1 := rng_mem.mp hp
        have e2 : (2 : Int) + p = ((2 + p.toNat : Nat) : Int) := by omega
        have d2 := dr (2 + p.toNat) (by omega)
        refine ⟨_, rfl, ?_⟩
        simp only [evE, evEs, Tg.slots, wipeE, bor, List.set_cons_zero, List.set_cons_succ, List.getElem?_cons_zero, List.getElem?_cons_succ, bind_ok, bin_add, e2, d2, dr9, bin_mod _ 3 (by decide), hvi, bin_mod _ v vpos]
    have i1 : ∀ m ss, evSs (evFn fns m) [.val (scr ns), .val (.int k), .val (.int most), .val (.list ((rowL ns k).map .int)), .val (.int n), .val (.list ((allC n).map encK)), .un, .un, .un, .un, .un, .un, .un] (.cons (.asg 6 (.comp (.bin .mod (.idx (.var 3) (.bin .add (.cst (.int 2)) (.var 7))) (.idx (.lst (.cons (.cst (.int 3)) (.cons (.cst (.int 6)) (.cons (.cst (.int 10)) .nil)))) (.bin .mod (.idx (.var 3) (.cst (.int 9))) (.cst (.int 3))))) (.one 7) (.range1 (.var 4)) .none)) ss)
        = evSs (evFn fns m) [.val (scr ns), .val (.int k), .val (.int most), .val (.list ((rowL ns k).map .int)), .val (.int n), .val (.list ((allC n).map encK)), .val (.list ((wts Y v n).map PyData.int)), .un, .un, .un, .un, .un, .un] ss := fun m ss => by
      rw [asg_step (hW m)]
      rfl
    have c1' : ∀ m, (bor [.val (scr ns), .val (.int k), .val (.int most), .val (.list ((rowL ns k).map .int)), .val (.int n), .val (.list ((allC n).map encK)), .un, .un, .un, .un, .un, .un, .un] (.cmp .eq (.bin .mod (.idx (.var 3) (.cst (.int 1))) (.cst (.int 3))) (.cst (.int 0))) (evE (evFn fns m) [.val (scr ns), .val (.int k), .val (.int most), .val (.list ((rowL ns k).map .int)), .val (.int n), .val (.list ((allC n).map encK)), .un, .un, .un, .un, .un, .un, .un] (.cmp .eq (.bin .mod (.idx (.var 3) (.cst (.int 1))) (.cst (.int 3))) (.cst (.int 0))))).bind tru = .ok true := fun m => by
      simp only [evE, bor, List.getElem?_cons_zero, List.getElem?_cons_succ, bind_ok, dr1, bin_mod _ 3 (by decide), cmp_eq, c1, decide_true, tru_bool]
    by_cases c2 : 0 < (wts Y v n).sum
    · have cell : ∀ p : Int, 0 ≤ p ∧ p < n → dIdx (.list ((wts Y v n).map PyData.int)) (.int p) = .ok (.int (wt (wts Y v n) p)) := fun p hp => by
        obtain ⟨j, rfl⟩ : ∃ j : Nat, p = j := ⟨p.toNat, by omega⟩
        have hj : j < (wts Y v n).length := by rw [wts_len]; omega
        rw [idx_L (List.getElem?_eq_getElem hj)]
        unfold wt
        rw [Int.toNat_natCast, List.getD_eq_getElem?_getD, List.getElem?_eq_getElem hj]
        rfl
      obtain ⟨qt, hqt⟩ : ∃ qt, qt = 1 + Y 10 % (wts Y v n).sum := ⟨_, rfl⟩
      have q1 := Int.emod_nonneg (Y 10) (show (wts Y v n).sum ≠ 0 by omega)
      have q2 := Int.emod_lt_of_pos (Y 10) c2
      have full : rng n ∈ (allC n).filter fun c => decide (qt ≤ (c.map (wt (wts Y v n))).sum) := by
        rw [List.mem_filter]
        refine ⟨allC_mem.mpr (rng_subs n), ?_⟩
        rw [decide_eq_true_eq, wts_map]
        omega
      have no : ∀ c ∈ (allC n).filter (fun c => decide (qt ≤ (c.map (wt (wts Y v n))).sum)), c ∈ subs n ∧ c ≠ [] := fun c hc => by
        obtain ⟨z1, z2⟩ := List.mem_filter.mp hc
        refine ⟨allC_mem.mp z1, fun z => ?_⟩
        subst z
        have := of_decide_eq_true z2
        simp at this
        omega
      have hlt : ((allC n).filter fun c => decide (qt ≤ (c.map (wt (wts Y v n))).sum)).length < 64 := by
        obtain ⟨r, hr, _⟩ := allC_head n
        have hl := allC_len n
        rw [hr] at hl no ⊢
        have : (List.filter (fun c => decide (qt ≤ (List.map (wt (wts Y v n)) c).sum)) ([] :: r)).length ≤ r.length := by
          rw [List.filter_cons_of_neg (by simp; omega)]
          exact List.length_filter_le _ _
        rw [List.length_cons] at hl
        omega
      refine ⟨n, minK ((allC n).filter fun c => decide (qt ≤ (c.map (wt (wts Y v n))).sum)), hn1.1, hn1.2, ⟨_, rfl, List.ne_nil_of_mem full, hlt, no⟩, At.mk h rfl fun m hm => ?_⟩
      rw [cut m hm]
      unfold gRest
      rw [ite_step (c1' m), if_pos rfl, i1 m, ite_step (k := true) (by
        simp only [evE, evEsB, bor, List.getElem?_cons_zero, List.getElem?_cons_succ, bind_ok, dBi, one, sum_L, cmp_gt, c2, decide_true, tru_bool]), if_pos rfl]
      rw [asg_step (d := .int qt) (by
        simp only [evE, evEsB, bor, List.getElem?_cons_zero, List.getElem?_cons_succ, bind_ok, dBi, one, sum_L, dr10, bin_mod _ _ c2, bin_add, hqt])]
      simp only [List.set_cons_zero, List.set_cons_succ]
      rw [asg_step (comp_ev (enc := encK) (l := allC n) (fun c => decide (qt ≤ (c.map (wt (wts Y v n))).sum)) encK (by
        simp only [evIt, evE, bor, List.getElem?_cons_zero, List.getElem?_cons_succ, bind_ok, itemsOf]) fun c hc => ?_)]
      · have hmn := minimal_ok h3 hw _ hlt m hm
        rw [ret_step (d := gameD n (minK ((allC n).filter fun c => decide (qt ≤ (c.map (wt (wts Y v n))).sum)))) (by
          simp only [evE, evEs, evEsB, bor, List.set_cons_zero, List.set_cons_succ, List.getElem?_cons_zero, List.getElem?_cons_succ, bind_ok, hmn]
          rfl)]
        rfl
      · refine ⟨_, rfl, ?_, fun _ => by simp only [evE, Tg.slots, wipeE, List.set_cons_zero, List.set_cons_succ, List.getElem?_cons_zero, List.getElem?_cons_succ]⟩
        have inner : ∀ ρ : Env, ρ[6]? = some (.val (.list ((wts Y v n).map PyData.int))) → ρ[10]? = some (.val (encK c)) → 7 < ρ.length → evE (evFn fns m) ρ (.comp (.idx (.var 6) (.var 7)) (.one 7) (.seq (.var 10)) .none) = .ok (.list ((c.map (wt (wts Y v n))).map PyData.int)) := fun ρ g6 g10 gl => by
          rw [comp_evM (enc := PyData.int) (l := c) (fun p => PyData.int (wt (wts Y v n) p)) (by
            simp only [evIt, evE, bor, g10, bind_ok]
            rfl) fun p hp => ⟨_, rfl, ?_⟩]
          · rw [List.map_map]
            rfl
          · have e6 : ((ρ.set 7 Cell.un).set 7 (.val (.int p)))[6]? = some (.val (.list ((wts Y v n).map PyData.int))) := by simp [g6]
            have e7 : ((ρ.set 7 Cell.un).set 7 (.val (.int p)))[7]? = some (.val (.int p)) := by simp [gl]
            simp only [evE, bor, Tg.slots, wipeE, e6, e7, bind_ok]
            exact cell p (subs_lt (allC_mem.mp hc) p hp)
        simp only [evCond, Tg.slots, wipeE, List.set_cons_zero, List.set_cons_succ]
        unfold evE
        simp only [bor, bind_ok]
        unfold evE
        simp only [evEsB, bor]
        rw [inner _ rfl rfl (by simp)]
        simp only [bind_ok, dBi, one, sum_L, evE, List.getElem?_cons_zero, List.getElem?_cons_succ, cmp_ge, tru_bool]
    · refine ⟨n, minK (chosen Y n), hn1.1, hn1.2, (tail_ok (m := 2) h3 hw (by omega) hn1.1 (by omega) dr db (.val (scr ns)) (.val (.int k)) (.val (.int most)) .un .un .un .un .un).2, At.mk h rfl fun m hm => ?_⟩
      rw [cut m hm]
      unfold gRest
      rw [ite_step (c1' m), if_pos rfl, i1 m, ite_step (k := false) (by
        simp only [evE, evEsB, bor, List.getElem?_cons_zero, List.getElem?_cons_succ, bind_ok, dBi, one, sum_L, cmp_gt, c2, decide_false, tru_bool])]
      simp only [if_false, Bool.false_eq_true, nil_step, seqR_next]
      rw [(tail_ok (m := m) h3 hw hm hn1.1 (by omega) dr db (.val (scr ns)) (.val (.int k)) (.val (.int most)) _ .un .un .un .un).1]
      rfl
  · refine ⟨n, minK (chosen Y n), hn1.1, hn1.2, (tail_ok (m := 2) h3 hw (by omega) hn1.1 (by omega) dr db (.val (scr ns)) (.val (.int k)) (.val (.int most)) .un .un .un .un .un).2, At.mk h rfl fun m hm => ?_⟩
    rw [cut m hm]
    unfold gRest
    rw [ite_step (k := false) (by
      simp only [evE, bor, List.getElem?_cons_zero, List.getElem?_cons_succ, bind_ok, dr1, bin_mod _ 3 (by decide), cmp_eq, c1, decide_false, tru_bool])]
    simp only [if_false, Bool.false_eq_true, nil_step, seqR_next]
    rw [(tail_ok (m := m) h3 hw hm hn1.1 (by omega) dr db (.val (scr ns)) (.val (.int k)) (.val (.int most)) .un .un .un .un .un).1]
    rfl
end
end Qw

set_option Elab.async false
set_option linter.all false
set_option maxRecDepth 100000
set_option maxHeartbeats 2000000
/-! Valid games. By an AI agent. -/
namespace Qw
open PySem L2
theorem subB_iff {l r : List Int} : subB l r = true ↔ ∀ x ∈ l, x ∈ r := by
  unfold subB
  simp [List.all_eq_true]
theorem winB_iff {ms : List (List Int)} {c : List Int} : winB ms c = true ↔ ∃ m ∈ ms, ∀ x ∈ m, x ∈ c := by
  unfold winB
  rw [List.any_eq_true]
  constructor
  · rintro ⟨m, h1, h2⟩; exact ⟨m, h1, subB_iff.mp h2⟩
  · rintro ⟨m, h1, h2⟩; exact ⟨m, h1, subB_iff.mpr h2⟩
/-- increasing lists with the same members are the same -/
theorem inc_ext : ∀ {a b : List Int}, a.Pairwise (· < ·) → b.Pairwise (· < ·) → (∀ x, x ∈ a ↔ x ∈ b) → a = b := by
  intro a b ha hb h
  have na : a.Nodup := ha.imp fun h => by omega
  have nb : b.Nodup := hb.imp fun h => by omega
  refine List.Perm.eq_of_pairwise (le := (· < ·)) (fun x y _ _ h1 h2 => by omega) ha hb ((List.perm_ext_iff_of_nodup na nb).mpr h)
theorem inc_sub : ∀ {a b : List Int}, a.Pairwise (· < ·) → b.Pairwise (· < ·) → (∀ x ∈ a, x ∈ b) → a.Sublist b
  | [], b, _, _, _ => List.nil_sublist b
  | x :: a, [], _, _, h => by have := h x List.mem_cons_self; cases this
  | x :: a, y :: b, ha, hb, h => by
    obtain ⟨a1, a2⟩ := List.pairwise_cons.mp ha
    obtain ⟨b1, b2⟩ := List.pairwise_cons.mp hb
    by_cases e : x = y
    · subst e
      refine (inc_sub a2 b2 fun z hz => ?_).cons₂ x
      rcases List.mem_cons.mp (h z (List.mem_cons_of_mem _ hz)) with q | q
      · have := a1 z hz
        omega
      · exact q
    · have hx : x ∈ b := (List.mem_cons.mp (h x List.mem_cons_self)).resolve_left e
      refine (inc_sub ha b2 fun z hz => ?_).cons y
      rcases List.mem_cons.mp (h z hz) with q | q
      · have h1 := b1 x hx
        rcases List.mem_cons.mp hz with w | w
        · omega
        · have := a1 z w
          omega
      · exact q
theorem inc_len {a b : List Int} (ha : a.Pairwise (· < ·)) (hb : b.Pairwise (· < ·)) (h : ∀ x ∈ a, x ∈ b) (hne : a ≠ b) : a.length < b.length := by
  have sp := inc_sub ha hb h
  rcases Nat.lt_or_ge a.length b.length with z | z
  · exact z
  · exact absurd (sp.eq_of_length (Nat.le_antisymm sp.length_le z)) hne
theorem isMin_iff {cs : List (List Int)} {c : List Int} : isMin cs c = true ↔ ∀ o ∈ cs, o ≠ c → ¬ ∀ x ∈ o, x ∈ c := by
  unfold isMin
  rw [Bool.not_eq_true', List.any_eq_false]
  constructor
  · intro h o ho hne hs
    refine h o ho ?_
    rw [decide_eq_false hne, subB_iff.mpr hs]
    rfl
  · intro h o ho z
    rw [Bool.and_eq_true, Bool.not_eq_true', decide_eq_false_iff_not] at z
    exact h o ho z.1 (subB_iff.mp z.2)
theorem minK_mem {cs : List (List Int)} {c : List Int} : c ∈ minK cs ↔ c ∈ cs ∧ isMin cs c = true := by
  unfold minK
  rw [List.mem_filter, (sortK_perm _).mem_iff, nubK_mem]
/-- below each there is a minimal one -/
theorem min_below {n : Nat} {cs : List (List Int)} (hs : ∀ c ∈ cs, c ∈ subs n) : ∀ (k : Nat) (c : List Int), c.length ≤ k → c ∈ cs → ∃ m ∈ minK cs, ∀ x ∈ m, x ∈ c
  | k, c, hk, hc => by
    by_cases h : isMin cs c = true
    · exact ⟨c, minK_mem.mpr ⟨hc, h⟩, fun x hx => hx⟩
    · have : ¬ ∀ o ∈ cs, o ≠ c → ¬ ∀ x ∈ o, x ∈ c := fun z => h (isMin_iff.mpr z)
      obtain ⟨o, ho, hne, hsub⟩ : ∃ o ∈ cs, o ≠ c ∧ ∀ x ∈ o, x ∈ c := Classical.byContradiction fun z => this fun o ho h1 h2 => z ⟨o, ho, h1, h2⟩
      have hl := inc_len (subs_inc (hs o ho)) (subs_inc (hs c hc)) hsub hne
      cases k with
      | zero => omega
      | succ k =>
        obtain ⟨m, h1, h2⟩ := min_below hs k o (by omega) ho
        exact ⟨m, h1, fun x hx => hsub x (h2 x hx)⟩
structure Game (n : Nat) (ms : List (List Int)) : Prop where
  mem : ∀ m ∈ ms, m ∈ subs n ∧ m ≠ []
  ne : ms ≠ []
  inc : ms.Pairwise (· < ·)
  anti : ∀ a ∈ ms, ∀ b ∈ ms, a ≠ b → ¬ ∀ x ∈ a, x ∈ b
theorem sortK_lt {ks : List (List Int)} (h : ks.Nodup) : (sortK ks).Pairwise (· < ·) := by
  have h1 := sortK_pw ks
  have h2 : (sortK ks).Nodup := (sortK_perm ks).nodup_iff.mpr h
  have h3 := h1.and h2
  refine h3.imp fun {a b} ⟨z1, z2⟩ => ?_
  have z1 := of_decide_eq_true z1
  rcases Classical.em (a < b) with z | z
  · exact z
  · exact absurd (List.le_antisymm z1 (by exact z)) z2
theorem IsG.game {n : Nat} {ms : List (List Int)} (h : IsG n ms) : Game n ms := by
  obtain ⟨cs, rfl, hne, hl, hm⟩ := h.ex
  refine ⟨fun m h => hm m (minK_mem.mp h).1, ?_, ?_, fun a ha b hb hab => isMin_iff.mp (minK_mem.mp hb).2 a (minK_mem.mp ha).1 hab⟩
  · cases cs with
    | nil => exact absurd rfl hne
    | cons c cs =>
      obtain ⟨m, h1, _⟩ := min_below (n := n) (fun c hc => (hm c hc).1) _ c (Nat.le_refl _) List.mem_cons_self
      exact List.ne_nil_of_mem h1
  · unfold minK
    exact (sortK_lt (nubK_nd cs)).filter _
end Qw

set_option Elab.async false
set_option linter.all false
set_option maxRecDepth 100000
set_option maxHeartbeats 2000000
/-! The program's checks at valid games. By an AI agent. -/
namespace Qw
open PySem L2
theorem cut1 {α : Type} (l : List α) : cutL l (some 1) none = l.drop 1 := by
  unfold cutL
  cases l with
  | nil => rfl
  | cons x l =>
    have e1 : HT.sIx (x :: l).length 0 (some 1) = 1 := by
      simp [HT.sIx]
    have e2 : HT.sIx (x :: l).length (x :: l).length none = (x :: l).length := by
      simp [HT.sIx]
    rw [e1, e2]
    simp
theorem pair_zip {α : Type} (p : α → α → Bool) : ∀ {l : List α}, l.Pairwise (fun a b => p a b = true) → ∀ q ∈ l.zip (l.drop 1), p q.1 q.2 = true
  | [], _, q, hq => by cases hq
  | [x], _, q, hq => by cases hq
  | x :: y :: l, h, q, hq => by
    obtain ⟨h1, h2⟩ := List.pairwise_cons.mp h
    rcases List.mem_cons.mp (show q ∈ (x, y) :: (y :: l).zip l from hq) with z | z
    · rw [z]; exact h1 y List.mem_cons_self
    · exact pair_zip p h2 q z
theorem zip_enc {α : Type} (enc : α → D) (l l' : List α) : ((l.map enc).zip (l'.map enc)).map (fun p => PyData.tuple [p.1, p.2]) = (l.zip l').map fun q => PyData.tuple [enc q.1, enc q.2] := by
  rw [List.zip_map, List.map_map]
  rfl
theorem comp_flat {α : Type} {enc : α → D} {f : D → R (List D)} (g : α → List D) {l : List α} (h : ∀ a ∈ l, f (enc a) = .ok (g a)) : compLoop f (l.map enc) = .ok (l.flatMap g) := by
  induction l with
  | nil => rfl
  | cons a l ih =>
    rw [List.map_cons]
    unfold compLoop
    rw [h a List.mem_cons_self, ih fun b hb => h b (List.mem_cons_of_mem _ hb)]
    rfl
theorem comp2_ev {call : Nat → List D → R D} {ρ : Env} {α β : Type} {enc : α → D} {enc2 : β → D} {elt : E} {tg tg2 : Tg} {it it2 : It} {cond cond2 : Eo} {l : List α} {l2 : α → List β} (p : α → β → Bool) (g : α → β → D) (h1 : evIt call ρ it = .ok (l.map enc))
    (h2 : ∀ a ∈ l, ∃ ρ', bindTg tg (enc a) (wipeE ρ (tg.slots ++ tg2.slots)) = some ρ' ∧ evCond call ρ' cond = .ok true ∧ itOwn ρ' it2 = false ∧ evIt call ρ' it2 = .ok ((l2 a).map enc2) ∧
      ∀ b ∈ l2 a, ∃ ρ2, bindTg tg2 (enc2 b) (wipeE ρ' tg2.slots) = some ρ2 ∧ evCond call ρ2 cond2 = .ok (p a b) ∧ (p a b = true → evE call ρ2 elt = .ok (g a b)))
    (hl : (l.flatMap fun a => ((l2 a).filter (p a)).map (g a)).length ≤ LIM) : evE call ρ (.comp2 elt tg it cond tg2 it2 cond2) = .ok (.list (l.flatMap fun a => ((l2 a).filter (p a)).map (g a))) := by
  conv => lhs; unfold evE
  rw [h1, bind_ok]
  rw [comp_flat (fun a => ((l2 a).filter (p a)).map (g a)) fun a ha => by
    obtain ⟨ρ', e1, e2, e3, e4, e5⟩ := h2 a ha
    rw [e1]
    dsimp only
    rw [e2, bind_ok, if_pos rfl, if_neg (by rw [e3]; exact Bool.false_ne_true), e4, bind_ok]
    exact comp_filter (p a) (g a) fun b hb => by
      obtain ⟨ρ2, f1, f2, f3⟩ := e5 b hb
      rw [f1]
      dsimp only
      rw [f2, bind_ok]
      cases hp : p a b with
      | true => rw [if_pos rfl, f3 hp]; rfl
      | false => rfl]
  dsimp only
  rw [if_pos hl]
theorem bind2 {i j : Nat} {x y : D} {ρ : Env} : bindTg (.many [i, j]) (.tuple [x, y]) ρ = some ((ρ.set i (.val x)).set j (.val y)) := rfl
theorem lt_K (a b : List Int) : PySem.W.dataLt (encK a) (encK b) = decide (a < b) := by
  unfold encK
  rw [PySem.W.dataLt_tuple]
  exact PySem.W.dataLt_ints a b
theorem okLt_K (a b : List Int) : okLt (encK a) (encK b) = true := by
  unfold okLt
  rw [plain_K, plain_K, alike_K, depth_K', depth_K']
  rfl
theorem cmp_geK (a b : List Int) : dCmp .ge (encK a) (encK b) = .ok (.bool (!decide (a < b))) := by
  show (if okLt (encK a) (encK b) = true then R.ok (PyData.bool (!PySem.W.dataLt (encK a) (encK b))) else .bad) = _
  rw [if_pos (okLt_K a b), lt_K]
section
variable {fns : List Fn} {i j i1 i2 i3 : Nat}
theorem in_range_ok (h : fns[i]? = some F_in_range) (v lo hi : Int) : At fns 1 i [.int v, .int lo, .int hi] (.ok (.bool (decide (lo ≤ v ∧ v ≤ hi)))) := by
  refine At.mk h rfl fun m _ => ?_
  simp [F_in_range, evSs, evS, evE, evEs, evEsB, bor, dBi, one, dIsi, isiD]
  by_cases h1 : lo ≤ v <;> simp [h1]
theorem is_coalition_ok (h : fns[i]? = some (F_is_coalition j)) (hj : fns[j]? = some F_in_range) (n : Nat) (c : List Int) (hc : c ∈ subs n) : At fns 2 i [.int n, encK c] (.ok (.bool true)) := by
  refine At.mk h rfl fun m hm => ?_
  have hr : ∀ v lo hi : Int, evFn fns m j [.int v, .int lo, .int hi] = .ok (.bool (decide (lo ≤ v ∧ v ≤ hi))) := fun v lo hi => in_range_ok hj v lo hi m hm
  have e0 : ((n : Int) - 1) = (n : Int) - 1 := rfl
  have hin : ∀ x ∈ c, decide ((0 : Int) ≤ x ∧ x ≤ n - 1) = true := fun x hx => by
    have := subs_lt hc x hx
    exact decide_eq_true (by omega)
  show fin' (evSs (evFn fns m) [.val (.int n), .val (encK c), .un, .un, .un] (F_is_coalition j).body) = _
  unfold F_is_coalition
  dsimp only
  have c1 : evE (evFn fns m) [.val (.int n), .val (encK c), .un, .un, .un] (.comp (.var 2) (.one 2) (.seq (.var 1)) (.some (.not (.call j (.cons (.var 2) (.cons (.cst (.int 0)) (.cons (.bin .sub (.var 0) (.cst (.int 1))) .nil))))))) = .ok (.list []) := by
    rw [comp_ev (enc := PyData.int) (l := c) (fun x => !decide ((0 : Int) ≤ x ∧ x ≤ n - 1)) PyData.int (by
      simp only [evIt, evE, bor, List.getElem?_cons_zero, List.getElem?_cons_succ, bind_ok]
      rfl) fun x hx => ⟨_, rfl, ?_, fun _ => rfl⟩]
    · rw [List.filter_eq_nil_iff.mpr fun x hx => by rw [hin x hx]; exact Bool.false_ne_true]
      rfl
    · simp only [evCond, evE, evEsB, bor, Tg.slots, wipeE, List.set_cons_zero, List.set_cons_succ, List.getElem?_cons_zero, List.getElem?_cons_succ, bind_ok, bin_sub, hr, flatD, Bool.true_or, if_true, tru_bool]
  have c2 : evE (evFn fns m) [.val (.int n), .val (encK c), .un, .un, .un] (.comp (.cst (.int 1)) (.many [3, 4]) (.zip (.var 1) (.cut (.var 1) (.some (.cst (.int 1))) .none)) (.some (.cmp .ge (.var 3) (.var 4)))) = .ok (.list []) := by
    rw [comp_ev (enc := fun q : Int × Int => PyData.tuple [.int q.1, .int q.2]) (l := c.zip (c.drop 1)) (fun q => decide (q.2 ≤ q.1)) (fun _ => PyData.int 1) (by
      simp only [evIt, evE, evEo, intO, bor, List.getElem?_cons_zero, List.getElem?_cons_succ, bind_ok]
      rw [show dCut (encK c) (some 1) none = .ok (.tuple (cutL (c.map PyData.int) (some 1) none)) from rfl, cut1, ← List.map_drop]
      show R.ok (((c.map PyData.int).zip ((c.drop 1).map PyData.int)).map fun p => PyData.tuple [p.1, p.2]) = _
      rw [zip_enc]) fun q hq => ⟨_, bind2, ?_, fun _ => by unfold evE; rfl⟩]
    · rw [List.filter_eq_nil_iff.mpr fun q hq => by
        have := pair_zip (fun a b => decide (a < b)) ((subs_inc hc).imp fun h => decide_eq_true h) q hq
        have := of_decide_eq_true this
        rw [decide_eq_true_eq]
        omega]
      rfl
    · simp only [evCond, evE, bor, Tg.slots, wipeE, List.set_cons_zero, List.set_cons_succ, List.getElem?_cons_zero, List.getElem?_cons_succ, bind_ok, cmp_ge, tru_bool]
  rw [ite_step (k := false) (by
    unfold evE
    simp only [bor]
    rw [c1]
    simp only [evE, evEsB, bor, List.getElem?_cons_zero, List.getElem?_cons_succ, bind_ok, dBi, one, dIsi, isiD, encK, tru_bool, Bool.not_true, if_false, Bool.false_eq_true, tru_list, List.isEmpty_nil])]
  simp only [if_false, Bool.false_eq_true, nil_step, seqR_next]
  rw [ret_step (d := .bool true) (by
    unfold evE
    simp only [bor]
    rw [c2]
    rfl)]
  rfl
theorem is_game_ok (h : fns[i]? = some (F_is_game i1 i2 i3)) (h1 : fns[i1]? = some F_in_range) (h2 : fns[i2]? = some (F_is_coalition i1)) (h3 : fns[i3]? = some F_is_subset) {n : Nat} {ms : List (List Int)} (hn : 1 ≤ n) (hn2 : n ≤ 6) (G : Game n ms) : At fns 3 i [gameD n ms] (.ok (.bool true)) := by
  refine At.mk h rfl fun m hm => ?_
  have hr : ∀ v lo hi : Int, evFn fns m i1 [.int v, .int lo, .int hi] = .ok (.bool (decide (lo ≤ v ∧ v ≤ hi))) := fun v lo hi => in_range_ok h1 v lo hi m (by omega)
  have hco : ∀ c ∈ ms, evFn fns m i2 [.int n, encK c] = .ok (.bool true) := fun c hc => is_coalition_ok h2 h1 n c (G.mem c hc).1 m hm
  have hsu : ∀ l r, evFn fns m i3 [encK l, encK r] = .ok (.bool (subB l r)) := fun l r => is_subset_ok h3 l r m (by omega)
  show fin' (evSs (evFn fns m) [.val (gameD n ms), .un, .un, .un] (F_is_game i1 i2 i3).body) = _
  unfold F_is_game
  dsimp only
  have b1 : decide ((1 : Int) ≤ n ∧ (n : Int) ≤ 6) = true := decide_eq_true (by omega)
  have k1 : dBi (.isi .tuple) [gameD n ms] = .ok (.bool true) := rfl
  have k2 : dBi (.isi .tuple) [.tuple (ms.map encK)] = .ok (.bool true) := rfl
  have k3 : dBi .len [gameD n ms] = .ok (.int 2) := rfl
  rw [ite_step (k := false) (by
    simp only [evE, evEsB, bor, List.getElem?_cons_zero, List.getElem?_cons_succ, bind_ok, k1, k3, tru_bool, Bool.not_true, if_false, Bool.false_eq_true, cmp_ne, decide_true, idx0, hr, b1, flatD, Bool.true_or, if_true])]
  simp only [if_false, Bool.false_eq_true, nil_step, seqR_next]
  have c1 : evE (evFn fns m) [.val (gameD n ms), .un, .un, .un] (.comp (.var 1) (.one 1) (.seq (.idx (.var 0) (.cst (.int 1)))) (.some (.not (.call i2 (.cons (.idx (.var 0) (.cst (.int 0))) (.cons (.var 1) .nil)))))) = .ok (.list []) := by
    rw [comp_ev (enc := encK) (l := ms) (fun _ => false) encK (by
      simp only [evIt, evE, bor, List.getElem?_cons_zero, List.getElem?_cons_succ, bind_ok, idx1, itemsOf]) fun x hx => ⟨_, rfl, ?_, fun z => by cases z⟩]
    · rw [List.filter_eq_nil_iff.mpr fun x hx => Bool.false_ne_true]
      rfl
    · simp only [evCond, evE, evEsB, bor, Tg.slots, wipeE, List.set_cons_zero, List.set_cons_succ, List.getElem?_cons_zero, List.getElem?_cons_succ, bind_ok, idx0, hco x hx, flatD, Bool.true_or, if_true, tru_bool, Bool.not_true]
  rw [ite_step (k := false) (by
    unfold evE
    simp only [bor]
    rw [c1]
    simp only [evE, evEsB, bor, List.getElem?_cons_zero, List.getElem?_cons_succ, bind_ok, idx1, k2, tru_bool, Bool.not_true, if_false, Bool.false_eq_true, tru_list, List.isEmpty_nil])]
  simp only [if_false, Bool.false_eq_true, nil_step, seqR_next]
  have c2 : evE (evFn fns m) [.val (gameD n ms), .un, .un, .un] (.comp (.cst (.int 1)) (.many [2, 3]) (.zip (.idx (.var 0) (.cst (.int 1))) (.cut (.idx (.var 0) (.cst (.int 1))) (.some (.cst (.int 1))) .none)) (.some (.cmp .ge (.var 2) (.var 3)))) = .ok (.list []) := by
    rw [comp_ev (enc := fun q : List Int × List Int => PyData.tuple [encK q.1, encK q.2]) (l := ms.zip (ms.drop 1)) (fun q => !decide (q.1 < q.2)) (fun _ => PyData.int 1) (by
      simp only [evIt, evE, evEo, intO, bor, List.getElem?_cons_zero, List.getElem?_cons_succ, bind_ok, idx1]
      rw [show dCut (.tuple (ms.map encK)) (some 1) none = .ok (.tuple (cutL (ms.map encK) (some 1) none)) from rfl, cut1, ← List.map_drop]
      show R.ok (((ms.map encK).zip ((ms.drop 1).map encK)).map fun p => PyData.tuple [p.1, p.2]) = _
      rw [zip_enc]) fun q hq => ⟨_, bind2, ?_, fun _ => by unfold evE; rfl⟩]
    · rw [List.filter_eq_nil_iff.mpr fun q hq => by
        have := pair_zip (fun a b => decide (a < b)) (G.inc.imp fun h => decide_eq_true h) q hq
        rw [this]
        exact Bool.false_ne_true]
      rfl
    · simp only [evCond, evE, bor, Tg.slots, wipeE, List.set_cons_zero, List.set_cons_succ, List.getElem?_cons_zero, List.getElem?_cons_succ, bind_ok, cmp_geK, tru_bool]
  have c3 : dCmp .isin (.tuple []) (.tuple (ms.map encK)) = .ok (.bool false) := by
    have e1 : okIn (.tuple []) (ms.map encK) = true := by
      unfold okIn
      rw [plain_Ks]
      have := depth_Ks ms
      simp [PyData.plain, PyData.plainAll, PyData.depth, PyData.depthAll]
      omega
    have e2 : ((ms.map encK).any fun z => PyData.eqv z (.tuple [])) = false := by
      rw [List.any_map, List.any_eq_false]
      intro x hx
      show ¬ PyData.eqv (encK x) (encK []) = true
      rw [eqv_K, decide_eq_true_eq]
      exact (G.mem x hx).2
    show (if okIn (.tuple []) (ms.map encK) = true then R.ok ((ms.map encK).any fun z => PyData.eqv z (.tuple [])) else .bad).bind _ = _
    rw [if_pos e1, e2]
    rfl
  have c4 : (ms.map encK).isEmpty = false := by
    rw [List.isEmpty_map]
    cases ms with
    | nil => exact absurd rfl G.ne
    | cons _ _ => rfl
  rw [ite_step (k := false) (by
    unfold evE
    simp only [bor]
    rw [show evE (evFn fns m) [.val (gameD n ms), .un, .un, .un] (.or (.cmp .isin (.tup .nil) (.idx (.var 0) (.cst (.int 1)))) (.comp (.cst (.int 1)) (.many [2, 3]) (.zip (.idx (.var 0) (.cst (.int 1))) (.cut (.idx (.var 0) (.cst (.int 1))) (.some (.cst (.int 1))) .none)) (.some (.cmp .ge (.var 2) (.var 3))))) = .ok (.list []) by
      unfold evE
      rw [c2]
      simp only [evE, evEs, bor, List.getElem?_cons_zero, List.getElem?_cons_succ, bind_ok, idx1, c3, tru_bool, if_false, Bool.false_eq_true]]
    simp only [evE, bor, List.getElem?_cons_zero, List.getElem?_cons_succ, bind_ok, idx1, tru_tuple, c4, tru_bool, Bool.not_false, Bool.not_true, if_false, Bool.false_eq_true, tru_list, List.isEmpty_nil])]
  simp only [if_false, Bool.false_eq_true, nil_step, seqR_next]
  have c5 : (ms.flatMap fun a => (ms.filter fun b => !decide (a = b) && subB a b).map fun _ => PyData.int 1) = [] := by
    rw [List.flatMap_eq_nil_iff]
    intro a ha
    rw [List.map_eq_nil_iff, List.filter_eq_nil_iff]
    intro b hb z
    rw [Bool.and_eq_true, Bool.not_eq_true', decide_eq_false_iff_not] at z
    exact G.anti a ha b hb z.1 (subB_iff.mp z.2)
  rw [ret_step (d := .bool true) (by
    unfold evE
    simp only [bor]
    rw [comp2_ev (enc := encK) (enc2 := encK) (l := ms) (l2 := fun _ => ms) (fun a b => !decide (a = b) && subB a b) (fun _ _ => PyData.int 1) (by
      simp only [evIt, evE, bor, List.getElem?_cons_zero, List.getElem?_cons_succ, bind_ok, idx1, itemsOf]) (fun a ha => ⟨_, rfl, by unfold evCond; rfl, rfl, by
      simp only [evIt, evE, bor, Tg.slots, wipeE, List.cons_append, List.nil_append, List.set_cons_zero, List.set_cons_succ, List.getElem?_cons_zero, List.getElem?_cons_succ, bind_ok, idx1, itemsOf], fun b hb => ⟨_, rfl, by
        simp only [evCond, evE, evEsB, bor, Tg.slots, wipeE, List.cons_append, List.nil_append, List.set_cons_zero, List.set_cons_succ, List.getElem?_cons_zero, List.getElem?_cons_succ, bind_ok, cmp_neK, tru_bool, hsu, flatD, Bool.true_or, if_true]
        by_cases e : a = b <;> simp [e], fun _ => by unfold evE; rfl⟩⟩) (by rw [c5]; exact Nat.zero_le _), c5]
    rfl)]
  rfl
theorem check_game_ok (h : fns[i]? = some (F_check_game j)) (hj : fns[j]? = some (F_is_game i1 i2 i3)) (h1 : fns[i1]? = some F_in_range) (h2 : fns[i2]? = some (F_is_coalition i1)) (h3 : fns[i3]? = some F_is_subset) {n : Nat} {ms : List (List Int)} (hn : 1 ≤ n) (hn2 : n ≤ 6) (G : Game n ms) : At fns 4 i [gameD n ms] (.ok .none) := by
  refine At.mk h rfl fun m hm => ?_
  have hg := is_game_ok hj h1 h2 h3 hn hn2 G m hm
  show fin' (evSs (evFn fns m) [.val (gameD n ms)] (F_check_game j).body) = _
  unfold F_check_game
  dsimp only
  rw [ite_step (k := false) (by
    simp only [evE, evEsB, bor, List.getElem?_cons_zero, bind_ok, hg, flatD, Bool.true_or, if_true, tru_bool, Bool.not_true])]
  simp only [if_false, Bool.false_eq_true, nil_step, seqR_next]
  rfl
end
end Qw

set_option Elab.async false
set_option linter.all false
set_option maxRecDepth 100000
set_option maxHeartbeats 2000000
/-! The program's defs at valid games: swings, pivots, duals, players. By an AI agent. -/
namespace Qw
open PySem L2
/-- a loop that appends to an owned list under a condition -/
theorem seq_filter {α γ : Type} {enc : α → D} {l : List α} {tg : Tg} {body : Env → Res} {K : Env → Res} {r : R D} (p : α → Bool) (f : α → D) (mk : List D → γ → Env) {g0 : γ} (hl : l.length < LIM)
    (hs : ∀ a ∈ l, ∀ (acc : List D) (g : γ), acc.length < LIM → ∃ ρ1 g', bindTg tg (enc a) (mk acc g) = some ρ1 ∧ body ρ1 = .next (mk (if p a = true then acc ++ [f a] else acc) g'))
    (hk : ∀ g, fin' (K (mk ((l.filter p).map f) g)) = r) : fin' (seqR (forLoop tg body (l.map enc) (mk [] g0)) K) = r := by
  refine seq_list (fun j ρ => ∃ g, ρ = mk (((l.take j).filter p).map f) g) ⟨g0, rfl⟩ (fun t a ht ρ ⟨g, hρ⟩ => ?_) fun ρ' ⟨g, hρ⟩ => ?_
  · subst hρ
    have hL : (((l.take t).filter p).map f).length < LIM := by
      rw [List.length_map]
      exact Nat.lt_of_le_of_lt (Nat.le_trans (List.length_filter_le _ _) (List.length_take_le' _ _)) hl
    obtain ⟨ρ1, g', h1, h2⟩ := hs a (List.mem_of_getElem? ht) _ g hL
    refine ⟨ρ1, _, h1, h2, g', ?_⟩
    rw [take_filter ht, List.map_append]
    cases p a <;> simp
  · subst hρ
    rw [List.take_length]
    exact hk g
def swB' (ms : List (List Int)) (p : Int) (c : List Int) : Bool := !decide (p ∈ c) && (!winB ms c && winB ms (sortI (c ++ [p])))
def sizes (n : Nat) (ms : List (List Int)) (p : Int) : List Int := ((allC n).filter (swB' ms p)).map fun c => (c.length : Int)
theorem allC_lim {n : Nat} (hn : n ≤ 6) : (allC n).length < LIM := by
  rw [allC_len]
  exact Nat.lt_of_le_of_lt (Nat.pow_le_pow_right (n := 2) (by omega) hn) (by decide)
theorem allC_small {n : Nat} {c : List Int} (hc : c ∈ allC n) : c.length ≤ n := subs_small (allC_mem.mp hc)
theorem notin_K (x : Int) (c : List Int) : dCmp .notin (.int x) (encK c) = .ok (.bool (!decide (x ∈ c))) := by
  show (dIn (.int x) (encK c)).bind _ = _
  rw [in_ints]
  rfl
theorem isin_K (x : Int) (c : List Int) : dCmp .isin (.int x) (encK c) = .ok (.bool (decide (x ∈ c))) := by
  show (dIn (.int x) (encK c)).bind _ = _
  rw [in_ints]
  rfl
theorem len_K (c : List Int) : dLen (encK c) = .ok (.int c.length) := by
  show R.ok (PyData.int ((c.map PyData.int).length : Int)) = _
  rw [List.length_map]
section
variable {fns : List Fn} {i j i1 i2 i3 a b c d e : Nat}
theorem swing_sizes_ok (h : fns[i]? = some (F_swing_sizes a b c)) (ha : fns[a]? = some F_all_coalitions) (hb : fns[b]? = some (F_is_winning d)) (hd : fns[d]? = some F_is_subset) (hc : fns[c]? = some F_with_player) {n : Nat} (ms : List (List Int)) (hn : n ≤ 6) (p : Int) :
    At fns 3 i [gameD n ms, .int p] (.ok (.list ((sizes n ms p).map .int))) := by
  refine At.mk h rfl fun m hm => ?_
  have h1 := all_coalitions_ok ha n (by omega) m (by omega)
  have h2 : ∀ x, evFn fns m b [gameD n ms, encK x] = .ok (.bool (winB ms x)) := fun x => is_winning_ok hb hd n ms x m hm
  have h3 : ∀ x : List Int, x.length < 1000 → evFn fns m c [encK x, .int p] = .ok (encK (sortI (x ++ [p]))) := fun x hx => with_player_ok hc x p hx m (by omega)
  show fin' (evSs (evFn fns m) [.val (gameD n ms), .val (.int p), .un, .un] (F_swing_sizes a b c).body) = _
  unfold F_swing_sizes
  dsimp only
  rw [own_step rfl (ds := []) (by simp only [evE, evEs, bind_ok]), for_step rfl (ds := (allC n).map encK) (by
    simp only [evIt, evE, evEsB, bor, List.set_cons_zero, List.set_cons_succ, List.getElem?_cons_zero, List.getElem?_cons_succ, bind_ok, idx0, h1]
    rfl)]
  refine seq_filter (swB' ms p) (fun c => PyData.int c.length) (fun acc g => [.val (gameD n ms), .val (.int p), .own acc, g]) (g0 := .un) (allC_lim hn) (fun x hx acc g hL => ⟨_, .val (encK x), rfl, ?_⟩) fun g => ?_
  · have hx3 := h3 x (by have := allC_small hx; omega)
    simp only [List.set_cons_zero, List.set_cons_succ]
    rw [ite_step (k := !decide (p ∈ x) && !winB ms x) (by
      simp only [evE, evEsB, bor, List.getElem?_cons_zero, List.getElem?_cons_succ, bind_ok, notin_K, tru_bool, h2, flatD, Bool.true_or, if_true]
      by_cases z : p ∈ x <;> simp [z])]
    unfold swB'
    cases hb1 : (!decide (p ∈ x) && !winB ms x) with
    | false =>
      rw [← Bool.and_assoc, hb1]
      simp only [Bool.false_and, if_false, Bool.false_eq_true, nil_step, seqR_next]
    | true =>
      rw [← Bool.and_assoc, hb1]
      simp only [Bool.true_and, if_true]
      rw [ite_step (k := winB ms (sortI (x ++ [p]))) (by
        simp only [evE, evEsB, bor, List.getElem?_cons_zero, List.getElem?_cons_succ, bind_ok, hx3, flatD, anyOwn, isOwn, Bool.or_self, Bool.not_false, Bool.or_true, if_true, h2, Bool.true_or, tru_bool])]
      cases winB ms (sortI (x ++ [p])) with
      | false => simp only [if_false, Bool.false_eq_true, nil_step, seqR_next]
      | true =>
        simp only [if_true]
        rw [app_step (d := .int x.length) rfl (by
          simp only [evE, evEsB, bor, List.getElem?_cons_zero, List.getElem?_cons_succ, bind_ok, dBi, one, len_K]) hL]
        simp only [List.set_cons_zero, List.set_cons_succ, nil_step, seqR_next]
  · rw [rel_step]
    simp only [relE, List.getElem?_cons_zero, List.getElem?_cons_succ, List.set_cons_zero, List.set_cons_succ]
    rw [ret_step (d := .list ((sizes n ms p).map .int)) (by
      simp only [evE, List.getElem?_cons_zero, List.getElem?_cons_succ]
      unfold sizes
      rw [List.map_map]
      rfl)]
    rfl
theorem swings_ok (h : fns[i]? = some (F_swings j e)) (hj : ∀ m, 4 ≤ m → ∀ ms n, Game n ms → 1 ≤ n → n ≤ 6 → evFn fns m j [gameD n ms] = .ok .none)
    (he : fns[e]? = some (F_swing_sizes a b c)) (ha : fns[a]? = some F_all_coalitions) (hb : fns[b]? = some (F_is_winning d)) (hd : fns[d]? = some F_is_subset) (hc : fns[c]? = some F_with_player) {n : Nat} {ms : List (List Int)} (G : Game n ms) (h1 : 1 ≤ n) (hn : n ≤ 6) :
    At fns 5 i [gameD n ms] (.ok (.tuple ((rng n).map fun p => .int (sizes n ms p).length))) := by
  refine At.mk h rfl fun m hm => ?_
  have hs : ∀ p, evFn fns m e [gameD n ms, .int p] = .ok (.list ((sizes n ms p).map .int)) := fun p => swing_sizes_ok he ha hb hd hc ms hn p m (by omega)
  have hr : -1000000 ≤ (n : Int) ∧ (n : Int) ≤ 1000000 := by omega
  show fin' (evSs (evFn fns m) [.val (gameD n ms), .un] (F_swings j e).body) = _
  unfold F_swings
  dsimp only
  rw [expr_step (d := .none) (by
    simp only [evE, evEsB, bor, List.getElem?_cons_zero, bind_ok, hj m hm ms n G h1 hn]
    rfl)]
  rw [ret_step (d := .tuple ((rng n).map fun p => .int (sizes n ms p).length)) (by
    unfold evE
    unfold evEsB
    rw [comp_evM (enc := PyData.int) (l := rng n) (fun p => PyData.int (sizes n ms p).length) (by
      simp only [evIt, evE, bor, List.getElem?_cons_zero, bind_ok, idx0, hr, and_self, if_true, rangeD_rng, Int.toNat_natCast]) fun p hp => ⟨_, rfl, by
      simp only [evE, evEsB, bor, Tg.slots, wipeE, List.set_cons_zero, List.set_cons_succ, List.getElem?_cons_zero, List.getElem?_cons_succ, bind_ok, hs, anyOwn, isOwn, Bool.or_self, Bool.not_false, Bool.or_true, if_true, dBi, one, dLen, List.length_map]⟩]
    simp only [evEsB, bor, bind_ok, dBi, one, dTuple, itemsOf])]
  rfl
def factN : Nat → Nat
  | 0 => 1
  | n + 1 => (n + 1) * factN n
theorem factorial_ok (h : fns[i]? = some F_factorial) (k : Nat) (hk : k ≤ 6) : At fns 1 i [.int k] (.ok (.int (factN k))) := by
  refine At.mk h rfl fun m _ => ?_
  match k, hk with
  | 0, _ => rfl
  | 1, _ => rfl
  | 2, _ => rfl
  | 3, _ => rfl
  | 4, _ => rfl
  | 5, _ => rfl
  | 6, _ => rfl
end
end Qw

set_option Elab.async false
set_option linter.all false
set_option maxRecDepth 100000
set_option maxHeartbeats 2000000
/-! The program's defs at valid games: pivots, duals, players. By an AI agent. -/
namespace Qw
open PySem L2
theorem sizes_lt {n : Nat} {ms : List (List Int)} {p : Int} (hp : p ∈ rng n) {s : Int} (hs : s ∈ sizes n ms p) : 0 ≤ s ∧ s ≤ n - 1 := by
  unfold sizes at hs
  obtain ⟨c, hc, rfl⟩ := List.mem_map.mp hs
  obtain ⟨h1, h2⟩ := List.mem_filter.mp hc
  have hc' := allC_mem.mp h1
  unfold swB' at h2
  rw [Bool.and_eq_true, Bool.not_eq_true', decide_eq_false_iff_not] at h2
  have := inc_len (subs_inc hc') (rng_inc n) (fun x hx => rng_mem.mpr (subs_lt hc' x hx)) (fun z => h2.1 (z ▸ hp))
  have hl : (rng n).length = n := by unfold rng; simp
  omega
def pivs (n : Nat) (ms : List (List Int)) (p : Int) : Int := ((sizes n ms p).map fun s => (factN s.toNat : Int) * (factN (n - 1 - s.toNat) : Int)).sum
def outs (n : Nat) (c : List Int) : List Int := (rng n).filter fun p => !decide (p ∈ c)
def mlB (n : Nat) (ms : List (List Int)) (c : List Int) : Bool := !winB ms c && (outs n c).all fun p => winB ms (sortI (c ++ [p]))
def maxL (n : Nat) (ms : List (List Int)) : List (List Int) := (allC n).filter (mlB n ms)
def dualK (n : Nat) (ms : List (List Int)) : List (List Int) := sortK ((maxL n ms).map (outs n))
def domB (n : Nat) (ms : List (List Int)) (l r : Int) : Bool := (allC n).all fun c => !(!decide (l ∈ c) && (!decide (r ∈ c) && winB ms (sortI (c ++ [r])))) || winB ms (sortI (c ++ [l]))
theorem factN_le : ∀ {k : Nat}, k ≤ 6 → factN k ≤ 720
  | 0, _ => by decide
  | 1, _ => by decide
  | 2, _ => by decide
  | 3, _ => by decide
  | 4, _ => by decide
  | 5, _ => by decide
  | 6, _ => by decide
  | _ + 7, h => by omega
theorem mulOk_fact {k : Nat} {b : Int} (h : k ≤ 6) : mulOk (factN k : Int) b = true := by
  have h1 := factN_le h
  have h2 : (factN k : Int) ≤ 720 := by exact_mod_cast h1
  have h3 : (0 : Int) ≤ factN k := Int.natCast_nonneg _
  refine mulOk_l _ _ ⟨Int.lt_of_lt_of_le (by decide) h3, Int.lt_of_le_of_lt h2 (by decide)⟩
theorem bin_ev {call : Nat → List D → R D} {ρ : Env} {op : BOp} {a b : E} {x y z : D} (h1 : bor ρ a (evE call ρ a) = .ok x) (h2 : bor ρ b (evE call ρ b) = .ok y) (h3 : dBin op x y = .ok z) : evE call ρ (.bin op a b) = .ok z := by
  conv => lhs; unfold evE
  rw [h1, bind_ok, h2, bind_ok, h3]
theorem cmp_ev {call : Nat → List D → R D} {ρ : Env} {op : COp} {a b : E} {x y z : D} (h1 : bor ρ a (evE call ρ a) = .ok x) (h2 : bor ρ b (evE call ρ b) = .ok y) (h3 : dCmp op x y = .ok z) : evE call ρ (.cmp op a b) = .ok z := by
  conv => lhs; unfold evE
  rw [h1, bind_ok, h2, bind_ok, h3]
/-- a loop that may return -/
theorem seq_find {α γ : Type} {enc : α → D} {tg : Tg} {body : Env → Res} {K : Env → Res} {r : R D} (p : α → Bool) (mk : γ → Env) (x : D) (hk : ∀ g, fin' (K (mk g)) = r) : ∀ {l : List α} {g0 : γ},
    (∀ a ∈ l, ∀ g : γ, ∃ ρ1, bindTg tg (enc a) (mk g) = some ρ1 ∧ (p a = true → ∃ g', body ρ1 = .next (mk g')) ∧ (p a = false → body ρ1 = .ret x)) → fin' (seqR (forLoop tg body (l.map enc) (mk g0)) K) = if l.all p = true then r else .ok x
  | [], g0, _ => by
    show fin' (K (mk g0)) = _
    rw [hk]
    rfl
  | a :: l, g0, hs => by
    obtain ⟨ρ1, h1, h2, h3⟩ := hs a List.mem_cons_self g0
    rw [List.map_cons]
    unfold forLoop
    rw [h1]
    dsimp only
    cases hp : p a with
    | true =>
      obtain ⟨g', h4⟩ := h2 hp
      rw [h4, seqR_next, seq_find p mk x hk fun b hb => hs b (List.mem_cons_of_mem _ hb)]
      simp [hp]
    | false =>
      rw [h3 hp]
      simp [hp]
section
variable {fns : List Fn} {i j i1 i2 i3 a b c d e f : Nat}
theorem pivots_ok (h : fns[i]? = some (F_pivots j e f)) (hj : ∀ m, 4 ≤ m → ∀ ms n, Game n ms → 1 ≤ n → n ≤ 6 → evFn fns m j [gameD n ms] = .ok .none) (hf : fns[f]? = some F_factorial)
    (he : fns[e]? = some (F_swing_sizes a b c)) (ha : fns[a]? = some F_all_coalitions) (hb : fns[b]? = some (F_is_winning d)) (hd : fns[d]? = some F_is_subset) (hc : fns[c]? = some F_with_player) {n : Nat} {ms : List (List Int)} (G : Game n ms) (h1 : 1 ≤ n) (hn : n ≤ 6) :
    At fns 5 i [gameD n ms] (.ok (.tuple ((rng n).map fun p => .int (pivs n ms p)))) := by
  refine At.mk h rfl fun m hm => ?_
  have hs : ∀ p, evFn fns m e [gameD n ms, .int p] = .ok (.list ((sizes n ms p).map .int)) := fun p => swing_sizes_ok he ha hb hd hc ms hn p m (by omega)
  have hfa : ∀ k : Nat, k ≤ 6 → evFn fns m f [.int k] = .ok (.int (factN k)) := fun k hk => factorial_ok hf k hk m (by omega)
  have hr : -1000000 ≤ (n : Int) ∧ (n : Int) ≤ 1000000 := by omega
  show fin' (evSs (evFn fns m) [.val (gameD n ms), .un, .un, .un, .un] (F_pivots j e f).body) = _
  unfold F_pivots
  dsimp only
  rw [expr_step (d := .none) (by
    simp only [evE, evEsB, bor, List.getElem?_cons_zero, bind_ok, hj m hm ms n G h1 hn]
    rfl)]
  rw [own_step rfl (ds := []) (by simp only [evE, evEs, bind_ok]), for_step rfl (ds := (rng n).map PyData.int) (by
    simp only [evIt, evE, bor, List.set_cons_zero, List.set_cons_succ, List.getElem?_cons_zero, bind_ok, idx0, hr, and_self, if_true, rangeD_rng, Int.toNat_natCast])]
  refine seq_filter (fun _ => true) (fun p => PyData.int (pivs n ms p)) (fun acc (g : Cell × Cell) => [.val (gameD n ms), .own acc, g.1, g.2, .un]) (g0 := (.un, .un)) (by
    unfold rng
    rw [List.length_map, List.length_range]
    show n < 100000
    omega) (fun p hp acc g hL => ⟨_, (.val (.int p), .val (.list ((sizes n ms p).map .int))), rfl, ?_⟩) fun g => ?_
  · simp only [List.set_cons_zero, List.set_cons_succ]
    rw [asg_step (call_ev (ds := [gameD n ms, .int p]) rfl (hs p) rfl)]
    simp only [List.set_cons_zero, List.set_cons_succ]
    rw [app_step (es := acc) (d := .int (pivs n ms p)) rfl (by
      unfold evE
      unfold evEsB
      rw [comp_evM (enc := PyData.int) (l := sizes n ms p) (fun s => PyData.int ((factN s.toNat : Int) * (factN (n - 1 - s.toNat) : Int))) (by
        simp only [evIt, evE, bor, List.getElem?_cons_zero, List.getElem?_cons_succ, bind_ok, itemsOf]) fun s hs' => ⟨_, rfl, by
          obtain ⟨z1, z2⟩ := sizes_lt hp hs'
          have e1 : s = ((s.toNat : Nat) : Int) := by omega
          have e2 : ((n : Int) - 1 - s) = ((n - 1 - s.toNat : Nat) : Int) := by omega
          have f1 := hfa s.toNat (by omega)
          have f2 := hfa (n - 1 - s.toNat) (by omega)
          rw [← e1] at f1
          exact bin_ev (x := .int (factN s.toNat)) (y := .int (factN (n - 1 - s.toNat))) (by
            simp only [evE, evEsB, bor, Tg.slots, wipeE, List.set_cons_zero, List.set_cons_succ, List.getElem?_cons_zero, List.getElem?_cons_succ, bind_ok, f1, flatD, Bool.true_or, if_true]) (by
            simp only [evE, evEsB, bor, Tg.slots, wipeE, List.set_cons_zero, List.set_cons_succ, List.getElem?_cons_zero, List.getElem?_cons_succ, bind_ok, idx0, bin_sub, e2, f2, flatD, Bool.true_or, if_true]) (bin_mul _ _ (mulOk_fact (by omega)))⟩]
      have e9 : (sizes n ms p).map (fun s => PyData.int ((factN s.toNat : Int) * (factN (n - 1 - s.toNat) : Int))) = ((sizes n ms p).map fun s => (factN s.toNat : Int) * (factN (n - 1 - s.toNat) : Int)).map PyData.int := by rw [List.map_map]; rfl
      simp only [evEsB, bor, bind_ok, dBi, one]
      rw [e9, sum_L, pivs]) hL]
    simp only [List.set_cons_zero, List.set_cons_succ, nil_step, if_true]
  · rw [ret_step (d := .tuple ((rng n).map fun p => .int (pivs n ms p))) (by
      simp only [evE, evEsB, bor, List.getElem?_cons_zero, List.getElem?_cons_succ, bind_ok, dBi, one, dTuple, itemsOf]
      rw [List.filter_eq_self.mpr fun _ _ => rfl])]
    rfl
end
end Qw

set_option Elab.async false
set_option linter.all false
set_option maxRecDepth 100000
set_option maxHeartbeats 2000000
/-! The program's defs at valid games: duals, players. By an AI agent. -/
namespace Qw
open PySem L2
section
variable {fns : List Fn} {i j i1 i2 i3 a b c d e f : Nat}
theorem maximal_losing_ok (h : fns[i]? = some (F_maximal_losing_of a b c e)) (ha : fns[a]? = some F_all_coalitions) (hb : fns[b]? = some (F_is_winning d)) (hd : fns[d]? = some F_is_subset) (hc : fns[c]? = some F_with_player) (he : fns[e]? = some F_outsiders) {n : Nat} (ms : List (List Int)) (hn : n ≤ 6) :
    At fns 3 i [gameD n ms] (.ok (.list ((maxL n ms).map encK))) := by
  refine At.mk h rfl fun m hm => ?_
  have h1 := all_coalitions_ok ha n (by omega) m (by omega)
  have h2 : ∀ x, evFn fns m b [gameD n ms, encK x] = .ok (.bool (winB ms x)) := fun x => is_winning_ok hb hd n ms x m hm
  have h3 : ∀ (x : List Int) (p : Int), x.length < 1000 → evFn fns m c [encK x, .int p] = .ok (encK (sortI (x ++ [p]))) := fun x p hx => with_player_ok hc x p hx m (by omega)
  have h4 : ∀ x, evFn fns m e [gameD n ms, encK x] = .ok (encK (outs n x)) := fun x => outsiders_ok he n (by omega) ms x m (by omega)
  show fin' (evSs (evFn fns m) [.val (gameD n ms), .un, .un, .un, .un, .un] (F_maximal_losing_of a b c e).body) = _
  unfold F_maximal_losing_of
  dsimp only
  rw [own_step rfl (ds := []) (by simp only [evE, evEs, bind_ok]), for_step rfl (ds := (allC n).map encK) (by
    simp only [evIt, evE, evEsB, bor, List.set_cons_zero, List.set_cons_succ, List.getElem?_cons_zero, List.getElem?_cons_succ, bind_ok, idx0, h1]
    rfl)]
  refine seq_filter (mlB n ms) encK (fun acc (g : Cell × Cell) => [.val (gameD n ms), .own acc, g.1, g.2, .un, .un]) (g0 := (.un, .un)) (allC_lim hn) (fun x hx acc g hL => ?_) fun g => ?_
  · have hx1 : x.length < 1000 := by have := allC_small hx; omega
    cases hw : winB ms x with
    | true =>
      refine ⟨_, (.val (encK x), g.2), rfl, ?_⟩
      simp only [List.set_cons_zero, List.set_cons_succ]
      rw [ite_step (k := false) (by
        simp only [evE, evEsB, bor, List.getElem?_cons_zero, List.getElem?_cons_succ, bind_ok, h2, hw, flatD, Bool.true_or, if_true, tru_bool, Bool.not_true])]
      unfold mlB
      rw [hw]
      simp only [if_false, Bool.false_eq_true, nil_step, seqR_next, Bool.not_true, Bool.false_and]
    | false =>
      refine ⟨_, (.val (encK x), .val (.list ((outs n x).map fun p => encK (sortI (x ++ [p]))))), rfl, ?_⟩
      simp only [List.set_cons_zero, List.set_cons_succ]
      rw [ite_step (k := true) (by
        simp only [evE, evEsB, bor, List.getElem?_cons_zero, List.getElem?_cons_succ, bind_ok, h2, hw, flatD, Bool.true_or, if_true, tru_bool, Bool.not_false])]
      simp only [if_true]
      rw [asg_step (comp_evM (enc := PyData.int) (l := outs n x) (fun p => encK (sortI (x ++ [p]))) (by
        simp only [evIt, evE, evEsB, bor, List.getElem?_cons_zero, List.getElem?_cons_succ, bind_ok, h4]
        rfl) fun p hp => ⟨_, rfl, by
          simp only [evE, evEsB, bor, Tg.slots, wipeE, List.set_cons_zero, List.set_cons_succ, List.getElem?_cons_zero, List.getElem?_cons_succ, bind_ok, h3 x p hx1, anyOwn, isOwn, Bool.or_self, Bool.not_false, Bool.or_true, if_true]⟩)]
      simp only [List.set_cons_zero, List.set_cons_succ]
      have e5 : (outs n x).map (fun p => encK (sortI (x ++ [p]))) = ((outs n x).map fun p => sortI (x ++ [p])).map encK := by rw [List.map_map]; rfl
      have c1 : evE (evFn fns m) [.val (gameD n ms), .own acc, .val (encK x), .val (.list ((outs n x).map fun p => encK (sortI (x ++ [p])))), .un, .un] (.comp (.var 5) (.one 5) (.seq (.var 3)) (.some (.not (.call b (.cons (.var 0) (.cons (.var 5) .nil)))))) = .ok (.list ((((outs n x).map fun p => sortI (x ++ [p])).filter fun y => !winB ms y).map encK)) := by
        rw [comp_ev (enc := encK) (l := (outs n x).map fun p => sortI (x ++ [p])) (fun y => !winB ms y) encK (by
          simp only [evIt, evE, bor, List.getElem?_cons_zero, List.getElem?_cons_succ, bind_ok, itemsOf, e5]) fun y hy => ⟨_, rfl, by
            simp only [evCond, evE, evEsB, bor, Tg.slots, wipeE, List.set_cons_zero, List.set_cons_succ, List.getElem?_cons_zero, List.getElem?_cons_succ, bind_ok, h2, flatD, Bool.true_or, if_true, tru_bool], fun _ => by
            simp only [evE, Tg.slots, wipeE, List.set_cons_zero, List.set_cons_succ, List.getElem?_cons_zero, List.getElem?_cons_succ]⟩]
      have e6 : ((((outs n x).map fun p => sortI (x ++ [p])).filter fun y => !winB ms y).map encK).isEmpty = mlB n ms x := by
        rw [List.isEmpty_map, filter_none, List.all_map]
        unfold mlB
        rw [hw]
        rfl
      rw [ite_step (k := mlB n ms x) (by
        unfold evE
        simp only [bor]
        rw [c1]
        simp only [bind_ok, tru_list, tru_bool, e6, Bool.not_not])]
      cases hml : mlB n ms x with
      | false => simp only [if_false, Bool.false_eq_true, nil_step, seqR_next]
      | true =>
        simp only [if_true]
        rw [app_step (es := acc) (d := encK x) rfl (by simp only [evE, List.getElem?_cons_zero, List.getElem?_cons_succ]) hL]
        simp only [List.set_cons_zero, List.set_cons_succ, nil_step, seqR_next]
  · rw [rel_step]
    simp only [relE, List.getElem?_cons_zero, List.getElem?_cons_succ, List.set_cons_zero, List.set_cons_succ]
    rw [ret_step (d := .list ((maxL n ms).map encK)) (by
      simp only [evE, List.getElem?_cons_zero, List.getElem?_cons_succ]
      rfl)]
    rfl
theorem dual_of_ok (h : fns[i]? = some (F_dual_of e j)) (he : fns[e]? = some F_outsiders) {n : Nat} {ms : List (List Int)} (hn : n ≤ 6) (hj : ∀ m, 3 ≤ m → evFn fns m j [gameD n ms] = .ok (.list ((maxL n ms).map encK))) : At fns 4 i [gameD n ms] (.ok (gameD n (dualK n ms))) := by
  refine At.mk h rfl fun m hm => ?_
  have h4 : ∀ x, evFn fns m e [gameD n ms, encK x] = .ok (encK (outs n x)) := fun x => outsiders_ok he n (by omega) ms x m (by omega)
  show fin' (evSs (evFn fns m) [.val (gameD n ms), .un] (F_dual_of e j).body) = _
  unfold F_dual_of
  dsimp only
  have c1 : evE (evFn fns m) [.val (gameD n ms), .un] (.comp (.call e (.cons (.var 0) (.cons (.var 1) .nil))) (.one 1) (.seq (.call j (.cons (.var 0) .nil))) .none) = .ok (.list (((maxL n ms).map (outs n)).map encK)) := by
    rw [comp_evM (enc := encK) (l := maxL n ms) (fun x => encK (outs n x)) (by
      simp only [evIt, evE, evEsB, bor, List.getElem?_cons_zero, bind_ok, hj m hm]
      rfl) fun x hx => ⟨_, rfl, by
        simp only [evE, evEsB, bor, Tg.slots, wipeE, List.set_cons_zero, List.set_cons_succ, List.getElem?_cons_zero, List.getElem?_cons_succ, bind_ok, h4, anyOwn, isOwn, Bool.or_self, Bool.not_false, Bool.or_true, if_true]⟩, List.map_map]
    rfl
  rw [ret_step (d := gameD n (dualK n ms)) (by
    have s1 : evE (evFn fns m) [.val (gameD n ms), .un] (.bi .sorted (.cons (.comp (.call e (.cons (.var 0) (.cons (.var 1) .nil))) (.one 1) (.seq (.call j (.cons (.var 0) .nil))) .none) .nil)) = .ok (.list ((dualK n ms).map encK)) := by
      unfold evE
      unfold evEsB
      rw [c1]
      simp only [evEsB, bor, bind_ok, dBi, one, sorted_Ks]
      rfl
    have s2 : evE (evFn fns m) [.val (gameD n ms), .un] (.bi .tuple (.cons (.bi .sorted (.cons (.comp (.call e (.cons (.var 0) (.cons (.var 1) .nil))) (.one 1) (.seq (.call j (.cons (.var 0) .nil))) .none) .nil)) .nil)) = .ok (.tuple ((dualK n ms).map encK)) := by
      unfold evE
      unfold evEsB
      rw [s1]
      simp only [evEsB, bor, bind_ok, dBi, one, dTuple, itemsOf]
    unfold evE
    unfold evEs
    rw [show evE (evFn fns m) [.val (gameD n ms), .un] (.idx (.var 0) (.cst (.int 0))) = .ok (.int n) by simp only [evE, bor, List.getElem?_cons_zero, bind_ok, idx0], bind_ok]
    unfold evEs
    rw [s2]
    simp only [evEs, bind_ok]
    rfl)]
  rfl
end
end Qw

set_option Elab.async false
set_option linter.all false
set_option maxRecDepth 100000
set_option maxHeartbeats 2000000
/-! The program's defs at valid games: players. By an AI agent. -/
namespace Qw
open PySem L2
/-- a def that checks a game answers None at valid games -/
def Chk (fns : List Fn) (j : Nat) : Prop := ∀ m, 4 ≤ m → ∀ ms n, Game n ms → 1 ≤ n → n ≤ 6 → evFn fns m j [gameD n ms] = .ok .none
section
variable {fns : List Fn} {i j i1 i2 i3 a b c d e f : Nat}
theorem chk_of (h : fns[i]? = some (F_check_game j)) (hj : fns[j]? = some (F_is_game i1 i2 i3)) (h1 : fns[i1]? = some F_in_range) (h2 : fns[i2]? = some (F_is_coalition i1)) (h3 : fns[i3]? = some F_is_subset) : Chk fns i := fun m hm ms n G hn hn2 => check_game_ok h hj h1 h2 h3 hn hn2 G m hm
theorem dual_ok (h : fns[i]? = some (F_dual j e)) (hj : Chk fns j) {n : Nat} {ms : List (List Int)} (G : Game n ms) (h1 : 1 ≤ n) (hn : n ≤ 6) (he : ∀ m, 4 ≤ m → evFn fns m e [gameD n ms] = .ok (gameD n (dualK n ms))) : At fns 5 i [gameD n ms] (.ok (gameD n (dualK n ms))) := by
  refine At.mk h rfl fun m hm => ?_
  show fin' (evSs (evFn fns m) [.val (gameD n ms)] (F_dual j e).body) = _
  unfold F_dual
  dsimp only
  rw [expr_step (d := .none) (by
    simp only [evE, evEsB, bor, List.getElem?_cons_zero, bind_ok, hj m hm ms n G h1 hn]
    rfl)]
  rw [ret_step (d := gameD n (dualK n ms)) (by
    simp only [evE, evEsB, bor, List.getElem?_cons_zero, bind_ok, he m hm]
    rfl)]
  rfl
def dumB (ms : List (List Int)) (p : Int) : Bool := !ms.any fun x => decide (p ∈ x)
theorem dummies_ok (h : fns[i]? = some (F_dummies j)) (hj : Chk fns j) {n : Nat} {ms : List (List Int)} (G : Game n ms) (h1 : 1 ≤ n) (hn : n ≤ 6) : At fns 5 i [gameD n ms] (.ok (.list (((rng n).filter (dumB ms)).map .int))) := by
  refine At.mk h rfl fun m hm => ?_
  have hr : -1000000 ≤ (n : Int) ∧ (n : Int) ≤ 1000000 := by omega
  show fin' (evSs (evFn fns m) [.val (gameD n ms), .un, .un] (F_dummies j).body) = _
  unfold F_dummies
  dsimp only
  rw [expr_step (d := .none) (by
    simp only [evE, evEsB, bor, List.getElem?_cons_zero, bind_ok, hj m hm ms n G h1 hn]
    rfl)]
  rw [ret_step (comp_ev (enc := PyData.int) (l := rng n) (dumB ms) PyData.int (by
    simp only [evIt, evE, bor, List.getElem?_cons_zero, bind_ok, idx0, hr, and_self, if_true, rangeD_rng, Int.toNat_natCast]) fun p hp => ⟨_, rfl, by
      unfold evCond
      unfold evE
      simp only [bor]
      rw [comp_ev (enc := encK) (l := ms) (fun x => decide (p ∈ x)) (fun _ => PyData.int 1) (by
        simp only [evIt, evE, bor, Tg.slots, wipeE, List.set_cons_zero, List.set_cons_succ, List.getElem?_cons_zero, bind_ok, idx1, itemsOf]) fun x hx => ⟨_, rfl, by
          simp only [evCond, evE, bor, Tg.slots, wipeE, List.set_cons_zero, List.set_cons_succ, List.getElem?_cons_zero, List.getElem?_cons_succ, bind_ok, isin_K, tru_bool], fun _ => by unfold evE; rfl⟩]
      simp only [bind_ok, tru_list, tru_bool, List.isEmpty_map, filter_any, Bool.not_not]
      rfl, fun _ => by simp only [evE, Tg.slots, wipeE, List.set_cons_zero, List.set_cons_succ, List.getElem?_cons_zero, List.getElem?_cons_succ]⟩)]
  rfl
theorem dominates_ok (h : fns[i]? = some (F_dominates a b c)) (ha : fns[a]? = some F_all_coalitions) (hb : fns[b]? = some (F_is_winning d)) (hd : fns[d]? = some F_is_subset) (hc : fns[c]? = some F_with_player) {n : Nat} (ms : List (List Int)) (hn : n ≤ 6) (l r : Int) :
    At fns 3 i [gameD n ms, .int l, .int r] (.ok (.bool (domB n ms l r))) := by
  refine At.mk h rfl fun m hm => ?_
  have h1 := all_coalitions_ok ha n (by omega) m (by omega)
  have h2 : ∀ x, evFn fns m b [gameD n ms, encK x] = .ok (.bool (winB ms x)) := fun x => is_winning_ok hb hd n ms x m hm
  have h3 : ∀ (x : List Int) (p : Int), x.length < 1000 → evFn fns m c [encK x, .int p] = .ok (encK (sortI (x ++ [p]))) := fun x p hx => with_player_ok hc x p hx m (by omega)
  show fin' (evSs (evFn fns m) [.val (gameD n ms), .val (.int l), .val (.int r), .un] (F_dominates a b c).body) = _
  unfold F_dominates
  dsimp only
  rw [for_step rfl (ds := (allC n).map encK) (by
    simp only [evIt, evE, evEsB, bor, List.getElem?_cons_zero, List.getElem?_cons_succ, bind_ok, idx0, h1]
    rfl)]
  rw [seq_find (fun c => !(!decide (l ∈ c) && (!decide (r ∈ c) && winB ms (sortI (c ++ [r])))) || winB ms (sortI (c ++ [l]))) (fun g : Cell => [.val (gameD n ms), .val (.int l), .val (.int r), g]) (.bool false) (r := .ok (.bool true)) (fun g => by
    rw [ret_step (d := .bool true) (by simp only [evE])]
    rfl) (l := allC n) (g0 := .un) fun x hx g => ?_]
  · unfold domB
    cases (allC n).all fun c => !(!decide (l ∈ c) && (!decide (r ∈ c) && winB ms (sortI (c ++ [r])))) || winB ms (sortI (c ++ [l])) <;> rfl
  · have hx1 : x.length < 1000 := by have := allC_small hx; omega
    have g1 : ∀ ss, evSs (evFn fns m) ([Cell.val (gameD n ms), .val (.int l), .val (.int r), g].set 3 (.val (encK x))) (.cons (.ite (.and (.cmp .notin (.var 1) (.var 3)) (.and (.cmp .notin (.var 2) (.var 3)) (.call b (.cons (.var 0) (.cons (.call c (.cons (.var 3) (.cons (.var 2) .nil))) .nil))))) ss .nil) .nil)
        = seqR (if (!decide (l ∈ x) && (!decide (r ∈ x) && winB ms (sortI (x ++ [r])))) = true then evSs (evFn fns m) [.val (gameD n ms), .val (.int l), .val (.int r), .val (encK x)] ss else .next [.val (gameD n ms), .val (.int l), .val (.int r), .val (encK x)]) .next := fun ss => by
      simp only [List.set_cons_zero, List.set_cons_succ]
      rw [ite_step (k := !decide (l ∈ x) && (!decide (r ∈ x) && winB ms (sortI (x ++ [r])))) (by
        simp only [evE, evEsB, bor, List.getElem?_cons_zero, List.getElem?_cons_succ, bind_ok, notin_K, tru_bool, h3 x r hx1, h2, flatD, anyOwn, isOwn, Bool.or_self, Bool.not_false, Bool.or_true, Bool.true_or, if_true]
        by_cases z : l ∈ x <;> by_cases z2 : r ∈ x <;> simp [z, z2])]
      simp only [nil_step]
    refine ⟨_, rfl, fun hp => ⟨.val (encK x), ?_⟩, fun hp => ?_⟩
    · rw [g1]
      cases hA : (!decide (l ∈ x) && (!decide (r ∈ x) && winB ms (sortI (x ++ [r])))) with
      | false => rfl
      | true =>
        rw [hA] at hp
        have hw : winB ms (sortI (x ++ [l])) = true := by simpa using hp
        rw [if_pos rfl, ite_step (k := false) (by
          simp only [evE, evEsB, bor, List.getElem?_cons_zero, List.getElem?_cons_succ, bind_ok, h3 x l hx1, h2, hw, flatD, anyOwn, isOwn, Bool.or_self, Bool.not_false, Bool.or_true, Bool.true_or, if_true, tru_bool, Bool.not_true])]
        simp only [if_false, Bool.false_eq_true, nil_step, seqR_next]
    · rw [g1]
      have hA : (!decide (l ∈ x) && (!decide (r ∈ x) && winB ms (sortI (x ++ [r])))) = true := by
        cases hA : (!decide (l ∈ x) && (!decide (r ∈ x) && winB ms (sortI (x ++ [r])))) with
        | true => rfl
        | false => rw [hA] at hp; cases hp
      have hw : winB ms (sortI (x ++ [l])) = false := by
        rw [hA] at hp
        simpa using hp
      rw [hA, if_pos rfl, ite_step (k := true) (by
        simp only [evE, evEsB, bor, List.getElem?_cons_zero, List.getElem?_cons_succ, bind_ok, h3 x l hx1, h2, hw, flatD, anyOwn, isOwn, Bool.or_self, Bool.not_false, Bool.or_true, Bool.true_or, if_true, tru_bool]), if_pos rfl, ret_step (d := .bool false) (by simp only [evE])]
      rfl
theorem check_player_ok (h : fns[i]? = some (F_check_player j e)) (hj : Chk fns j) (he : fns[e]? = some F_in_range) {n : Nat} {ms : List (List Int)} (G : Game n ms) (h1 : 1 ≤ n) (hn : n ≤ 6) {p : Int} (hp : p ∈ rng n) : At fns 5 i [gameD n ms, .int p] (.ok .none) := by
  refine At.mk h rfl fun m hm => ?_
  have hr : ∀ v lo hi : Int, evFn fns m e [.int v, .int lo, .int hi] = .ok (.bool (decide (lo ≤ v ∧ v ≤ hi))) := fun v lo hi => in_range_ok he v lo hi m (by omega)
  have b1 : decide ((0 : Int) ≤ p ∧ p ≤ (n : Int) - 1) = true := decide_eq_true (by have := rng_mem.mp hp; omega)
  show fin' (evSs (evFn fns m) [.val (gameD n ms), .val (.int p)] (F_check_player j e).body) = _
  unfold F_check_player
  dsimp only
  rw [expr_step (d := .none) (by
    simp only [evE, evEsB, bor, List.getElem?_cons_zero, bind_ok, hj m hm ms n G h1 hn]
    rfl)]
  rw [ite_step (k := false) (by
    simp only [evE, evEsB, bor, List.getElem?_cons_zero, List.getElem?_cons_succ, bind_ok, idx0, bin_sub, hr, b1, flatD, Bool.true_or, if_true, tru_bool, Bool.not_true])]
  simp only [if_false, Bool.false_eq_true, nil_step, seqR_next]
  rfl
theorem is_at_least_ok (h : fns[i]? = some (F_is_at_least j e)) {n : Nat} {ms : List (List Int)} {l r : Int} (hl : ∀ m, 5 ≤ m → evFn fns m j [gameD n ms, .int l] = .ok .none) (hr : ∀ m, 5 ≤ m → evFn fns m j [gameD n ms, .int r] = .ok .none)
    (he : ∀ m, 3 ≤ m → evFn fns m e [gameD n ms, .int l, .int r] = .ok (.bool (domB n ms l r))) : At fns 6 i [gameD n ms, .int l, .int r] (.ok (.bool (domB n ms l r))) := by
  refine At.mk h rfl fun m hm => ?_
  show fin' (evSs (evFn fns m) [.val (gameD n ms), .val (.int l), .val (.int r)] (F_is_at_least j e).body) = _
  unfold F_is_at_least
  dsimp only
  rw [expr_step (d := .none) (by
    simp only [evE, evEsB, bor, List.getElem?_cons_zero, List.getElem?_cons_succ, bind_ok, hl m hm]
    rfl)]
  rw [expr_step (d := .none) (by
    simp only [evE, evEsB, bor, List.getElem?_cons_zero, List.getElem?_cons_succ, bind_ok, hr m hm]
    rfl)]
  rw [ret_step (d := .bool (domB n ms l r)) (by
    simp only [evE, evEsB, bor, List.getElem?_cons_zero, List.getElem?_cons_succ, bind_ok, he m (by omega), flatD, Bool.true_or, if_true])]
  rfl
end
end Qw

set_option Elab.async false
set_option linter.all false
set_option maxRecDepth 100000
set_option maxHeartbeats 2000000
/-! Duals, in plain words. By an AI agent. -/
namespace Qw
open PySem L2
theorem mem_sortI {l : List Int} {x : Int} : x ∈ sortI l ↔ x ∈ l := (List.mergeSort_perm l _).mem_iff
theorem winB_congr {ms : List (List Int)} {a b : List Int} (h : ∀ x, x ∈ a ↔ x ∈ b) : winB ms a = winB ms b := by
  rw [Bool.eq_iff_iff, winB_iff, winB_iff]
  constructor
  · rintro ⟨m, h1, h2⟩; exact ⟨m, h1, fun x hx => (h x).mp (h2 x hx)⟩
  · rintro ⟨m, h1, h2⟩; exact ⟨m, h1, fun x hx => (h x).mpr (h2 x hx)⟩
theorem winB_mono {ms : List (List Int)} {a b : List Int} (h : ∀ x ∈ a, x ∈ b) (hw : winB ms a = true) : winB ms b = true := by
  obtain ⟨m, h1, h2⟩ := winB_iff.mp hw
  exact winB_iff.mpr ⟨m, h1, fun x hx => h x (h2 x hx)⟩
theorem winB_sort {ms : List (List Int)} {c : List Int} : winB ms (sortI c) = winB ms c := winB_congr fun x => mem_sortI
theorem sortI_inc {c : List Int} {p : Int} (hc : c.Pairwise (· < ·)) (hp : p ∉ c) : (sortI (c ++ [p])).Pairwise (· < ·) := by
  have h1 : (sortI (c ++ [p])).Pairwise fun a b => decide (a ≤ b) = true := List.pairwise_mergeSort (fun a b c h1 h2 => by rw [decide_eq_true_eq] at *; omega) (fun a b => by rw [Bool.or_eq_true, decide_eq_true_eq, decide_eq_true_eq]; omega) _
  have h2 : (sortI (c ++ [p])).Nodup := by
    refine (List.mergeSort_perm _ _).nodup_iff.mpr ?_
    rw [List.nodup_append]
    refine ⟨hc.imp fun h => by omega, List.pairwise_singleton _ _, fun a ha b hb e => ?_⟩
    rw [List.mem_singleton.mp hb] at e
    exact hp (e ▸ ha)
  refine (h1.and h2).imp fun {a b} ⟨z1, z2⟩ => ?_
  have := of_decide_eq_true z1
  have z2 : a ≠ b := z2
  omega
theorem with_subs {n : Nat} {c : List Int} {p : Int} (hc : c ∈ subs n) (hp : p ∈ rng n) (hn : p ∉ c) : sortI (c ++ [p]) ∈ subs n := by
  refine mem_subs (sortI_inc (subs_inc hc) hn) fun x hx => ?_
  rcases List.mem_append.mp (mem_sortI.mp hx) with z | z
  · exact subs_lt hc x z
  · rw [List.mem_singleton.mp z]; exact rng_mem.mp hp
theorem mem_outs {n : Nat} {c : List Int} {x : Int} : x ∈ outs n c ↔ x ∈ rng n ∧ x ∉ c := by
  unfold outs
  rw [List.mem_filter, Bool.not_eq_true', decide_eq_false_iff_not]
theorem outs_subs (n : Nat) (c : List Int) : outs n c ∈ subs n := mem_subs ((rng_inc n).filter _) fun x hx => rng_mem.mp (mem_outs.mp hx).1
theorem outs_outs {n : Nat} {c : List Int} (hc : c ∈ subs n) : outs n (outs n c) = c := by
  refine inc_ext (subs_inc (outs_subs n _)) (subs_inc hc) fun x => ?_
  rw [mem_outs, mem_outs]
  constructor
  · rintro ⟨h1, h2⟩
    exact Classical.byContradiction fun z => h2 ⟨h1, z⟩
  · intro h
    exact ⟨rng_mem.mpr (subs_lt hc x h), fun z => z.2 h⟩
theorem maxL_mem {n : Nat} {ms : List (List Int)} {c : List Int} : c ∈ maxL n ms ↔ c ∈ subs n ∧ winB ms c = false ∧ ∀ p ∈ rng n, p ∉ c → winB ms (c ++ [p]) = true := by
  unfold maxL
  rw [List.mem_filter, allC_mem]
  unfold mlB
  rw [Bool.and_eq_true, Bool.not_eq_true', List.all_eq_true]
  constructor
  · rintro ⟨h1, h2, h3⟩
    refine ⟨h1, h2, fun p hp hn => ?_⟩
    rw [← winB_sort]
    exact h3 p (mem_outs.mpr ⟨hp, hn⟩)
  · rintro ⟨h1, h2, h3⟩
    refine ⟨h1, h2, fun p hp => ?_⟩
    rw [winB_sort]
    exact h3 p (mem_outs.mp hp).1 (mem_outs.mp hp).2
/-- above a losing coalition there is a maximal one -/
theorem max_above {n : Nat} {ms : List (List Int)} : ∀ (k : Nat) (c : List Int), n - c.length ≤ k → c ∈ subs n → winB ms c = false → ∃ L ∈ maxL n ms, ∀ x ∈ c, x ∈ L
  | k, c, hk, hc, hl => by
    by_cases h : ∀ p ∈ rng n, p ∉ c → winB ms (c ++ [p]) = true
    · exact ⟨c, maxL_mem.mpr ⟨hc, hl, h⟩, fun x hx => hx⟩
    · obtain ⟨p, hp, hn, hw⟩ : ∃ p ∈ rng n, p ∉ c ∧ winB ms (c ++ [p]) = false := Classical.byContradiction fun z => h fun p hp hn => by
        cases hw : winB ms (c ++ [p]) with
        | true => rfl
        | false => exact absurd ⟨p, hp, hn, hw⟩ z
      have hs := with_subs hc hp hn
      have hlen : (sortI (c ++ [p])).length = c.length + 1 := by unfold sortI; rw [(List.mergeSort_perm _ _).length_eq, List.length_append]; rfl
      have hle := subs_small hs
      cases k with
      | zero => omega
      | succ k =>
        obtain ⟨L, h1, h2⟩ := max_above k (sortI (c ++ [p])) (by omega) hs (by rw [winB_sort]; exact hw)
        exact ⟨L, h1, fun x hx => h2 x (mem_sortI.mpr (List.mem_append_left _ hx))⟩
theorem Game.nil {n : Nat} {ms : List (List Int)} (G : Game n ms) : winB ms [] = false := by
  cases h : winB ms [] with
  | false => rfl
  | true =>
    obtain ⟨m, h1, h2⟩ := winB_iff.mp h
    refine absurd ?_ (G.mem m h1).2
    cases m with
    | nil => rfl
    | cons x m => exact absurd (h2 x List.mem_cons_self) (by simp)
theorem Game.full {n : Nat} {ms : List (List Int)} (G : Game n ms) : winB ms (rng n) = true := by
  cases ms with
  | nil => exact absurd rfl G.ne
  | cons m ms => exact winB_iff.mpr ⟨m, List.mem_cons_self, fun x hx => rng_mem.mpr (subs_lt (G.mem m List.mem_cons_self).1 x hx)⟩
theorem maxL_nodup (n : Nat) (ms : List (List Int)) : (maxL n ms).Nodup := (allC_nodup n).filter _
theorem dual_mem {n : Nat} {ms : List (List Int)} {m : List Int} : m ∈ dualK n ms ↔ ∃ L ∈ maxL n ms, m = outs n L := by
  unfold dualK
  rw [(sortK_perm _).mem_iff, List.mem_map]
  constructor
  · rintro ⟨L, h1, h2⟩; exact ⟨L, h1, h2.symm⟩
  · rintro ⟨L, h1, h2⟩; exact ⟨L, h1, h2.symm⟩
theorem Game.dual {n : Nat} {ms : List (List Int)} (G : Game n ms) : Game n (dualK n ms) := by
  refine ⟨fun m hm => ?_, ?_, ?_, fun a ha b hb hab hsub => ?_⟩
  · obtain ⟨L, h1, rfl⟩ := dual_mem.mp hm
    refine ⟨outs_subs n L, fun z => ?_⟩
    obtain ⟨g1, g2, _⟩ := maxL_mem.mp h1
    have : winB ms L = true := winB_mono (fun x hx => Classical.byContradiction fun w => by
      have : x ∈ outs n L := mem_outs.mpr ⟨hx, w⟩
      rw [z] at this
      cases this) G.full
    rw [g2] at this
    cases this
  · obtain ⟨L, h1, _⟩ := max_above (n := n) (ms := ms) _ [] (Nat.le_refl _) (nil_subs n) G.nil
    exact List.ne_nil_of_mem (dual_mem.mpr ⟨L, h1, rfl⟩)
  · unfold dualK
    refine sortK_lt ?_
    refine List.pairwise_map.mpr (List.Pairwise.imp_of_mem (fun {a b} ha hb hne e => hne ?_) (maxL_nodup n ms))
    rw [← outs_outs (maxL_mem.mp ha).1, ← outs_outs (maxL_mem.mp hb).1, e]
  · obtain ⟨A, a1, rfl⟩ := dual_mem.mp ha
    obtain ⟨B, b1, rfl⟩ := dual_mem.mp hb
    obtain ⟨ga, gl, _⟩ := maxL_mem.mp a1
    obtain ⟨gb, _, gm⟩ := maxL_mem.mp b1
    have hBA : ∀ x ∈ B, x ∈ A := fun x hx => Classical.byContradiction fun w => (mem_outs.mp (hsub x (mem_outs.mpr ⟨rng_mem.mpr (subs_lt gb x hx), w⟩))).2 hx
    by_cases hAB : ∀ x ∈ A, x ∈ B
    · exact hab (by rw [inc_ext (subs_inc ga) (subs_inc gb) fun x => ⟨hAB x, hBA x⟩])
    · obtain ⟨p, hp, hn⟩ : ∃ p ∈ A, p ∉ B := Classical.byContradiction fun z => hAB fun x hx => Classical.byContradiction fun w => z ⟨x, hx, w⟩
      have := winB_mono (b := A) (fun x hx => by
        rcases List.mem_append.mp hx with z | z
        · exact hBA x z
        · rw [List.mem_singleton.mp z]; exact hp) (gm p (rng_mem.mpr (subs_lt ga p hp)) hn)
      rw [gl] at this
      cases this
theorem dual_win {n : Nat} {ms : List (List Int)} {c : List Int} : winB (dualK n ms) c = !winB ms (outs n c) := by
  rw [Bool.eq_iff_iff, winB_iff, Bool.not_eq_true']
  constructor
  · rintro ⟨m, hm, hs⟩
    obtain ⟨L, h1, rfl⟩ := dual_mem.mp hm
    obtain ⟨_, g2, _⟩ := maxL_mem.mp h1
    cases hw : winB ms (outs n c) with
    | false => rfl
    | true =>
      have := winB_mono (b := L) (fun x hx => Classical.byContradiction fun w => (mem_outs.mp hx).2 (hs x (mem_outs.mpr ⟨(mem_outs.mp hx).1, w⟩))) hw
      rw [g2] at this
      cases this
  · intro h
    obtain ⟨L, h1, h2⟩ := max_above (n := n) (ms := ms) _ (outs n c) (Nat.le_refl _) (outs_subs n c) h
    refine ⟨outs n L, dual_mem.mpr ⟨L, h1, rfl⟩, fun x hx => Classical.byContradiction fun w => ?_⟩
    exact (mem_outs.mp hx).2 (h2 x (mem_outs.mpr ⟨(mem_outs.mp hx).1, w⟩))
end Qw

set_option Elab.async false
set_option linter.all false
set_option maxRecDepth 100000
set_option maxHeartbeats 2000000
/-! Swings, in plain words. By an AI agent. -/
namespace Qw
open PySem L2
/-- the coalitions that a player turns -/
def turns (n : Nat) (ms : List (List Int)) (p : Int) : List (List Int) := (allC n).filter (swB' ms p)
theorem turns_mem {n : Nat} {ms : List (List Int)} {p : Int} {c : List Int} : c ∈ turns n ms p ↔ c ∈ subs n ∧ p ∉ c ∧ winB ms c = false ∧ winB ms (c ++ [p]) = true := by
  unfold turns swB'
  rw [List.mem_filter, allC_mem, Bool.and_eq_true, Bool.and_eq_true, Bool.not_eq_true', Bool.not_eq_true', decide_eq_false_iff_not, winB_sort]
theorem turns_nodup (n : Nat) (ms : List (List Int)) (p : Int) : (turns n ms p).Nodup := (allC_nodup n).filter _
theorem sizes_eq (n : Nat) (ms : List (List Int)) (p : Int) : sizes n ms p = (turns n ms p).map fun c => (c.length : Int) := rfl
def fac (n k : Nat) : Int := (factN k : Int) * (factN (n - 1 - k) : Int)
theorem pivs_eq (n : Nat) (ms : List (List Int)) (p : Int) : pivs n ms p = ((turns n ms p).map fun c => fac n c.length).sum := by
  unfold pivs
  rw [sizes_eq, List.map_map]
  rfl
/-- the others but p -/
def opp (n : Nat) (p : Int) (c : List Int) : List Int := outs n (c ++ [p])
theorem mem_opp {n : Nat} {p x : Int} {c : List Int} : x ∈ opp n p c ↔ x ∈ rng n ∧ x ∉ c ∧ x ≠ p := by
  unfold opp
  rw [mem_outs, List.mem_append, List.mem_singleton, not_or]
theorem opp_opp {n : Nat} {p : Int} {c : List Int} (hc : c ∈ subs n) (hp : p ∉ c) : opp n p (opp n p c) = c := by
  refine inc_ext (subs_inc (outs_subs n _)) (subs_inc hc) fun x => ?_
  show x ∈ opp n p (opp n p c) ↔ _
  rw [mem_opp, mem_opp]
  constructor
  · rintro ⟨h1, h2, h3⟩
    exact Classical.byContradiction fun z => h2 ⟨h1, z, h3⟩
  · intro h
    exact ⟨rng_mem.mpr (subs_lt hc x h), fun z => z.2.1 h, fun z => hp (z ▸ h)⟩
theorem rng_len (n : Nat) : (rng n).length = n := by unfold rng; simp
theorem opp_len {n : Nat} {p : Int} {c : List Int} (hc : c ∈ subs n) (hp : p ∈ rng n) (hn : p ∉ c) : (opp n p c).length + c.length + 1 = n := by
  have nd : (opp n p c ++ (c ++ [p])).Nodup := by
    rw [List.nodup_append, List.nodup_append]
    refine ⟨(subs_inc (outs_subs n _)).imp fun h => by omega, ⟨(subs_inc hc).imp fun h => by omega, List.pairwise_singleton _ _, fun a ha b hb e => ?_⟩, fun a ha b hb e => ?_⟩
    · rw [List.mem_singleton.mp hb] at e
      exact hn (e ▸ ha)
    · subst e
      have := mem_opp.mp ha
      rcases List.mem_append.mp hb with z | z
      · exact this.2.1 z
      · exact this.2.2 (List.mem_singleton.mp z)
  have pm : (opp n p c ++ (c ++ [p])).Perm (rng n) := (List.perm_ext_iff_of_nodup nd ((rng_inc n).imp fun h => by omega)).mpr fun x => by
    rw [List.mem_append, List.mem_append, List.mem_singleton, mem_opp]
    constructor
    · rintro (h | h | h)
      · exact h.1
      · exact rng_mem.mpr (subs_lt hc x h)
      · rw [h]; exact hp
    · intro h
      by_cases h1 : x ∈ c
      · exact .inr (.inl h1)
      · by_cases h2 : x = p
        · exact .inr (.inr h2)
        · exact .inl ⟨h, h1, h2⟩
  have := pm.length_eq
  rw [List.length_append, List.length_append, rng_len, List.length_singleton] at this
  omega
theorem turns_dual {n : Nat} {ms : List (List Int)} {p : Int} (hp : p ∈ rng n) : (turns n (dualK n ms) p).Perm ((turns n ms p).map (opp n p)) := by
  have key : ∀ c, c ∈ subs n → p ∉ c → (c ∈ turns n (dualK n ms) p ↔ opp n p c ∈ turns n ms p) := fun c hc hn => by
    rw [turns_mem, turns_mem, dual_win, dual_win]
    have e : winB ms (opp n p c ++ [p]) = winB ms (outs n c) := winB_congr fun x => by
      rw [List.mem_append, List.mem_singleton, mem_opp, mem_outs]
      constructor
      · rintro (h | h)
        · exact ⟨h.1, h.2.1⟩
        · rw [h]; exact ⟨hp, hn⟩
      · intro h
        by_cases z : x = p
        · exact .inr z
        · exact .inl ⟨h.1, h.2, z⟩
    rw [e]
    have e2 : outs n (c ++ [p]) = opp n p c := rfl
    rw [e2]
    constructor
    · rintro ⟨_, _, h1, h2⟩
      refine ⟨outs_subs n _, fun z => (mem_opp.mp z).2.2 rfl, ?_, ?_⟩
      · simpa using h2
      · simpa using h1
    · rintro ⟨_, _, h1, h2⟩
      exact ⟨hc, hn, by simpa using h2, by simpa using h1⟩
  have nd : ((turns n ms p).map (opp n p)).Nodup := by
    refine List.pairwise_map.mpr (List.Pairwise.imp_of_mem (fun {a b} ha hb hne e => hne ?_) (turns_nodup n ms p))
    have a1 := turns_mem.mp ha
    have b1 := turns_mem.mp hb
    rw [← opp_opp a1.1 a1.2.1, ← opp_opp b1.1 b1.2.1, e]
  refine (List.perm_ext_iff_of_nodup (turns_nodup _ _ _) nd).mpr fun c => ?_
  rw [List.mem_map]
  constructor
  · intro h
    have h1 := turns_mem.mp h
    exact ⟨opp n p c, (key c h1.1 h1.2.1).mp h, opp_opp h1.1 h1.2.1⟩
  · rintro ⟨d, hd, rfl⟩
    have h1 := turns_mem.mp hd
    refine (key _ (outs_subs n _) fun z => (mem_opp.mp z).2.2 rfl).mpr ?_
    show opp n p (opp n p d) ∈ _
    rw [opp_opp h1.1 h1.2.1]
    exact hd
theorem fac_sym {n k : Nat} (h : k ≤ n - 1) : fac n (n - 1 - k) = fac n k := by
  unfold fac
  rw [show n - 1 - (n - 1 - k) = k by omega, Int.mul_comm]
theorem sum_perm {a b : List Int} (h : a.Perm b) : a.sum = b.sum := by
  induction h with
  | nil => rfl
  | cons x _ ih => rw [List.sum_cons, List.sum_cons, ih]
  | swap x y l => rw [List.sum_cons, List.sum_cons, List.sum_cons, List.sum_cons]; omega
  | trans _ _ h1 h2 => exact h1.trans h2
theorem pivs_dual {n : Nat} {ms : List (List Int)} {p : Int} (hp : p ∈ rng n) : pivs n (dualK n ms) p = pivs n ms p := by
  rw [pivs_eq, pivs_eq, sum_perm ((turns_dual hp).map _), List.map_map]
  refine congrArg List.sum (List.map_congr_left fun c hc => ?_)
  have h1 := turns_mem.mp hc
  have h2 := opp_len h1.1 hp h1.2.1
  show fac n (opp n p c).length = _
  rw [show (opp n p c).length = n - 1 - c.length by omega, fac_sym (by omega)]
theorem sizes_dual {n : Nat} {ms : List (List Int)} {p : Int} (hp : p ∈ rng n) : (sizes n (dualK n ms) p).length = (sizes n ms p).length := by
  rw [sizes_eq, sizes_eq, List.length_map, List.length_map, (turns_dual hp).length_eq, List.length_map]
/-! ### dominance -/
theorem sum_sub {α : Type} [BEq α] [LawfulBEq α] (g : α → Int) (hg : ∀ x, 0 ≤ g x) : ∀ {a b : List α}, a.Nodup → (∀ x ∈ a, x ∈ b) → (a.map g).sum ≤ (b.map g).sum ∧ a.length ≤ b.length
  | [], b, _, _ => by
    refine ⟨sum_nonneg fun x hx => ?_, Nat.zero_le _⟩
    obtain ⟨y, _, rfl⟩ := List.mem_map.mp hx
    exact hg y
  | x :: a, b, nd, h => by
    obtain ⟨n1, n2⟩ := List.nodup_cons.mp nd
    have hb := List.perm_cons_erase (h x List.mem_cons_self)
    obtain ⟨h1, h2⟩ := sum_sub g hg (b := b.erase x) n2 fun y hy => by
      have hne : y ≠ x := fun z => n1 (z ▸ hy)
      exact (List.mem_erase_of_ne hne).mpr (h y (List.mem_cons_of_mem _ hy))
    rw [sum_perm (hb.map g), hb.length_eq, List.map_cons, List.map_cons, List.sum_cons, List.sum_cons, List.length_cons, List.length_cons]
    omega
theorem domB_iff {n : Nat} {ms : List (List Int)} {l r : Int} : domB n ms l r = true ↔ ∀ c ∈ subs n, l ∉ c → r ∉ c → winB ms (c ++ [r]) = true → winB ms (c ++ [l]) = true := by
  unfold domB
  rw [List.all_eq_true]
  constructor
  · intro h c hc h1 h2 h3
    have := h c (allC_mem.mpr hc)
    rw [winB_sort, winB_sort, h3, decide_eq_false h1, decide_eq_false h2] at this
    simpa using this
  · intro h c hc
    rw [winB_sort, winB_sort]
    by_cases h1 : l ∈ c
    · simp [h1]
    · by_cases h2 : r ∈ c
      · simp [h2]
      · cases h3 : winB ms (c ++ [r]) with
        | false => simp
        | true => simp [h1, h2, h c (allC_mem.mp hc) h1 h2 h3]
/-- r's turn, made l's -/
def swp (n : Nat) (l r : Int) (c : List Int) : List Int := if l ∈ c then (rng n).filter fun x => (decide (x ∈ c) && !decide (x = l)) || decide (x = r) else c
theorem mem_swp {n : Nat} {l r x : Int} {c : List Int} (hl : l ∈ c) : x ∈ swp n l r c ↔ x ∈ rng n ∧ ((x ∈ c ∧ x ≠ l) ∨ x = r) := by
  unfold swp
  rw [if_pos hl, List.mem_filter]
  simp
end Qw

set_option Elab.async false
set_option linter.all false
set_option maxRecDepth 100000
set_option maxHeartbeats 2000000
/-! Stronger players, dummies. By an AI agent. -/
namespace Qw
open PySem L2
section
variable {n : Nat} {ms : List (List Int)} {l r : Int}
theorem swp_subs (c : List Int) (hc : c ∈ subs n) : swp n l r c ∈ subs n := by
  unfold swp
  by_cases h : l ∈ c
  · rw [if_pos h]
    exact mem_subs ((rng_inc n).filter _) fun x hx => rng_mem.mp (List.mem_filter.mp hx).1
  · rw [if_neg h]
    exact hc
theorem swp_len {c : List Int} (hc : c ∈ subs n) (hr : r ∈ rng n) (hrc : r ∉ c) (hne : l ≠ r) : (swp n l r c).length = c.length := by
  by_cases h : l ∈ c
  · have hs := swp_subs (l := l) (r := r) c hc
    have nd1 : (swp n l r c ++ [l]).Nodup := by
      rw [List.nodup_append]
      refine ⟨(subs_inc hs).imp fun h => by omega, List.pairwise_singleton _ _, fun a ha b hb e => ?_⟩
      rw [List.mem_singleton.mp hb] at e
      subst e
      rcases ((mem_swp h).mp ha).2 with z | z
      · exact z.2 rfl
      · exact hne z
    have nd2 : (c ++ [r]).Nodup := by
      rw [List.nodup_append]
      refine ⟨(subs_inc hc).imp fun h => by omega, List.pairwise_singleton _ _, fun a ha b hb e => ?_⟩
      rw [List.mem_singleton.mp hb] at e
      exact hrc (e ▸ ha)
    have pm : (swp n l r c ++ [l]).Perm (c ++ [r]) := (List.perm_ext_iff_of_nodup nd1 nd2).mpr fun x => by
      rw [List.mem_append, List.mem_append, List.mem_singleton, List.mem_singleton, mem_swp h]
      constructor
      · rintro (⟨_, z | z⟩ | z)
        · exact .inl z.1
        · exact .inr z
        · rw [z]; exact .inl h
      · rintro (z | z)
        · by_cases e : x = l
          · exact .inr e
          · exact .inl ⟨rng_mem.mpr (subs_lt hc x z), .inl ⟨z, e⟩⟩
        · rw [z]; exact .inl ⟨hr, .inr rfl⟩
    have := pm.length_eq
    rw [List.length_append, List.length_append, List.length_singleton, List.length_singleton] at this
    omega
  · unfold swp
    rw [if_neg h]
theorem swp_turns (hd : domB n ms l r = true) (hr : r ∈ rng n) (hne : l ≠ r) {c : List Int} (hc : c ∈ turns n ms r) : swp n l r c ∈ turns n ms l := by
  obtain ⟨c1, c2, c3, c4⟩ := turns_mem.mp hc
  have dom := domB_iff.mp hd
  by_cases h : l ∈ c
  · refine turns_mem.mpr ⟨swp_subs c c1, fun z => ?_, ?_, ?_⟩
    · rcases ((mem_swp h).mp z).2 with w | w
      · exact w.2 rfl
      · exact hne w
    · cases hw : winB ms (swp n l r c) with
      | false => rfl
      | true =>
        have hb : (c.filter fun x => !decide (x = l)) ∈ subs n := mem_subs ((subs_inc c1).filter _) fun x hx => subs_lt c1 x (List.mem_filter.mp hx).1
        have mb : ∀ x, x ∈ (c.filter fun x => !decide (x = l)) ↔ x ∈ c ∧ x ≠ l := fun x => by rw [List.mem_filter]; simp
        have h1 := dom _ hb (fun z => ((mb l).mp z).2 rfl) (fun z => c2 ((mb r).mp z).1) (by
          rw [← hw]
          refine winB_congr fun x => ?_
          rw [List.mem_append, List.mem_singleton, mb, mem_swp h]
          constructor
          · rintro (z | z)
            · exact ⟨rng_mem.mpr (subs_lt c1 x z.1), .inl z⟩
            · rw [z]; exact ⟨hr, .inr rfl⟩
          · rintro ⟨_, z | z⟩
            · exact .inl z
            · exact .inr z)
        have h2 : winB ms c = true := winB_mono (fun x hx => by
          rcases List.mem_append.mp hx with z | z
          · exact ((mb x).mp z).1
          · rw [List.mem_singleton.mp z]; exact h) h1
        rw [c3] at h2
        cases h2
    · rw [← c4]
      refine winB_congr fun x => ?_
      rw [List.mem_append, List.mem_append, List.mem_singleton, List.mem_singleton, mem_swp h]
      constructor
      · rintro (⟨_, z | z⟩ | z)
        · exact .inl z.1
        · exact .inr z
        · rw [z]; exact .inl h
      · rintro (z | z)
        · by_cases e : x = l
          · exact .inr e
          · exact .inl ⟨rng_mem.mpr (subs_lt c1 x z), .inl ⟨z, e⟩⟩
        · rw [z]; exact .inl ⟨hr, .inr rfl⟩
  · have e : swp n l r c = c := by unfold swp; rw [if_neg h]
    rw [e]
    exact turns_mem.mpr ⟨c1, h, c3, dom c c1 h c2 c4⟩
theorem swp_inj (hr : r ∈ rng n) (hne : l ≠ r) {a b : List Int} (ha : a ∈ turns n ms r) (hb : b ∈ turns n ms r) (e : swp n l r a = swp n l r b) : a = b := by
  obtain ⟨a1, a2, _, _⟩ := turns_mem.mp ha
  obtain ⟨b1, b2, _, _⟩ := turns_mem.mp hb
  by_cases h1 : l ∈ a
  · by_cases h2 : l ∈ b
    · refine inc_ext (subs_inc a1) (subs_inc b1) fun x => ?_
      have key : ∀ {u v : List Int}, u ∈ subs n → r ∉ u → l ∈ u → l ∈ v → swp n l r u = swp n l r v → x ∈ u → x ∈ v := fun {u v} hu hru hlu hlv e hx => by
        by_cases hxl : x = l
        · rw [hxl]; exact hlv
        · have : x ∈ swp n l r v := by rw [← e]; exact (mem_swp hlu).mpr ⟨rng_mem.mpr (subs_lt hu x hx), .inl ⟨hx, hxl⟩⟩
          rcases ((mem_swp hlv).mp this).2 with z | z
          · exact z.1
          · exact absurd (z ▸ hx) hru
      exact ⟨key a1 a2 h1 h2 e, key b1 b2 h2 h1 e.symm⟩
    · have e2 : swp n l r b = b := by unfold swp; rw [if_neg h2]
      have : r ∈ swp n l r a := (mem_swp h1).mpr ⟨hr, .inr rfl⟩
      rw [e, e2] at this
      exact absurd this b2
  · have e1 : swp n l r a = a := by unfold swp; rw [if_neg h1]
    by_cases h2 : l ∈ b
    · have : r ∈ swp n l r b := (mem_swp h2).mpr ⟨hr, .inr rfl⟩
      rw [← e, e1] at this
      exact absurd this a2
    · have e2 : swp n l r b = b := by unfold swp; rw [if_neg h2]
      rw [e1, e2] at e
      exact e
theorem fac_pos (n k : Nat) : 0 < fac n k := by
  have h : ∀ k, 0 < factN k := fun k => by
    induction k with
    | zero => decide
    | succ k ih => exact Nat.mul_pos (Nat.succ_pos k) ih
  unfold fac
  exact Int.mul_pos (by exact_mod_cast h k) (by exact_mod_cast h _)
theorem dom_le (hd : domB n ms l r = true) (hr : r ∈ rng n) : pivs n ms r ≤ pivs n ms l ∧ (sizes n ms r).length ≤ (sizes n ms l).length := by
  by_cases hne : l = r
  · subst hne; exact ⟨Int.le_refl _, Nat.le_refl _⟩
  · have nd : ((turns n ms r).map (swp n l r)).Nodup := List.pairwise_map.mpr (List.Pairwise.imp_of_mem (fun {a b} ha hb h e => h (swp_inj hr hne ha hb e)) (turns_nodup n ms r))
    obtain ⟨h1, h2⟩ := sum_sub (fun c => fac n c.length) (fun c => Int.le_of_lt (fac_pos n _)) nd fun x hx => by
      obtain ⟨c, hc, rfl⟩ := List.mem_map.mp hx
      exact swp_turns hd hr hne hc
    rw [pivs_eq, pivs_eq, sizes_eq, sizes_eq, List.length_map, List.length_map]
    rw [List.length_map] at h2
    refine ⟨?_, h2⟩
    rw [List.map_map] at h1
    rw [show (turns n ms r).map (fun c => fac n c.length) = (turns n ms r).map ((fun c => fac n c.length) ∘ swp n l r) from List.map_congr_left fun c hc => by
      obtain ⟨c1, c2, _, _⟩ := turns_mem.mp hc
      show fac n c.length = fac n (swp n l r c).length
      rw [swp_len c1 hr c2 hne]]
    exact h1
/-- a dummy turns nothing -/
theorem dum_iff (G : Game n ms) {p : Int} (hp : p ∈ rng n) : dumB ms p = true ↔ pivs n ms p = 0 := by
  have h1 : dumB ms p = true ↔ ∀ m ∈ ms, p ∉ m := by
    unfold dumB
    rw [Bool.not_eq_true', List.any_eq_false]
    simp
  rw [h1, pivs_eq]
  constructor
  · intro h
    have : turns n ms p = [] := List.eq_nil_iff_forall_not_mem.mpr fun c hc => by
      obtain ⟨c1, c2, c3, c4⟩ := turns_mem.mp hc
      obtain ⟨m, m1, m2⟩ := winB_iff.mp c4
      have : winB ms c = true := winB_iff.mpr ⟨m, m1, fun x hx => by
        rcases List.mem_append.mp (m2 x hx) with z | z
        · exact z
        · rw [List.mem_singleton.mp z] at hx
          exact absurd hx (h m m1)⟩
      rw [c3] at this
      cases this
    rw [this]
    rfl
  · intro h m m1 hpm
    have mem : (m.filter fun x => !decide (x = p)) ∈ turns n ms p := by
      have mb : ∀ x, x ∈ (m.filter fun x => !decide (x = p)) ↔ x ∈ m ∧ x ≠ p := fun x => by rw [List.mem_filter]; simp
      refine turns_mem.mpr ⟨mem_subs ((subs_inc (G.mem m m1).1).filter _) fun x hx => subs_lt (G.mem m m1).1 x (List.mem_filter.mp hx).1, fun z => ((mb p).mp z).2 rfl, ?_, ?_⟩
      · cases hw : winB ms (m.filter fun x => !decide (x = p)) with
        | false => rfl
        | true =>
          obtain ⟨k, k1, k2⟩ := winB_iff.mp hw
          have hne : k ≠ m := fun z => by
            have := k2 p (z ▸ hpm)
            exact ((mb p).mp this).2 rfl
          exact absurd (fun x hx => ((mb x).mp (k2 x hx)).1) (G.anti k k1 m m1 hne)
      · refine winB_iff.mpr ⟨m, m1, fun x hx => ?_⟩
        rw [List.mem_append, List.mem_singleton, mb]
        by_cases e : x = p
        · exact .inr e
        · exact .inl ⟨hx, e⟩
    have hpos : ∀ {L : List (List Int)} {c : List Int}, c ∈ L → 0 < (L.map fun c => fac n c.length).sum := fun {L c} hc => by
      induction L with
      | nil => cases hc
      | cons d L ih =>
        rw [List.map_cons, List.sum_cons]
        have p1 := fac_pos n d.length
        have p2 : 0 ≤ (L.map fun c => fac n c.length).sum := sum_nonneg fun x hx => by
          obtain ⟨y, _, rfl⟩ := List.mem_map.mp hx
          exact Int.le_of_lt (fac_pos n _)
        omega
    have := hpos mem
    omega
end
end Qw

set_option Elab.async false
set_option linter.all false
set_option maxRecDepth 100000
set_option maxHeartbeats 4000000
/-! Orders. By an AI agent. -/
namespace Qw
open PySem L2
/-- the orders of a list, as the law builds them -/
def ordsK : Nat → List Int → List (List Int)
  | 0, _ => [[]]
  | k + 1, l => (List.range l.length).flatMap fun i => (ordsK k (l.take i ++ l.drop (i + 1))).map fun r => l.getD i 0 :: r
def bef (p : Int) (o : List Int) : List Int := o.takeWhile fun x => !decide (x = p)
/-- how often the coalition c stands ahead of p -/
def cnt (n : Nat) (p : Int) (c : List Int) : Nat := ((ordsK n (rng n)).filter fun o => decide (sortI (bef p o) = c)).length
def sortJ : List Int → List Int
  | [] => []
  | x :: l => (sortJ l).filter (fun y => decide (y < x)) ++ x :: (sortJ l).filter fun y => !decide (y < x)
def eqL : List Int → List Int → Bool
  | [], [] => true
  | x :: a, y :: b => decide (x = y) && eqL a b
  | _, _ => false
def cntB (n : Nat) : Bool := (rng n).all fun p => (subs n).all fun c => c.contains p || Nat.beq ((ordsK n (rng n)).countP fun o => eqL (sortJ (bef p o)) c) (factN c.length * factN (n - 1 - c.length))
theorem cnt1 : cntB 1 = true := by decide +kernel
theorem cnt2 : cntB 2 = true := by decide +kernel
theorem cnt3 : cntB 3 = true := by decide +kernel
theorem cnt4 : cntB 4 = true := by decide +kernel
theorem cnt5 : cntB 5 = true := by decide +kernel
theorem eqL_iff : ∀ {a b : List Int}, eqL a b = true ↔ a = b
  | [], [] => by simp [eqL]
  | [], _ :: _ => by simp [eqL]
  | _ :: _, [] => by simp [eqL]
  | x :: a, y :: b => by
    unfold eqL
    rw [Bool.and_eq_true, decide_eq_true_eq, eqL_iff, List.cons.injEq]
theorem mem_sortJ : ∀ {l : List Int} {x : Int}, x ∈ sortJ l ↔ x ∈ l
  | [], x => Iff.rfl
  | y :: l, x => by
    unfold sortJ
    rw [List.mem_append, List.mem_cons, List.mem_filter, List.mem_filter, List.mem_cons, mem_sortJ]
    by_cases h : x < y <;> simp [h]
    constructor
    · rintro (h1 | h1)
      · exact .inr h1
      · exact .inl h1
    · rintro (h1 | h1)
      · exact .inr h1
      · exact .inl h1
/-- each order names each player; what stands ahead of a player is a coalition without it -/
def ordB (n : Nat) : Bool := (ordsK n (rng n)).all fun o => (rng n).all fun p => o.contains p && ((subs n).any (fun c => eqL (sortJ (bef p o)) c) && !(bef p o).contains p) && Nat.beq o.length n && o.all fun x => (rng n).contains x
theorem ordOk : ∀ {n : Nat}, 1 ≤ n → n ≤ 5 → ordB n = true ∧ cntB n = true
  | 1, _, _ => ⟨by decide +kernel, cnt1⟩
  | 2, _, _ => ⟨by decide +kernel, cnt2⟩
  | 3, _, _ => ⟨by decide +kernel, cnt3⟩
  | 4, _, _ => ⟨by decide +kernel, cnt4⟩
  | 5, _, _ => ⟨by decide +kernel, cnt5⟩
  | 0, h, _ => by omega
  | _ + 6, _, h => by omega
theorem count_or {α : Type} {p q : α → Bool} : ∀ {L : List α}, (∀ o ∈ L, p o = true → q o = true → False) → (L.countP fun o => p o || q o) = L.countP p + L.countP q
  | [], _ => rfl
  | o :: L, h => by
    have ih := count_or fun o ho => h o (List.mem_cons_of_mem _ ho)
    rw [List.countP_cons, List.countP_cons, List.countP_cons, ih]
    have := h o List.mem_cons_self
    cases hp : p o <;> cases hq : q o
    · simp
    · simp; omega
    · simp; omega
    · exact (this hp hq).elim
theorem count_split {α β : Type} (f : α → β) (eq : β → β → Bool) (heq : ∀ a b, eq a b = true ↔ a = b) (L : List α) : ∀ {T : List β}, T.Nodup → (L.countP fun o => T.any fun c => eq (f o) c) = (T.map fun c => L.countP fun o => eq (f o) c).sum
  | [], _ => by
    rw [List.countP_eq_zero.mpr fun o _ => by simp]
    rfl
  | c :: T, nd => by
    obtain ⟨n1, n2⟩ := List.nodup_cons.mp nd
    rw [List.map_cons, List.sum_cons, ← count_split f eq heq L n2, ← count_or]
    · rfl
    · intro o _ h1 h2
      obtain ⟨d, hd, h3⟩ := List.any_eq_true.mp h2
      have e1 := (heq _ _).mp h1
      have e2 := (heq _ _).mp h3
      exact n1 (by rw [← e1, e2]; exact hd)
/-- p is the pivot of the order -/
def pivB (ms : List (List Int)) (p : Int) (o : List Int) : Bool := !winB ms (bef p o) && winB ms (bef p o ++ [p])
theorem arrived_eq {n : Nat} (h1 : 1 ≤ n) (h5 : n ≤ 5) {ms : List (List Int)} {p : Int} (hp : p ∈ rng n) : (((ordsK n (rng n)).countP (pivB ms p) : Nat) : Int) = pivs n ms p := by
  obtain ⟨ho, hc⟩ := ordOk h1 h5
  unfold ordB at ho
  unfold cntB at hc
  simp only [List.all_eq_true] at ho hc
  have e1 : (ordsK n (rng n)).countP (pivB ms p) = (ordsK n (rng n)).countP fun o => (turns n ms p).any fun c => eqL (sortJ (bef p o)) c := by
    refine List.countP_congr fun o hoo => ?_
    have hh := ho o hoo p hp
    simp only [Bool.and_eq_true, List.any_eq_true, Bool.not_eq_true', List.contains_iff_mem] at hh
    obtain ⟨⟨⟨_, ⟨c, hc1, hc2⟩, hnp⟩, _⟩, _⟩ := hh
    have hce := eqL_iff.mp hc2
    have w1 : winB ms (sortJ (bef p o)) = winB ms (bef p o) := winB_congr fun x => mem_sortJ
    have w2 : winB ms (sortJ (bef p o) ++ [p]) = winB ms (bef p o ++ [p]) := winB_congr fun x => by rw [List.mem_append, List.mem_append, mem_sortJ]
    have hnp' : p ∉ bef p o := fun z => by
      have : (bef p o).contains p = true := List.contains_iff_mem.mpr z
      rw [hnp] at this
      cases this
    unfold pivB
    rw [Bool.and_eq_true, Bool.not_eq_true', List.any_eq_true]
    constructor
    · rintro ⟨a1, a2⟩
      exact ⟨sortJ (bef p o), turns_mem.mpr ⟨hce ▸ hc1, fun z => hnp' (mem_sortJ.mp z), by rw [w1]; exact a1, by rw [w2]; exact a2⟩, eqL_iff.mpr rfl⟩
    · rintro ⟨d, d1, d2⟩
      have := eqL_iff.mp d2
      subst this
      obtain ⟨_, _, b3, b4⟩ := turns_mem.mp d1
      exact ⟨by rw [← w1]; exact b3, by rw [← w2]; exact b4⟩
  rw [e1, count_split (fun o => sortJ (bef p o)) eqL (fun a b => eqL_iff) _ (turns_nodup n ms p), pivs_eq]
  have e2 : ∀ c ∈ turns n ms p, ((ordsK n (rng n)).countP fun o => eqL (sortJ (bef p o)) c) = factN c.length * factN (n - 1 - c.length) := fun c hcc => by
    obtain ⟨c1, c2, _, _⟩ := turns_mem.mp hcc
    have := hc p hp c c1
    rw [Bool.or_eq_true] at this
    rcases this with z | z
    · exact absurd (List.contains_iff_mem.mp z) c2
    · exact Nat.eq_of_beq_eq_true z
  rw [List.map_congr_left e2]
  generalize turns n ms p = T
  induction T with
  | nil => rfl
  | cons c T ih =>
    rw [List.map_cons, List.map_cons, List.sum_cons, List.sum_cons, ← ih]
    unfold fac
    push_cast
    rfl
end Qw

set_option Elab.async false
set_option linter.all false
set_option maxRecDepth 100000
set_option maxHeartbeats 4000000
/-! The law's orders. By an AI agent. -/
namespace Qw
open PySem L2
theorem cut_take {α : Type} (l : List α) (j : Nat) : cutL l none (some (j : Int)) = l.take j := by
  unfold cutL
  rw [HT.sIx_none, HT.sIx_nat, List.drop_zero, Nat.sub_zero]
  rcases Nat.le_total j l.length with h | h
  · rw [Nat.min_eq_left h]
  · rw [Nat.min_eq_right h, List.take_length, List.take_of_length_le h]
theorem cut_drop {α : Type} (l : List α) (j : Nat) : cutL l (some (j : Int)) none = l.drop j := by
  unfold cutL
  rw [HT.sIx_none, HT.sIx_nat]
  rcases Nat.le_total j l.length with h | h
  · rw [Nat.min_eq_left h]
    exact List.take_of_length_le (by rw [List.length_drop]; exact Nat.le_refl _)
  · rw [Nat.min_eq_right h, List.drop_length, List.drop_eq_nil_of_le h, List.take_nil]
theorem ordsK_each : ∀ {k : Nat} {l o : List Int}, o ∈ ordsK k l → o.length = k
  | 0, l, o, h => by rw [List.mem_singleton.mp h]; rfl
  | k + 1, l, o, h => by
    unfold ordsK at h
    obtain ⟨i, _, h2⟩ := List.mem_flatMap.mp h
    obtain ⟨r, hr, rfl⟩ := List.mem_map.mp h2
    rw [List.length_cons, ordsK_each hr]
theorem drop1_len {l : List Int} {i : Nat} (h : i < l.length) : (l.take i ++ l.drop (i + 1)).length + 1 = l.length := by
  rw [List.length_append, List.length_take, List.length_drop]
  omega
theorem ordsK_len : ∀ {k : Nat} {l : List Int}, l.length = k → (ordsK k l).length = factN k
  | 0, l, _ => rfl
  | k + 1, l, h => by
    unfold ordsK
    have : ∀ (is : List Nat), (∀ i ∈ is, i < l.length) → (is.flatMap fun i => (ordsK k (l.take i ++ l.drop (i + 1))).map fun r => l.getD i 0 :: r).length = is.length * factN k := fun is => by
      induction is with
      | nil => intro _; simp
      | cons i is ih =>
        intro hi
        rw [List.flatMap_cons, List.length_append, List.length_map, ih fun j hj => hi j (List.mem_cons_of_mem _ hj), ordsK_len (by have := drop1_len (hi i List.mem_cons_self); omega), List.length_cons, Nat.succ_mul, Nat.add_comm]
    rw [this _ fun i hi => List.mem_range.mp hi, List.length_range, h]
    rfl
section
variable {fns : List Fn} {i : Nat}
theorem orders_ok (h : fns[i]? = some (F__law_orders i)) : ∀ (k : Nat) (l : List Int), l.length = k → k ≤ 5 → At fns (k + 1) i [.list (l.map .int)] (.ok (.list ((ordsK k l).map encK)))
  | k, l, hl, hk => by
    refine At.mk h rfl fun m hm => ?_
    show fin' (evSs (evFn fns m) [.val (.list (l.map .int)), .un, .un, .un] (F__law_orders i).body) = _
    unfold F__law_orders
    dsimp only
    have c0 : dCmp .eq (.list (l.map .int)) (.list []) = .ok (.bool l.isEmpty) := by rw [cmp_nil _ (plain_ints l), List.isEmpty_map]
    rw [ite_step (k := l.isEmpty) (by simp only [evE, evEs, bor, List.getElem?_cons_zero, bind_ok, c0, tru_bool])]
    cases k with
    | zero =>
      have : l = [] := List.length_eq_zero_iff.mp hl
      subst this
      rw [if_pos (show ([] : List Int).isEmpty = true from rfl), ret_step (d := .list [encK []]) (by simp only [evE, evEs, bind_ok]; rfl)]
      rfl
    | succ k =>
      have hne : l.isEmpty = false := by
        cases l with
        | nil => cases hl
        | cons _ _ => rfl
      rw [hne]
      simp only [if_false, Bool.false_eq_true, nil_step, seqR_next]
      rw [asg_step (d := .list []) (by simp only [evE, evEs, bind_ok])]
      simp only [List.set_cons_zero, List.set_cons_succ]
      rw [for_step rfl (ds := rangeD 0 l.length) (by
        simp only [evIt, evE, evEsB, bor, List.getElem?_cons_zero, bind_ok, dBi, one, dLen, List.length_map]
        rw [if_pos (by omega), Int.toNat_natCast])]
      refine seq_range (fun j ρ => ∃ c, ρ = [.val (.list (l.map .int)), .val (.list (((List.range j).flatMap fun i => (ordsK k (l.take i ++ l.drop (i + 1))).map fun r => l.getD i 0 :: r).map encK)), c, .un]) ⟨_, rfl⟩ (fun j hj ρ ⟨c, hρ⟩ => ?_) fun ρ' ⟨c, hρ⟩ => ?_
      · subst hρ
        have hd1 := drop1_len hj
        have ih := orders_ok h k (l.take j ++ l.drop (j + 1)) (by omega) (by omega) m hm
        have hf : (ordsK k (l.take j ++ l.drop (j + 1))).length = factN k := ordsK_len (by omega)
        have hfl := factN_le (show k ≤ 6 by omega)
        have hpre : ((List.range j).flatMap fun i => (ordsK k (l.take i ++ l.drop (i + 1))).map fun r => l.getD i 0 :: r).length ≤ 50000 := by
          have : ∀ (is : List Nat), (∀ i ∈ is, i < l.length) → (is.flatMap fun i => (ordsK k (l.take i ++ l.drop (i + 1))).map fun r => l.getD i 0 :: r).length = is.length * factN k := fun is => by
            induction is with
            | nil => intro _; simp
            | cons i is ih =>
              intro hi
              rw [List.flatMap_cons, List.length_append, List.length_map, ih fun j hj => hi j (List.mem_cons_of_mem _ hj), ordsK_len (by have := drop1_len (hi i List.mem_cons_self); omega), List.length_cons, Nat.succ_mul, Nat.add_comm]
          rw [this _ fun i hi => Nat.lt_trans (List.mem_range.mp hi) hj, List.length_range]
          have : j * factN k ≤ 5 * 720 := Nat.mul_le_mul (by omega) hfl
          omega
        refine ⟨_, _, rfl, ?_, .val (.int j), rfl⟩
        simp only [List.set_cons_zero, List.set_cons_succ]
        have ej : ((j : Int) + 1) = ((j + 1 : Nat) : Int) := by omega
        have cc : ∀ ρ : Env, ρ[0]? = some (.val (.list (l.map .int))) → ρ[2]? = some (.val (.int j)) → evE (evFn fns m) ρ (.bin .add (.cut (.var 0) .none (.some (.var 2))) (.cut (.var 0) (.some (.bin .add (.var 2) (.cst (.int 1)))) .none)) = .ok (.list ((l.take j ++ l.drop (j + 1)).map .int)) := fun ρ g0 g2 => by
          refine bin_ev (x := .list ((l.take j).map .int)) (y := .list ((l.drop (j + 1)).map .int)) ?_ ?_ ?_
          · simp only [evE, evEo, intO, bor, g0, g2, bind_ok]
            show R.ok (PyData.list (cutL (l.map PyData.int) none (some (j : Int)))) = _
            rw [cut_take, List.map_take]
          · simp only [evE, evEo, intO, bor, g0, g2, bind_ok, bin_add, ej]
            show R.ok (PyData.list (cutL (l.map PyData.int) (some ((j + 1 : Nat) : Int)) none)) = _
            rw [cut_drop, List.map_drop]
          · rw [add_L _ _ (by rw [List.length_map, List.length_map]; rw [List.length_append] at hd1; show _ ≤ 100000; omega), List.map_append]
        rw [asg_step (bin_ev (x := .list (((List.range j).flatMap fun i => (ordsK k (l.take i ++ l.drop (i + 1))).map fun r => l.getD i 0 :: r).map encK)) (y := .list (((ordsK k (l.take j ++ l.drop (j + 1))).map fun r => l.getD j 0 :: r).map encK)) (by
          simp only [evE, bor, List.getElem?_cons_zero, List.getElem?_cons_succ]) (by
          show evE _ _ _ = _
          rw [comp_evM (enc := encK) (l := ordsK k (l.take j ++ l.drop (j + 1))) (fun r => encK (l.getD j 0 :: r)) (by
            unfold evIt
            show (evE _ _ _).bind itemsOf = _
            rw [call_ev (ds := [.list ((l.take j ++ l.drop (j + 1)).map .int)]) (by
              unfold evEsB
              show (evE _ _ _).bind _ = _
              rw [cc _ rfl rfl]
              simp only [evEsB, bind_ok]) ih rfl]
            rfl) fun r hr => ⟨_, rfl, by
              have hr2 := ordsK_each hr
              refine bin_ev (x := encK [l.getD j 0]) (y := encK r) ?_ ?_ (add_K [l.getD j 0] r (by show 1 + r.length ≤ 100000; omega))
              · have e1 : (l.getD j 0) = l[j] := by rw [List.getD_eq_getElem?_getD, List.getElem?_eq_getElem hj]; rfl
                simp only [evE, evEs, bor, Tg.slots, wipeE, List.set_cons_zero, List.set_cons_succ, List.getElem?_cons_zero, List.getElem?_cons_succ, bind_ok, idx_L (enc := PyData.int) (List.getElem?_eq_getElem hj), e1]
                rfl
              · simp only [evE, bor, Tg.slots, wipeE, List.set_cons_zero, List.set_cons_succ, List.getElem?_cons_zero, List.getElem?_cons_succ]⟩, List.map_map]
          rfl) (add_Ks _ _ (by rw [List.length_map, hf]; show _ ≤ 100000; omega)))]
        rw [List.range_succ, List.flatMap_append]
        simp only [List.flatMap_cons, List.flatMap_nil, List.append_nil, List.set_cons_zero, List.set_cons_succ, nil_step]
      · subst hρ
        rw [ret_step (d := .list ((ordsK (k + 1) l).map encK)) (by
          simp only [evE, List.getElem?_cons_zero, List.getElem?_cons_succ]
          rfl)]
        rfl
end
end Qw

set_option Elab.async false
set_option linter.all false
set_option maxRecDepth 100000
set_option maxHeartbeats 4000000
/-! law_k16: the walk. By an AI agent. -/
namespace Qw.K16
open PySem L2 Qw
def fns : List Fn := [F_in_range, F_is_coalition 0, F_is_subset, F_is_game 0 1 2, F_check_game 3, F_check_player 4 0, F_all_coalitions, F_is_winning 2, F_with_player, F_outsiders, F_maximal_losing_of 6 7 8 9, F_factorial, F_swing_sizes 6 7 8, F_swings 4 12, F_pivots 4 12 11, F_dual_of 9 10, F_dual 4 15, F_dummies 4, F_dominates 6 7 8, F_is_at_least 5 18, F__law_cell, F__law_row 20, F__law_coalitions, F__law_within, F__law_wins 23, F__law_minimal 23, F__law_game 21 22 25, F__law_orders 27, F_law_k16 26 22 24 13 27 14 16 19 17]
def consts : List (Str × D) := [("MAX_PLAYERS", (.int 6)), ("GameError", .dict []), ("InvalidGame", .dict []), ("InvalidPlayer", .dict [])]
def places : List (Str × Nat) := [("in_range", 6), ("is_coalition", 7), ("is_subset", 8), ("is_game", 9), ("check_game", 10), ("check_player", 11), ("all_coalitions", 12), ("is_winning", 13), ("with_player", 14), ("outsiders", 15), ("maximal_losing_of", 16), ("factorial", 18), ("swing_sizes", 19), ("swings", 20), ("pivots", 21), ("dual_of", 23), ("dual", 24), ("dummies", 26), ("dominates", 27), ("is_at_least", 28), ("_law_cell", 30), ("_law_row", 31), ("_law_coalitions", 32), ("_law_within", 33), ("_law_wins", 34), ("_law_minimal", 35), ("_law_game", 36), ("_law_orders", 37), ("law", 38)]
def others : List Str := ["MAX_PLAYERS", "GameError", "InvalidGame", "InvalidPlayer"]
section
variable {m : Nat} (hm : 10 ≤ m)
theorem chk : Chk fns 4 := chk_of (i := 4) (j := 3) (i1 := 0) (i2 := 1) (i3 := 2) rfl rfl rfl rfl rfl
theorem g_ok (ns : List Int) : ∃ n ms, 1 ≤ n ∧ n ≤ 5 ∧ Game n ms ∧ ∀ m, 10 ≤ m → evFn fns m 26 [scr ns, .int 2, .int 5] = .ok (gameD n ms) := by
  obtain ⟨n, ms, h1, h2, h3, h4⟩ := game_ok (fns := fns) (i := 26) (i1 := 21) (i2 := 22) (i3 := 25) (q := 20) (w := 23) rfl rfl rfl rfl rfl rfl ns 2 5 (by omega) (by omega)
  exact ⟨n, ms, h1, h2, h3.game, fun m hm => h4 m (by omega)⟩
variable {n : Nat} {ms : List (List Int)} (G : Game n ms) (h1 : 1 ≤ n) (h5 : n ≤ 5)
include hm
theorem all_ok (hn : n ≤ 5) : evFn fns m 22 [.int n] = .ok (.list ((allC n).map encK)) := law_coalitions_ok (fns := fns) (i := 22) rfl n (by omega) m (by omega)
theorem wins_ok (c : List Int) : evFn fns m 24 [gameD n ms, encK c] = .ok (.bool (winB ms c)) := law_wins_ok (fns := fns) (i := 24) (j := 23) rfl rfl n ms c m (by omega)
include G h1 h5
theorem sw_ok : evFn fns m 13 [gameD n ms] = .ok (.tuple ((rng n).map fun p => .int (sizes n ms p).length)) := swings_ok (fns := fns) (i := 13) (j := 4) (e := 12) (a := 6) (b := 7) (c := 8) (d := 2) rfl chk rfl rfl rfl rfl rfl G h1 (by omega) m (by omega)
theorem pv_ok : evFn fns m 14 [gameD n ms] = .ok (.tuple ((rng n).map fun p => .int (pivs n ms p))) := pivots_ok (fns := fns) (i := 14) (j := 4) (e := 12) (f := 11) (a := 6) (b := 7) (c := 8) (d := 2) rfl chk rfl rfl rfl rfl rfl rfl G h1 (by omega) m (by omega)
theorem du_ok : evFn fns m 16 [gameD n ms] = .ok (gameD n (dualK n ms)) := dual_ok (fns := fns) (i := 16) (j := 4) (e := 15) rfl chk G h1 (by omega) (fun m hm => dual_of_ok (fns := fns) (i := 15) (e := 9) (j := 10) rfl rfl (by omega) (fun m hm => maximal_losing_ok (fns := fns) (i := 10) (a := 6) (b := 7) (c := 8) (e := 9) (d := 2) rfl rfl rfl rfl rfl rfl ms (by omega) m hm) m hm) m (by omega)
theorem dm_ok : evFn fns m 17 [gameD n ms] = .ok (.list (((rng n).filter (dumB ms)).map .int)) := dummies_ok (fns := fns) (i := 17) (j := 4) rfl chk G h1 (by omega) m (by omega)
theorem al_ok {l r : Int} (hl : l ∈ rng n) (hr : r ∈ rng n) : evFn fns m 19 [gameD n ms, .int l, .int r] = .ok (.bool (domB n ms l r)) :=
  is_at_least_ok (fns := fns) (i := 19) (j := 5) (e := 18) rfl (fun m hm => check_player_ok (fns := fns) (i := 5) (j := 4) (e := 0) rfl chk rfl G h1 (by omega) hl m hm) (fun m hm => check_player_ok (fns := fns) (i := 5) (j := 4) (e := 0) rfl chk rfl G h1 (by omega) hr m hm)
    (fun m hm => dominates_ok (fns := fns) (i := 18) (a := 6) (b := 7) (c := 8) (d := 2) rfl rfl rfl rfl rfl ms (by omega) l r m hm) m (by omega)
omit G h1 in
theorem or_ok : evFn fns m 27 [.list ((rng n).map .int)] = .ok (.list ((ordsK n (rng n)).map encK)) := orders_ok (fns := fns) (i := 27) rfl n (rng n) (rng_len n) h5 m (by omega)
end
end Qw.K16

set_option Elab.async false
set_option linter.all false
set_option maxRecDepth 100000
set_option maxHeartbeats 4000000
/-! law_k16: the while loop. By an AI agent. -/
namespace Qw
open PySem L2
/-- a while loop that counts up to the first k at which t holds -/
theorem while_up {test : Env → R Bool} {body : Env → Res} {mk : Nat → Env} {t : Nat → Bool} (hb : ∀ k, t k = false → body (mk k) = .next (mk (k + 1))) {N : Nat} (ht : ∀ k, k ≤ N → test (mk k) = .ok (!t k)) (hN : t N = true) :
    ∀ (d k fuel : Nat), N - k ≤ d → k ≤ N → d < fuel → (∀ j, j < k → t j = false) → ∃ K, k ≤ K ∧ K ≤ N ∧ t K = true ∧ (∀ j, k ≤ j → j < K → t j = false) ∧ whileLoop test body fuel (mk k) = .next (mk K)
  | d, k, fuel, hd, hk, hf, hj => by
    obtain ⟨f, rfl⟩ : ∃ f, fuel = f + 1 := ⟨fuel - 1, by omega⟩
    cases htk : t k with
    | true =>
      refine ⟨k, Nat.le_refl _, hk, htk, fun j h1 h2 => by omega, ?_⟩
      unfold whileLoop
      rw [ht k hk, htk]
      rfl
    | false =>
      have hlt : k < N := by
        rcases Nat.lt_or_ge k N with z | z
        · exact z
        · have : k = N := by omega
          rw [this, hN] at htk
          cases htk
      cases d with
      | zero => omega
      | succ d =>
        obtain ⟨K, h1, h2, h3, h4, h5⟩ := while_up hb ht hN d (k + 1) f (by omega) (by omega) (by omega) (fun j hj' => by
          by_cases e : j = k
          · rw [e]; exact htk
          · exact hj j (by omega))
        refine ⟨K, by omega, h2, h3, fun j a1 a2 => ?_, ?_⟩
        · by_cases e : j = k
          · rw [e]; exact htk
          · exact h4 j (by omega) a2
        · unfold whileLoop
          rw [ht k hk, htk]
          show seqR (body (mk k)) _ = _
          rw [hb k htk, seqR_next]
          exact h5
end Qw

set_option Elab.async false
set_option linter.all false
set_option maxRecDepth 100000
set_option maxHeartbeats 4000000
/-! The pivot of an order. By an AI agent. -/
namespace Qw
open PySem L2
def ndB : List Int → Bool
  | [] => true
  | x :: l => !l.contains x && ndB l
theorem ndB_iff : ∀ {l : List Int}, ndB l = true → l.Nodup
  | [], _ => List.nodup_nil
  | x :: l, h => by
    unfold ndB at h
    rw [Bool.and_eq_true, Bool.not_eq_true'] at h
    refine List.nodup_cons.mpr ⟨fun z => ?_, ndB_iff h.2⟩
    have := List.contains_iff_mem.mpr z
    rw [h.1] at this
    cases this
def ordN (n : Nat) : Bool := (ordsK n (rng n)).all ndB
theorem ordN_ok : ∀ {n : Nat}, 1 ≤ n → n ≤ 5 → ordN n = true
  | 1, _, _ => by decide +kernel
  | 2, _, _ => by decide +kernel
  | 3, _, _ => by decide +kernel
  | 4, _, _ => by decide +kernel
  | 5, _, _ => by decide +kernel
  | 0, h, _ => by omega
  | _ + 6, _, h => by omega
structure Order (n : Nat) (o : List Int) : Prop where
  nd : o.Nodup
  len : o.length = n
  all : ∀ p ∈ rng n, p ∈ o
  mem : ∀ p ∈ o, p ∈ rng n
theorem order_of {n : Nat} (h1 : 1 ≤ n) (h5 : n ≤ 5) {o : List Int} (ho : o ∈ ordsK n (rng n)) : Order n o := by
  have hb := (ordOk h1 h5).1
  have hn := ordN_ok h1 h5
  unfold ordB at hb
  unfold ordN at hn
  simp only [List.all_eq_true, Bool.and_eq_true, List.contains_iff_mem] at hb hn
  refine ⟨ndB_iff (hn o ho), ordsK_each ho, fun p hp => (hb o ho p hp).1.1.1, fun p hp => ?_⟩
  have h0 : (0 : Int) ∈ rng n := rng_mem.mpr (by omega)
  exact (hb o ho 0 h0).2 p hp
theorem bef_take : ∀ {o : List Int} {i : Nat} {p : Int}, o.Nodup → o[i]? = some p → bef p o = o.take i
  | [], i, p, _, h => by cases h
  | x :: o, 0, p, _, h => by
    cases h
    simp [bef, List.takeWhile]
  | x :: o, i + 1, p, nd, h => by
    obtain ⟨n1, n2⟩ := List.nodup_cons.mp nd
    have hm : p ∈ o := List.mem_of_getElem? h
    have hne : x ≠ p := fun z => n1 (z ▸ hm)
    have ih := bef_take n2 h
    unfold bef at ih ⊢
    rw [List.takeWhile_cons, if_pos (by simp [hne]), ih]
    rfl
/-- the pivot stands where the order begins to win -/
theorem piv_at {n : Nat} {ms : List (List Int)} {o : List Int} (O : Order n o) {K : Nat} (hK : K + 1 ≤ n) (hw : winB ms (o.take (K + 1)) = true) (hl : winB ms (o.take K) = false) {q p : Int} (hq : o[K]? = some q) (hp : p ∈ rng n) : pivB ms p o = decide (p = q) := by
  obtain ⟨i, hi⟩ := List.getElem?_of_mem (O.all p hp)
  have hlt : i < o.length := (List.getElem?_eq_some_iff.mp hi).1
  unfold pivB
  rw [bef_take O.nd hi]
  have e1 : winB ms (o.take i ++ [p]) = winB ms (o.take (i + 1)) := by
    congr 1
    rw [List.take_add_one, hi]
    rfl
  rw [e1]
  have mono : ∀ a b : Nat, a ≤ b → winB ms (o.take a) = true → winB ms (o.take b) = true := fun a b hab h => winB_mono (fun x hx => (List.take_subset_take_left o hab) hx) h
  rcases Nat.lt_trichotomy i K with z | z | z
  · have : winB ms (o.take (i + 1)) = false := by
      cases h : winB ms (o.take (i + 1)) with
      | false => rfl
      | true => rw [mono _ _ (show i + 1 ≤ K by omega) h] at hl; cases hl
    rw [this, Bool.and_false]
    refine (decide_eq_false fun e => ?_).symm
    have := (List.getElem?_inj hlt O.nd (j := K)).mp (by rw [hi, hq, e])
    omega
  · subst z
    rw [hi] at hq
    cases hq
    rw [hw, hl, decide_eq_true rfl]
    rfl
  · rw [mono _ _ (show K + 1 ≤ i by omega) hw]
    refine (decide_eq_false fun e => ?_).symm
    have := (List.getElem?_inj hlt O.nd (j := K)).mp (by rw [hi, hq, e])
    omega
end Qw

set_option Elab.async false
set_option linter.all false
set_option maxRecDepth 100000
set_option maxHeartbeats 4000000
/-! Loops and comparisons, further; the loop over the orders. By an AI agent. -/
namespace Qw
open PySem L2
section
variable {call : Nat → List D → R D} {ρ : Env} {c k e : E} {ss a : Ss} {i : Nat}
theorem while_step : evSs call ρ (.cons (.whileS c a) ss) = seqR (whileLoop (fun ρ' => (bor ρ' c (evE call ρ' c)).bind tru) (fun ρ' => evSs call ρ' a) fuelW ρ) fun ρ' => evSs call ρ' ss := by
  conv => lhs; unfold evSs evS
theorem setIx_step {es : List D} {d : D} {q : Int} {j : Nat} (ho : ρ[i]? = some (.own es)) (he : evE call ρ e = .ok d) (hk : evE call ρ k = .ok (.int q)) (hj : ixN es.length q = some j) : evSs call ρ (.cons (.setIx i k e) ss) = evSs call (ρ.set i (.own (es.set j d))) ss := by
  conv => lhs; unfold evSs evS
  rw [ho]
  dsimp only
  rw [he]
  dsimp only [rThen_ok]
  rw [hk]
  dsimp only [rThen_ok]
  rw [hj]
  rfl
end
/-- a loop that never leaves -/
theorem loop_next {α γ : Type} {enc : α → D} {tg : Tg} {body : Env → Res} (mk : γ → Env) : ∀ {l : List α} (g0 : γ),
    (∀ a ∈ l, ∀ g : γ, ∃ ρ1 g', bindTg tg (enc a) (mk g) = some ρ1 ∧ body ρ1 = .next (mk g')) → ∃ g, forLoop tg body (l.map enc) (mk g0) = .next (mk g)
  | [], g0, _ => ⟨g0, rfl⟩
  | a :: l, g0, hs => by
    obtain ⟨ρ1, g', h1, h2⟩ := hs a List.mem_cons_self g0
    obtain ⟨g, h3⟩ := loop_next mk g' fun b hb => hs b (List.mem_cons_of_mem _ hb)
    refine ⟨g, ?_⟩
    rw [List.map_cons]
    unfold forLoop
    rw [h1]
    dsimp only
    rw [h2, seqR_next]
    exact h3
theorem okEq_LI (a b : List Int) : okEq (.list (a.map .int)) (.list (b.map .int)) = true := by
  unfold okEq
  simp only [PyData.plain, plain_ints, PyData.depth, depth_ints]
  rfl
theorem cmp_eqLI (a b : List Int) : dCmp .eq (.list (a.map .int)) (.list (b.map .int)) = .ok (.bool (decide (a = b))) := by
  show (if okEq _ _ = true then R.ok (PyData.bool (PyData.eqv _ _)) else .bad) = _
  rw [if_pos (okEq_LI a b)]
  simp only [PyData.eqv, eqv_ints]
theorem rng_at {n : Nat} {p : Int} (hp : p ∈ rng n) : (rng n)[p.toNat]? = some p := by
  obtain ⟨h1, h2⟩ := rng_mem.mp hp
  unfold rng
  rw [List.getElem?_map, List.getElem?_range (by omega)]
  show some _ = _
  congr 1
  show ((p.toNat : Nat) : Int) = p
  omega
theorem idx_rngT {n : Nat} {p : Int} (hp : p ∈ rng n) (f : Int → Int) : dIdx (encK ((rng n).map f)) (.int p) = .ok (.int (f p)) := by
  have := idx_T (enc := PyData.int) (l := (rng n).map f) (k := p.toNat) (x := f p) (by rw [List.getElem?_map, rng_at hp]; rfl)
  rw [show ((p.toNat : Nat) : Int) = p by have := rng_mem.mp hp; omega] at this
  exact this
theorem idx_rngL {n : Nat} {p : Int} (hp : p ∈ rng n) (f : Int → D) : dIdx (.list ((rng n).map f)) (.int p) = .ok (f p) := by
  have := idx_L (enc := f) (l := rng n) (k := p.toNat) (x := p) (rng_at hp)
  rw [show ((p.toNat : Nat) : Int) = p by have := rng_mem.mp hp; omega] at this
  exact this
theorem ixN_rng {n : Nat} {p : Int} (hp : p ∈ rng n) : ixN n p = some p.toNat := by
  obtain ⟨h1, h2⟩ := rng_mem.mp hp
  unfold ixN
  rw [if_pos h1, if_pos h2]
theorem rng_set {n : Nat} {p : Int} (hp : p ∈ rng n) (f : Int → Int) : ((rng n).map fun q => PyData.int (f q)).set p.toNat (.int (f p + 1)) = (rng n).map fun q => PyData.int (f q + if q = p then 1 else 0) := by
  obtain ⟨h1, h2⟩ := rng_mem.mp hp
  apply List.ext_getElem?
  intro j
  rw [List.getElem?_set, List.getElem?_map, List.length_map, rng_len, List.getElem?_map]
  by_cases hj : j < n
  · have e : (rng n)[j]? = some (j : Int) := by
      have := rng_at (n := n) (p := (j : Int)) (rng_mem.mpr (by omega))
      simpa using this
    rw [e]
    by_cases z : p.toNat = j
    · rw [if_pos z, if_pos (by omega)]
      have : (j : Int) = p := by omega
      simp [this]
    · rw [if_neg z]
      have : (j : Int) ≠ p := by omega
      simp [this]
  · have e : (rng n)[j]? = none := by
      rw [List.getElem?_eq_none_iff, rng_len]
      omega
    rw [e]
    have : p.toNat ≠ j := by omega
    simp [this]
end Qw
namespace Qw.K16
open PySem L2 Qw
theorem order_step {n m : Nat} {ms : List (List Int)} (hm : 10 ≤ m) (G : Game n ms) (h1 : 1 ≤ n) (h5 : n ≤ 5) {o : List Int} (O : Order n o) (f : Int → Int) (a0 a3 a5 a6 a7 a10 a11 a12 a13 a14 : Cell) (cs : List D) :
    ∃ K q, o[K]? = some q ∧ q ∈ rng n ∧ K + 1 ≤ n ∧ winB ms (o.take (K + 1)) = true ∧ winB ms (o.take K) = false ∧
    evSs (evFn fns m) [a0, .val (gameD n ms), .val (.int n), a3, .own cs, a5, a6, a7, .own ((rng n).map fun p => .int (f p)), .val (encK o), a10, a11, a12, a13, a14]
      (.cons (.asg 10 (.cst (.int 1))) (.cons (.whileS (.not (.call 24 (.cons (.var 1) (.cons (.cut (.var 9) .none (.some (.var 10))) .nil)))) (.cons (.asg 10 (.bin .add (.var 10) (.cst (.int 1)))) .nil)) (.cons (.setIx 8 (.idx (.var 9) (.bin .sub (.var 10) (.cst (.int 1)))) (.bin .add (.idx (.var 8) (.idx (.var 9) (.bin .sub (.var 10) (.cst (.int 1))))) (.cst (.int 1)))) .nil)))
    = .next [a0, .val (gameD n ms), .val (.int n), a3, .own cs, a5, a6, a7, .own ((rng n).map fun p => .int (f p + if p = q then 1 else 0)), .val (encK o), .val (.int ((K + 1 : Nat) : Int)), a11, a12, a13, a14] := by
  have hw : ∀ c, evFn fns m 24 [gameD n ms, encK c] = .ok (.bool (winB ms c)) := fun c => wins_ok (by omega) c
  rw [asg_step (d := .int 1) rfl]
  simp only [List.set_cons_zero, List.set_cons_succ]
  rw [while_step]
  obtain ⟨K, k1, k2, k3, k4, k5⟩ := while_up (test := fun ρ' => (bor ρ' (.not (.call 24 (.cons (.var 1) (.cons (.cut (.var 9) .none (.some (.var 10))) .nil)))) (evE (evFn fns m) ρ' (.not (.call 24 (.cons (.var 1) (.cons (.cut (.var 9) .none (.some (.var 10))) .nil)))))).bind tru) (body := fun ρ' => evSs (evFn fns m) ρ' (.cons (.asg 10 (.bin .add (.var 10) (.cst (.int 1)))) .nil))
    (mk := fun k => [a0, .val (gameD n ms), .val (.int n), a3, .own cs, a5, a6, a7, .own ((rng n).map fun p => .int (f p)), .val (encK o), .val (.int ((k : Nat) : Int)), a11, a12, a13, a14]) (t := fun k => winB ms (o.take k)) (fun k _ => by
      rw [asg_step (d := .int ((k + 1 : Nat) : Int)) (by simp only [evE, bor, List.getElem?_cons_zero, List.getElem?_cons_succ, bind_ok, bin_add]; rfl)]
      simp only [List.set_cons_zero, List.set_cons_succ, nil_step]) (N := n) (fun k hk => by
      have hc : dCut (encK o) none (some (k : Int)) = .ok (encK (o.take k)) := by
        show R.ok (PyData.tuple (cutL (o.map PyData.int) none (some (k : Int)))) = _
        rw [cut_take, ← List.map_take]
        rfl
      simp only [bor, evE, evEsB, evEo, intO, List.getElem?_cons_zero, List.getElem?_cons_succ, bind_ok, hc, hw, flatD, Bool.true_or, if_true, tru_bool]) (by
      show winB ms (o.take n) = true
      rw [List.take_of_length_le (by rw [O.len]; exact Nat.le_refl _), winB_congr (b := rng n) fun x => ⟨O.mem x, O.all x⟩]
      exact G.full) n 1 fuelW (by omega) (by omega) (by unfold fuelW; omega) (fun j hj => by
      have : j = 0 := by omega
      subst this
      exact G.nil)
  have k5' := k5
  simp only [Int.natCast_one] at k5'
  rw [k5']
  clear k5 k5'
  simp only [seqR_next]
  have hK : K - 1 < o.length := by rw [O.len]; omega
  have e : K = K - 1 + 1 := by omega
  have hq : o[K - 1]? = some (o[K - 1]) := List.getElem?_eq_getElem hK
  have hr : o[K - 1] ∈ rng n := O.mem _ (List.getElem_mem hK)
  refine ⟨K - 1, o[K - 1], hq, hr, by omega, by rw [← e]; exact k3, ?_, ?_⟩
  · by_cases z : K = 1
    · subst z; exact G.nil
    · exact k4 (K - 1) (by omega) (by omega)
  have hi : dIdx (encK o) (.int ((K : Int) - 1)) = .ok (.int o[K - 1]) := by
    have := idx_T (enc := PyData.int) hq
    rw [show ((K - 1 : Nat) : Int) = (K : Int) - 1 by omega] at this
    exact this
  have hf := idx_rngL hr fun p => PyData.int (f p)
  rw [setIx_step (es := (rng n).map fun p => .int (f p)) (d := .int (f o[K - 1] + 1)) (q := o[K - 1]) (j := (o[K - 1]).toNat) rfl (by
      simp only [evE, bor, List.getElem?_cons_zero, List.getElem?_cons_succ, bind_ok, bin_sub, hi, hf, bin_add]) (by
      simp only [evE, bor, List.getElem?_cons_zero, List.getElem?_cons_succ, bind_ok, bin_sub, hi]) (by rw [List.length_map, rng_len]; exact ixN_rng hr)]
  simp only [List.set_cons_zero, List.set_cons_succ, nil_step]
  rw [rng_set hr f, ← e]
end Qw.K16

set_option Elab.async false
set_option linter.all false
set_option maxRecDepth 100000
set_option maxHeartbeats 4000000
/-! The evaluator by simp: what comes later is looked at later. By an AI agent. -/
namespace Qw
open PySem L2
/-! continuations by name: the evaluator without functions in its terms -/
section
variable (call : Nat → List D → R D) (ρ : Env)
def bodyOf (b : Ss) : Env → Res := fun ρ => evSs call ρ b
def testOf (c : E) : Env → R Bool := fun ρ => (bor ρ c (evE call ρ c)).bind tru
def tupR (r : R (List D)) : R D := r.bind fun ds => .ok (.tuple ds)
def lstR (r : R (List D)) : R D := r.bind fun ds => .ok (.list ds)
def bin2 (op : BOp) (x : D) (r : R D) : R D := r.bind fun y => dBin op x y
def bin1 (op : BOp) (b : E) (r : R D) : R D := r.bind fun x => bin2 op x (bor ρ b (evE call ρ b))
def negR (r : R D) : R D := r.bind fun x => match x with
    | .int i => .ok (.int (-i))
    | _ => .bad
def cmp2 (op : COp) (x : D) (r : R D) : R D := r.bind fun y => dCmp op x y
def cmp1 (op : COp) (b : E) (r : R D) : R D := r.bind fun x => cmp2 op x (bor ρ b (evE call ρ b))
def chain3 (j : Int) (r : R D) : R D := r.bind fun z => (match z with
      | .int k => .ok (.bool (decide (j ≤ k)))
      | _ => .bad)
def chain2 (c : E) (x : D) (r : R D) : R D := r.bind fun y => match x, y with
    | .int i, .int j => if i ≤ j then chain3 j (evE call ρ c) else .ok (.bool false)
    | _, _ => .bad
def chain1 (b c : E) (r : R D) : R D := r.bind fun x => chain2 call ρ c x (evE call ρ b)
def isNR (n : Bool) (r : R D) : R D := r.bind fun x => match x with
    | .none => .ok (.bool (!n))
    | .dict _ => .bad
    | _ => .ok (.bool n)
def and2 (b : E) (x : D) (r : R Bool) : R D := r.bind fun k => if k = true then evE call ρ b else .ok x
def and1 (b : E) (r : R D) : R D := r.bind fun x => and2 call ρ b x (tru x)
def or2 (b : E) (x : D) (r : R Bool) : R D := r.bind fun k => if k = true then .ok x else evE call ρ b
def or1 (b : E) (r : R D) : R D := r.bind fun x => or2 call ρ b x (tru x)
def notR (r : R Bool) : R D := r.bind fun k => .ok (.bool (!k))
def not1 (r : R D) : R D := r.bind fun x => notR (tru x)
def ifx2 (a b : E) (r : R Bool) : R D := r.bind fun k => if k = true then evE call ρ a else evE call ρ b
def ifx1 (a b : E) (r : R D) : R D := r.bind fun x => ifx2 call ρ a b (tru x)
def idx2 (x : D) (r : R D) : R D := r.bind fun y => dIdx x y
def idx1R (b : E) (r : R D) : R D := r.bind fun x => idx2 x (evE call ρ b)
def cut3 (x : D) (l : Option Int) (r : R (Option Int)) : R D := r.bind fun h => dCut x l h
def cut2 (hi : Eo) (x : D) (r : R (Option Int)) : R D := r.bind fun l => cut3 x l (evEo call ρ hi)
def cut1R (lo hi : Eo) (r : R D) : R D := r.bind fun x => cut2 call ρ hi x (evEo call ρ lo)
def revR (r : R D) : R D := r.bind fun x => dRev x
def biR (b : Bi) (r : R (List D)) : R D := r.bind fun ds => dBi b ds
def call2 (own : Bool) (r : R D) : R D := r.bind fun r => if flatD r || !own then .ok r else .bad
def call1 (f : Nat) (own : Bool) (r : R (List D)) : R D := r.bind fun ds => call2 own (call f ds)
def oneR (r : R D) : R (List D) := r.bind fun r => .ok [r]
def turn2 (elt : E) (r : R Bool) : R (List D) := r.bind fun k => if k = true then oneR (evE call ρ elt) else .ok []
def turn1 (cond : Eo) (elt : E) (o : Option Env) : R (List D) := match o with
  | none => .bad
  | some ρ' => turn2 call ρ' elt (evCond call ρ' cond)
def turnE (tg : Tg) (cond : Eo) (elt : E) : D → R (List D) := fun d => turn1 call cond elt (bindTg tg d ρ)
def inner3 (tg2 : Tg) (cond2 : Eo) (elt : E) (r : R (List D)) : R (List D) := r.bind fun es => compLoop (turnE call (wipeE ρ tg2.slots) tg2 cond2 elt) es
def inner2 (tg2 : Tg) (it2 : It) (cond2 : Eo) (elt : E) (r : R Bool) : R (List D) := r.bind fun k => if k = true then inner3 call ρ tg2 cond2 elt (if itOwn ρ it2 then .bad else (evIt call ρ it2)) else .ok []
def inner1 (cond : Eo) (tg2 : Tg) (it2 : It) (cond2 : Eo) (elt : E) (o : Option Env) : R (List D) := match o with
  | none => .bad
  | some ρ' => inner2 call ρ' tg2 it2 cond2 elt (evCond call ρ' cond)
def turn2E (tg : Tg) (cond : Eo) (tg2 : Tg) (it2 : It) (cond2 : Eo) (elt : E) : D → R (List D) := fun d => inner1 call cond tg2 it2 cond2 elt (bindTg tg d ρ)
def compR : R (List D) → R D
  | .ok rs => .ok (.list rs)
  | _ => .bad
def compR2 : R (List D) → R D
  | .ok rs => if rs.length ≤ LIM then .ok (.list rs) else .bad
  | _ => .bad
def compI (tg : Tg) (cond : Eo) (elt : E) (r : R (List D)) : R D := r.bind fun ds => compR (compLoop (turnE call (wipeE ρ tg.slots) tg cond elt) ds)
def compI2 (tg : Tg) (cond : Eo) (tg2 : Tg) (it2 : It) (cond2 : Eo) (elt : E) (r : R (List D)) : R D := r.bind fun ds => compR2 (compLoop (turn2E call (wipeE ρ (tg.slots ++ tg2.slots)) tg cond tg2 it2 cond2 elt) ds)
def es2 (d : D) (r : R (List D)) : R (List D) := r.bind fun ds => .ok (d :: ds)
def es1 (es : Es) (r : R D) : R (List D) := r.bind fun d => es2 d (evEs call ρ es)
def esb1 (es : Es) (r : R D) : R (List D) := r.bind fun d => es2 d (evEsB call ρ es)
def condR (r : R D) : R Bool := r.bind fun x => tru x
def seqI (r : R D) : R (List D) := r.bind itemsOf
def rg1R (r : R D) : R (List D) := r.bind fun x => match x with
    | .int n => if -1000000 ≤ n ∧ n ≤ 1000000 then .ok (rangeD 0 n.toNat) else .bad
    | _ => .bad
def rg2b (x : D) (r : R D) : R (List D) := r.bind fun y => match x, y with
    | .int i, .int j => if (-1000000 ≤ i ∧ i ≤ 1000000) ∧ -1000000 ≤ j ∧ j ≤ 1000000 then .ok (rangeD i (j - i).toNat) else .bad
    | _, _ => .bad
def rg2a (b : E) (r : R D) : R (List D) := r.bind fun x => rg2b x (evE call ρ b)
def zip2 (x : D) (r : R D) : R (List D) := r.bind fun y => dZip x y
def zip1 (b : E) (r : R D) : R (List D) := r.bind fun x => zip2 x (bor ρ b (evE call ρ b))
def enumR (r : R D) : R (List D) := r.bind fun x => dEnum x
/-! statements -/
def seqS (ss : Ss) (r : Res) : Res := seqR r fun ρ' => evSs call ρ' ss
def asgR (i : Nat) (r : R D) : Res := rThen ρ r fun d => .next (ρ.set i (.val d))
def ownR (i : Nat) (r : R D) : Res := rThen ρ r fun d => (match d with
      | .list ds => .next (ρ.set i (.own ds))
      | _ => .bad)
def setR (o : Option Env) : Res := match o with
        | some ρ' => .next ρ'
        | none => .bad
def asgTR (is : List Nat) (r : R D) : Res := rThen ρ r fun d => (match d with
      | .tuple ds => setR (setAll is ds ρ)
      | _ => .bad)
def setIx3 (i : Nat) (ds : List D) (d : D) (o : Option Nat) : Res := match o with
          | some j => .next (ρ.set i (.own (ds.set j d)))
          | none => .bad
def setIx2 (i : Nat) (ds : List D) (d : D) (r : R D) : Res := rThen ρ r fun kd => (match kd with
        | .int n => setIx3 ρ i ds d (ixN ds.length n)
        | _ => .bad)
def setIx1 (i : Nat) (k : E) (ds : List D) (r : R D) : Res := rThen ρ r fun d => setIx2 ρ i ds d (evE call ρ k)
def setIx0 (i : Nat) (k e : E) (c : Option Cell) : Res := match c with
      | some (.own ds) => setIx1 call ρ i k ds (evE call ρ e)
      | _ => .bad
def app1 (i : Nat) (ds : List D) (r : R D) : Res := rThen ρ r fun d => if ds.length < LIM then .next (ρ.set i (.own (ds ++ [d]))) else .bad
def app0 (i : Nat) (e : E) (c : Option Cell) : Res := match c with
      | some (.own ds) => app1 ρ i ds (evE call ρ e)
      | _ => .bad
def ext1 (i : Nat) (ds : List D) (r : R D) : Res := rThen ρ r fun d => (match d with
        | .list es => if ds.length + es.length ≤ LIM then .next (ρ.set i (.own (ds ++ es))) else .bad
        | _ => .bad)
def ext0 (i : Nat) (e : E) (c : Option Cell) : Res := match c with
      | some (.own ds) => ext1 ρ i ds (evE call ρ e)
      | _ => .bad
def aug1 (i : Nat) (op : BOp) (x : Int) (r : R D) : Res := rThen ρ r fun d => (match op, d with
        | .add, .int y => .next (ρ.set i (.val (.int (x + y))))
        | .sub, .int y => .next (ρ.set i (.val (.int (x - y))))
        | _, _ => .bad)
def aug0 (i : Nat) (op : BOp) (e : E) (c : Option Cell) : Res := match c with
      | some (.val (.int x)) => aug1 ρ i op x (evE call ρ e)
      | _ => .bad
def par2 (i j : Nat) (x : D) (r : R D) : Res := rThen ρ r fun y => .next ((ρ.set i (.val x)).set j (.val y))
def parR (i j : Nat) (b : E) (r : R D) : Res := rThen ρ r fun x => par2 ρ i j x (evE call ρ b)
def exprR (r : R D) : Res := rThen ρ r fun _ => .next ρ
def retR (r : R D) : Res := rThen ρ r fun d => .ret d
def iteR (a b : Ss) (r : R Bool) : Res := rThen ρ r fun k => if k = true then evSs call ρ a else evSs call ρ b
def forR (tg : Tg) (b : Ss) (r : R (List D)) : Res := rThen ρ r fun ds => forLoop tg (bodyOf call b) ds ρ
def tryR (cls : List Str) (hs : Hs) (r : Res) : Res := match r with
      | .err x ρ' => if (x.arg.isNone && cls.contains x.cls) = true then evHs ρ' x hs else .bad
      | r => r
end
section
variable {call : Nat → List D → R D} {ρ : Env} {a b c e elt : E} {es : Es} {x y d : D} {ds : List D} {op : BOp} {cop : COp} {i j f : Nat} {tg tg2 : Tg} {it it2 : It} {cond cond2 lo hi : Eo} {ss s1 s2 : Ss} {k own : Bool} {ex : Exc} {is : List Nat} {l h : Option Int} {n m : Int} {cls : List Str} {hs : Hs}
theorem q_tup : evE call ρ (.tup es) = tupR (evEs call ρ es) := by rw [evE]; rfl
theorem q_lst : evE call ρ (.lst es) = lstR (evEs call ρ es) := by rw [evE]; rfl
theorem q_bin : evE call ρ (.bin op a b) = bin1 call ρ op b (bor ρ a (evE call ρ a)) := by rw [evE]; rfl
theorem q_neg : evE call ρ (.neg a) = negR (evE call ρ a) := by rw [evE]; rfl
theorem q_cmp : evE call ρ (.cmp cop a b) = cmp1 call ρ cop b (bor ρ a (evE call ρ a)) := by rw [evE]; rfl
theorem q_chain : evE call ρ (.chain a b c) = chain1 call ρ b c (evE call ρ a) := by rw [evE]; rfl
theorem q_isN : evE call ρ (.isN k a) = isNR k (evE call ρ a) := by rw [evE]; rfl
theorem q_and : evE call ρ (.and a b) = and1 call ρ b (evE call ρ a) := by rw [evE]; rfl
theorem q_or : evE call ρ (.or a b) = or1 call ρ b (evE call ρ a) := by rw [evE]; rfl
theorem q_not : evE call ρ (.not a) = not1 (bor ρ a (evE call ρ a)) := by rw [evE]; rfl
theorem q_ifx : evE call ρ (.ifx c a b) = ifx1 call ρ a b (bor ρ c (evE call ρ c)) := by rw [evE]; rfl
theorem q_idx : evE call ρ (.idx a b) = idx1R call ρ b (bor ρ a (evE call ρ a)) := by rw [evE]; rfl
theorem q_cut : evE call ρ (.cut a lo hi) = cut1R call ρ lo hi (bor ρ a (evE call ρ a)) := by rw [evE]; rfl
theorem q_rev : evE call ρ (.rev a) = revR (bor ρ a (evE call ρ a)) := by rw [evE]; rfl
theorem q_bi {B : Bi} : evE call ρ (.bi B es) = biR B (evEsB call ρ es) := by rw [evE]; rfl
theorem q_call : evE call ρ (.call f es) = call1 call f (anyOwn ρ es) (evEsB call ρ es) := by rw [evE]; rfl
theorem q_comp : evE call ρ (.comp elt tg it cond) = compI call ρ tg cond elt (evIt call ρ it) := by rw [evE]; rfl
theorem q_comp2 : evE call ρ (.comp2 elt tg it cond tg2 it2 cond2) = compI2 call ρ tg cond tg2 it2 cond2 elt (evIt call ρ it) := by rw [evE]; rfl
theorem q_es : evEs call ρ (.cons e es) = es1 call ρ es (evE call ρ e) := by rw [evEs]; rfl
theorem q_esb : evEsB call ρ (.cons e es) = esb1 call ρ es (bor ρ e (evE call ρ e)) := by rw [evEsB]; rfl
theorem q_cond : evCond call ρ (.some e) = condR (bor ρ e (evE call ρ e)) := by rw [evCond]; rfl
theorem q_seq : evIt call ρ (.seq e) = seqI (bor ρ e (evE call ρ e)) := by rw [evIt]; rfl
theorem q_rg1 : evIt call ρ (.range1 e) = rg1R (evE call ρ e) := by rw [evIt]; rfl
theorem q_rg2 : evIt call ρ (.range2 a b) = rg2a call ρ b (evE call ρ a) := by rw [evIt]; rfl
theorem q_zip : evIt call ρ (.zip a b) = zip1 call ρ b (bor ρ a (evE call ρ a)) := by rw [evIt]; rfl
theorem q_enum : evIt call ρ (.enum a) = enumR (bor ρ a (evE call ρ a)) := by rw [evIt]; rfl
theorem q_ss {S0 : S} : evSs call ρ (.cons S0 ss) = seqS call ss (evS call ρ S0) := by rw [evSs]; rfl
theorem q_asg : evS call ρ (.asg i e) = asgR ρ i (evE call ρ e) := by rw [evS]; rfl
theorem q_own : evS call ρ (.asgOwn i e) = if isNew e then ownR ρ i (evE call ρ e) else .bad := by rw [evS]; rfl
theorem q_asgT : evS call ρ (.asgT is e) = asgTR ρ is (evE call ρ e) := by rw [evS]; rfl
theorem q_setIx : evS call ρ (.setIx i a e) = setIx0 call ρ i a e ρ[i]? := by rw [evS]; rfl
theorem q_app : evS call ρ (.app i e) = app0 call ρ i e ρ[i]? := by rw [evS]; rfl
theorem q_ext : evS call ρ (.ext i e) = ext0 call ρ i e ρ[i]? := by rw [evS]; rfl
theorem q_aug : evS call ρ (.aug i op e) = aug0 call ρ i op e ρ[i]? := by rw [evS]; rfl
theorem q_par : evS call ρ (.par i j a b) = if i = j then .bad else parR call ρ i j b (evE call ρ a) := by rw [evS]; rfl
theorem parR_ok : parR call ρ i j b (.ok x) = par2 ρ i j x (evE call ρ b) := rfl
theorem par2_ok : par2 ρ i j x (.ok y) = .next ((ρ.set i (.val x)).set j (.val y)) := rfl
theorem q_expr : evS call ρ (.expr e) = exprR ρ (evE call ρ e) := by rw [evS]; rfl
theorem q_ret : evS call ρ (.ret e) = retR ρ (evE call ρ e) := by rw [evS]; rfl
theorem q_retN : evS call ρ .retN = .ret .none := by rw [evS]
theorem q_ite : evS call ρ (.ite c s1 s2) = iteR call ρ s1 s2 ((bor ρ c (evE call ρ c)).bind tru) := by rw [evS]; rfl
theorem q_for : evS call ρ (.forS tg it ss) = if itOwn ρ it then .bad else forR call ρ tg ss (evIt call ρ it) := by rw [evS]; rfl
theorem q_while : evS call ρ (.whileS c ss) = whileLoop (testOf call c) (bodyOf call ss) fuelW ρ := by rw [evS]; rfl
theorem q_raise {Z : Str} : evS call ρ (.raise Z) = .err ⟨Z, none⟩ ρ := by rw [evS]
theorem q_try : evS call ρ (.tryS cls ss hs) = tryR cls hs (evSs call ρ ss) := by rw [evS]; rfl
theorem q_pass : evS call ρ .pass = .next ρ := by rw [evS]
theorem tupR_ok : tupR (.ok ds) = .ok (.tuple ds) := rfl
theorem lstR_ok : lstR (.ok ds) = .ok (.list ds) := rfl
theorem bin1_ok : bin1 call ρ op b (.ok x) = bin2 op x (bor ρ b (evE call ρ b)) := rfl
theorem bin2_ok : bin2 op x (.ok y) = dBin op x y := rfl
theorem negR_ok : negR (.ok (.int n)) = .ok (.int (-n)) := rfl
theorem cmp1_ok : cmp1 call ρ cop b (.ok x) = cmp2 cop x (bor ρ b (evE call ρ b)) := rfl
theorem cmp2_ok : cmp2 cop x (.ok y) = dCmp cop x y := rfl
theorem chain1_ok : chain1 call ρ b c (.ok x) = chain2 call ρ c x (evE call ρ b) := rfl
theorem chain2_ok : chain2 call ρ c (.int n) (.ok (.int m)) = if n ≤ m then chain3 m (evE call ρ c) else .ok (.bool false) := rfl
theorem chain3_ok : chain3 m (.ok (.int n)) = .ok (.bool (decide (m ≤ n))) := rfl
theorem isNR_n : isNR k (.ok .none) = .ok (.bool (!k)) := rfl
theorem isNR_b : isNR k (.ok (.bool own)) = .ok (.bool k) := rfl
theorem isNR_i : isNR k (.ok (.int n)) = .ok (.bool k) := rfl
theorem isNR_t : isNR k (.ok (.tuple ds)) = .ok (.bool k) := rfl
theorem isNR_l : isNR k (.ok (.list ds)) = .ok (.bool k) := rfl
theorem and1_ok : and1 call ρ b (.ok x) = and2 call ρ b x (tru x) := rfl
theorem and2_ok : and2 call ρ b x (.ok k) = if k = true then evE call ρ b else .ok x := rfl
theorem or1_ok : or1 call ρ b (.ok x) = or2 call ρ b x (tru x) := rfl
theorem or2_ok : or2 call ρ b x (.ok k) = if k = true then .ok x else evE call ρ b := rfl
theorem not1_ok : not1 (.ok x) = notR (tru x) := rfl
theorem notR_ok : notR (.ok k) = .ok (.bool (!k)) := rfl
theorem ifx1_ok : ifx1 call ρ a b (.ok x) = ifx2 call ρ a b (tru x) := rfl
theorem ifx2_ok : ifx2 call ρ a b (.ok k) = if k = true then evE call ρ a else evE call ρ b := rfl
theorem idx1_ok : idx1R call ρ b (.ok x) = idx2 x (evE call ρ b) := rfl
theorem idx2_ok : idx2 x (.ok y) = dIdx x y := rfl
theorem cut1_ok : cut1R call ρ lo hi (.ok x) = cut2 call ρ hi x (evEo call ρ lo) := rfl
theorem cut2_ok : cut2 call ρ hi x (.ok l) = cut3 x l (evEo call ρ hi) := rfl
theorem cut3_ok : cut3 x l (.ok h) = dCut x l h := rfl
theorem revR_ok : revR (.ok x) = dRev x := rfl
theorem biR_ok {B : Bi} : biR B (.ok ds) = dBi B ds := rfl
theorem call1_ok : call1 call f own (.ok ds) = call2 own (call f ds) := rfl
theorem call2_ok : call2 own (.ok x) = if flatD x || !own then .ok x else .bad := rfl
theorem call2_err : call2 own (.err ex) = .err ex := rfl
theorem oneR_ok : oneR (.ok x) = .ok [x] := rfl
theorem turn1_ok : turn1 call cond elt (some ρ) = turn2 call ρ elt (evCond call ρ cond) := rfl
theorem turn2_ok : turn2 call ρ elt (.ok k) = if k = true then oneR (evE call ρ elt) else .ok [] := rfl
theorem inner1_ok : inner1 call cond tg2 it2 cond2 elt (some ρ) = inner2 call ρ tg2 it2 cond2 elt (evCond call ρ cond) := rfl
theorem inner2_ok : inner2 call ρ tg2 it2 cond2 elt (.ok k) = if k = true then inner3 call ρ tg2 cond2 elt (if itOwn ρ it2 then .bad else (evIt call ρ it2)) else .ok [] := rfl
theorem inner3_ok : inner3 call ρ tg2 cond2 elt (.ok ds) = compLoop (turnE call (wipeE ρ tg2.slots) tg2 cond2 elt) ds := rfl
theorem compI_ok : compI call ρ tg cond elt (.ok ds) = compR (compLoop (turnE call (wipeE ρ tg.slots) tg cond elt) ds) := rfl
theorem compI2_ok : compI2 call ρ tg cond tg2 it2 cond2 elt (.ok ds) = compR2 (compLoop (turn2E call (wipeE ρ (tg.slots ++ tg2.slots)) tg cond tg2 it2 cond2 elt) ds) := rfl
theorem compR_ok : compR (.ok ds) = .ok (.list ds) := rfl
theorem compR2_ok : compR2 (.ok ds) = if ds.length ≤ LIM then .ok (.list ds) else .bad := rfl
theorem es1_ok : es1 call ρ es (.ok x) = es2 x (evEs call ρ es) := rfl
theorem es2_ok : es2 x (.ok ds) = .ok (x :: ds) := rfl
theorem esb1_ok : esb1 call ρ es (.ok x) = es2 x (evEsB call ρ es) := rfl
theorem condR_ok : condR (.ok x) = tru x := rfl
theorem seqI_ok : seqI (.ok x) = itemsOf x := rfl
theorem rg1R_ok : rg1R (.ok (.int n)) = if -1000000 ≤ n ∧ n ≤ 1000000 then .ok (rangeD 0 n.toNat) else .bad := rfl
theorem rg2a_ok : rg2a call ρ b (.ok x) = rg2b x (evE call ρ b) := rfl
theorem rg2b_ok : rg2b (.int n) (.ok (.int m)) = if (-1000000 ≤ n ∧ n ≤ 1000000) ∧ -1000000 ≤ m ∧ m ≤ 1000000 then .ok (rangeD n (m - n).toNat) else .bad := rfl
theorem zip1_ok : zip1 call ρ b (.ok x) = zip2 x (bor ρ b (evE call ρ b)) := rfl
theorem zip2_ok : zip2 x (.ok y) = dZip x y := rfl
theorem enumR_ok : enumR (.ok x) = dEnum x := rfl
theorem seqS_next : seqS call ss (.next ρ) = evSs call ρ ss := rfl
theorem seqS_ret : seqS call ss (.ret d) = .ret d := rfl
theorem seqS_err : seqS call ss (.err ex ρ) = .err ex ρ := rfl
theorem asgR_ok : asgR ρ i (.ok d) = .next (ρ.set i (.val d)) := rfl
theorem asgR_err : asgR ρ i (.err ex) = .err ex ρ := rfl
theorem ownR_ok : ownR ρ i (.ok (.list ds)) = .next (ρ.set i (.own ds)) := rfl
theorem setR_some : setR (some ρ) = .next ρ := rfl
theorem asgTR_ok : asgTR ρ is (.ok (.tuple ds)) = setR (setAll is ds ρ) := rfl
theorem setIx0_ok : setIx0 call ρ i a e (some (.own ds)) = setIx1 call ρ i a ds (evE call ρ e) := rfl
theorem setIx1_ok : setIx1 call ρ i a ds (.ok d) = setIx2 ρ i ds d (evE call ρ a) := rfl
theorem setIx2_ok : setIx2 ρ i ds d (.ok (.int n)) = setIx3 ρ i ds d (ixN ds.length n) := rfl
theorem setIx3_ok : setIx3 ρ i ds d (some j) = .next (ρ.set i (.own (ds.set j d))) := rfl
theorem app0_ok : app0 call ρ i e (some (.own ds)) = app1 ρ i ds (evE call ρ e) := rfl
theorem app1_ok : app1 ρ i ds (.ok d) = if ds.length < LIM then .next (ρ.set i (.own (ds ++ [d]))) else .bad := rfl
theorem aug0_ok : aug0 call ρ i op e (some (.val (.int n))) = aug1 ρ i op n (evE call ρ e) := rfl
theorem aug1_add : aug1 ρ i .add n (.ok (.int m)) = .next (ρ.set i (.val (.int (n + m)))) := rfl
theorem aug1_sub : aug1 ρ i .sub n (.ok (.int m)) = .next (ρ.set i (.val (.int (n - m)))) := rfl
theorem exprR_ok : exprR ρ (.ok d) = .next ρ := rfl
theorem exprR_err : exprR ρ (.err ex) = .err ex ρ := rfl
theorem retR_ok : retR ρ (.ok d) = .ret d := rfl
theorem retR_err : retR ρ (.err ex) = .err ex ρ := rfl
theorem iteR_ok : iteR call ρ s1 s2 (.ok k) = if k = true then evSs call ρ s1 else evSs call ρ s2 := rfl
theorem forR_ok : forR call ρ tg ss (.ok ds) = forLoop tg (bodyOf call ss) ds ρ := rfl
theorem tryR_next : tryR cls hs (.next ρ) = .next ρ := rfl
theorem tryR_ret : tryR cls hs (.ret d) = .ret d := rfl
theorem tryR_err : tryR cls hs (.err ex ρ) = if (ex.arg.isNone && cls.contains ex.cls) = true then evHs ρ ex hs else .bad := rfl
theorem iteR_err : iteR call ρ s1 s2 (.err ex) = .err ex ρ := rfl
theorem ext0_ok : ext0 call ρ i e (some (.own ds)) = ext1 ρ i ds (evE call ρ e) := rfl
theorem ext1_ok {es : List D} : ext1 ρ i ds (.ok (.list es)) = if ds.length + es.length ≤ LIM then .next (ρ.set i (.own (ds ++ es))) else .bad := rfl
end
theorem tru_none : tru .none = .ok false := rfl
theorem items_K (c : List Int) : itemsOf (encK c) = .ok (c.map .int) := rfl
theorem tuple_K (c : List Int) : PyData.tuple (c.map .int) = encK c := rfl
theorem isi_int_none  : isiD .int .none = .ok false := rfl
theorem isi_int_bool (b : Bool) : isiD .int (.bool b) = .ok true := rfl
theorem isi_int_int (v : Int) : isiD .int (.int v) = .ok true := rfl
theorem isi_int_str (z : Str) : isiD .int (.str z) = .ok false := rfl
theorem isi_int_list (ds : List D) : isiD .int (.list ds) = .ok false := rfl
theorem isi_int_tuple (ds : List D) : isiD .int (.tuple ds) = .ok false := rfl
theorem isi_int_K (c : List Int) : isiD .int (encK c) = .ok false := rfl
theorem isi_int_G (n : Int) (ms : List (List Int)) : isiD .int (gameD n ms) = .ok false := rfl
theorem isi_bool_none  : isiD .bool .none = .ok false := rfl
theorem isi_bool_bool (b : Bool) : isiD .bool (.bool b) = .ok true := rfl
theorem isi_bool_int (v : Int) : isiD .bool (.int v) = .ok false := rfl
theorem isi_bool_str (z : Str) : isiD .bool (.str z) = .ok false := rfl
theorem isi_bool_list (ds : List D) : isiD .bool (.list ds) = .ok false := rfl
theorem isi_bool_tuple (ds : List D) : isiD .bool (.tuple ds) = .ok false := rfl
theorem isi_bool_K (c : List Int) : isiD .bool (encK c) = .ok false := rfl
theorem isi_bool_G (n : Int) (ms : List (List Int)) : isiD .bool (gameD n ms) = .ok false := rfl
theorem isi_tuple_none  : isiD .tuple .none = .ok false := rfl
theorem isi_tuple_bool (b : Bool) : isiD .tuple (.bool b) = .ok false := rfl
theorem isi_tuple_int (v : Int) : isiD .tuple (.int v) = .ok false := rfl
theorem isi_tuple_str (z : Str) : isiD .tuple (.str z) = .ok false := rfl
theorem isi_tuple_list (ds : List D) : isiD .tuple (.list ds) = .ok false := rfl
theorem isi_tuple_tuple (ds : List D) : isiD .tuple (.tuple ds) = .ok true := rfl
theorem isi_tuple_K (c : List Int) : isiD .tuple (encK c) = .ok true := rfl
theorem isi_tuple_G (n : Int) (ms : List (List Int)) : isiD .tuple (gameD n ms) = .ok true := rfl
theorem isi_list_none  : isiD .list .none = .ok false := rfl
theorem isi_list_bool (b : Bool) : isiD .list (.bool b) = .ok false := rfl
theorem isi_list_int (v : Int) : isiD .list (.int v) = .ok false := rfl
theorem isi_list_str (z : Str) : isiD .list (.str z) = .ok false := rfl
theorem isi_list_list (ds : List D) : isiD .list (.list ds) = .ok true := rfl
theorem isi_list_tuple (ds : List D) : isiD .list (.tuple ds) = .ok false := rfl
theorem isi_list_K (c : List Int) : isiD .list (encK c) = .ok false := rfl
theorem isi_list_G (n : Int) (ms : List (List Int)) : isiD .list (gameD n ms) = .ok false := rfl
theorem isi_str_none  : isiD .str .none = .ok false := rfl
theorem isi_str_bool (b : Bool) : isiD .str (.bool b) = .ok false := rfl
theorem isi_str_int (v : Int) : isiD .str (.int v) = .ok false := rfl
theorem isi_str_str (z : Str) : isiD .str (.str z) = .ok true := rfl
theorem isi_str_list (ds : List D) : isiD .str (.list ds) = .ok false := rfl
theorem isi_str_tuple (ds : List D) : isiD .str (.tuple ds) = .ok false := rfl
theorem isi_str_K (c : List Int) : isiD .str (encK c) = .ok false := rfl
theorem isi_str_G (n : Int) (ms : List (List Int)) : isiD .str (gameD n ms) = .ok false := rfl
theorem items_L (ds : List D) : itemsOf (.list ds) = .ok ds := rfl
theorem items_T (ds : List D) : itemsOf (.tuple ds) = .ok ds := rfl
theorem len_L (ds : List D) : dLen (.list ds) = .ok (.int ds.length) := rfl
theorem len_T (ds : List D) : dLen (.tuple ds) = .ok (.int ds.length) := rfl
theorem flat_K (c : List Int) : flatD (encK c) = false := rfl
theorem flat_G (n : Int) (ms : List (List Int)) : flatD (gameD n ms) = false := rfl
theorem zip_K (a b : List Int) : dZip (encK a) (encK b) = .ok ((a.zip b).map fun q => .tuple [.int q.1, .int q.2]) := by
  show R.ok (((a.map PyData.int).zip (b.map PyData.int)).map fun p => PyData.tuple [p.1, p.2]) = _
  rw [zip_enc]
theorem cut1_K (c : List Int) : dCut (encK c) (some 1) none = .ok (encK (c.drop 1)) := by
  show R.ok (PyData.tuple (cutL (c.map PyData.int) (some 1) none)) = _
  rw [cut1, ← List.map_drop]
  rfl
theorem cut_toK (c : List Int) (k : Nat) : dCut (encK c) none (some (k : Int)) = .ok (encK (c.take k)) := by
  show R.ok (PyData.tuple (cutL (c.map PyData.int) none (some (k : Int)))) = _
  rw [cut_take, ← List.map_take]
  rfl
theorem cut_fromK (c : List Int) (k : Nat) : dCut (encK c) (some (k : Int)) none = .ok (encK (c.drop k)) := by
  show R.ok (PyData.tuple (cutL (c.map PyData.int) (some (k : Int)) none)) = _
  rw [cut_drop, ← List.map_drop]
  rfl
theorem sortset_K' (c : List Int) (h : c.length < 64) : dSortSet (encK c) = .ok (.list ((sortI (nubI c)).map .int)) := by
  show (match intsOf (c.map PyData.int) with | some ns => if ns.length < 64 then R.ok (PyData.list ((sortI (nubI ns)).map PyData.int)) else .bad | none => .bad) = _
  rw [intsOf_map]
  exact if_pos h
theorem okEq_of {a b : D} (ha : a.plain = true) (hb : b.plain = true) (h : a.depth ≤ 64 ∨ b.depth ≤ 64) : okEq a b = true := by
  unfold okEq
  rw [ha, hb]
  simp -implicitDefEqProofs only [Bool.and_self, Bool.true_and, decide_eq_true_eq]
  omega
theorem eq_of {a b : D} (h : okEq a b = true) : dCmp .eq a b = .ok (.bool (PyData.eqv a b)) := if_pos h
theorem ne_of {a b : D} (h : okEq a b = true) : dCmp .ne a b = .ok (.bool (!PyData.eqv a b)) := if_pos h
theorem cmp_eqB (a b : Bool) : dCmp .eq (.bool a) (.bool b) = .ok (.bool (a == b)) := by
  rw [eq_of (okEq_of rfl rfl (.inl (by simp [PyData.depth])))]
  cases a <;> cases b <;> simp [PyData.eqv]
theorem cmp_neB (a b : Bool) : dCmp .ne (.bool a) (.bool b) = .ok (.bool (a != b)) := by
  rw [ne_of (okEq_of rfl rfl (.inl (by simp [PyData.depth])))]
  cases a <;> cases b <;> simp [PyData.eqv]
theorem cmp_eqS (a b : Str) : dCmp .eq (.str a) (.str b) = .ok (.bool (a == b)) := by
  rw [eq_of (okEq_of rfl rfl (.inl (by simp [PyData.depth])))]
  simp [PyData.eqv]
theorem cmp_neS (a b : Str) : dCmp .ne (.str a) (.str b) = .ok (.bool (a != b)) := by
  rw [ne_of (okEq_of rfl rfl (.inl (by simp [PyData.depth])))]
  simp [PyData.eqv, bne]
theorem ite_tt {α : Type} (a b : α) : (if (true = true) then a else b) = a := rfl
theorem ite_ff {α : Type} (a b : α) : (if (false = true) then a else b) = b := rfl
/-- comprehensions, as simp leaves them -/
theorem comp_flt {α : Type} {enc : α → D} {f : D → R (List D)} (p : α → Bool) (g : α → D) {l : List α} (h : ∀ a ∈ l, f (enc a) = if p a = true then .ok [g a] else .ok []) : compLoop f (l.map enc) = .ok ((l.filter p).map g) :=
  comp_filter p g fun a ha => by rw [h a ha]; cases p a <;> rfl
theorem comp_fltD {f : D → R (List D)} (p : D → Bool) {ds : List D} (h : ∀ d ∈ ds, f d = if p d = true then .ok [d] else .ok []) : compLoop f ds = .ok (ds.filter p) := by
  have := comp_flt (enc := id) (f := f) p id (l := ds) h
  rwa [List.map_id, List.map_id] at this
theorem comp_fltC {f : D → R (List D)} (p : D → Bool) (g : D → D) {ds : List D} (h : ∀ d ∈ ds, f d = if p d = true then .ok [g d] else .ok []) : compLoop f ds = .ok ((ds.filter p).map g) := by
  have := comp_flt (enc := id) (f := f) p g (l := ds) h
  rwa [List.map_id] at this
/-- a loop that may return a value of its own -/
theorem loop_first {α γ : Type} {enc : α → D} {tg : Tg} {body : Env → Res} (step : α → Option D) (mk : γ → Env) : ∀ {l : List α} {g0 : γ},
    (∀ a ∈ l, ∀ g : γ, ∃ ρ1 g', bindTg tg (enc a) (mk g) = some ρ1 ∧ body ρ1 = (match step a with | some d => .ret d | none => .next (mk g'))) → ∃ g, forLoop tg body (l.map enc) (mk g0) = (match l.findSome? step with | some d => .ret d | none => .next (mk g))
  | [], g0, _ => ⟨g0, rfl⟩
  | a :: l, g0, hs => by
    obtain ⟨ρ1, g', h1, h2⟩ := hs a List.mem_cons_self g0
    rw [List.map_cons, List.findSome?_cons]
    unfold forLoop
    rw [h1]
    dsimp only
    rw [h2]
    cases hp : step a with
    | some d => exact ⟨g0, rfl⟩
    | none =>
      obtain ⟨g, h3⟩ := loop_first step mk (l := l) (g0 := g') fun b hb => hs b (List.mem_cons_of_mem _ hb)
      exact ⟨g, h3⟩
/-- a loop with returns, then the rest -/
theorem fin_first {α γ : Type} {enc : α → D} {call : Nat → List D → R D} {ss : Ss} {tg : Tg} {body : Env → Res} {r : R D} (step : α → Option D) (mk : γ → Env) {l : List α} {g0 : γ}
    (hs : ∀ a ∈ l, ∀ g : γ, ∃ ρ1 g', bindTg tg (enc a) (mk g) = some ρ1 ∧ body ρ1 = (match step a with | some d => .ret d | none => .next (mk g'))) (hk : ∀ g, fin' (evSs call (mk g) ss) = r) :
    fin' (seqS call ss (forLoop tg body (l.map enc) (mk g0))) = (match l.findSome? step with | some d => .ok d | none => r) := by
  obtain ⟨g, h⟩ := loop_first step mk hs (g0 := g0)
  rw [h]
  cases l.findSome? step with
  | some d => rfl
  | none => exact hk g
end Qw

set_option Elab.async false
set_option linter.all false
set_option maxRecDepth 100000
set_option maxHeartbeats 4000000
local macro_rules
  | `(tactic| simp_arith only [$xs,*]) => `(tactic| simp -implicitDefEqProofs only [Qw.evSs.eq_1, Qw.evSs.eq_3, Qw.evE.eq_1, Qw.evE.eq_2, Qw.evE.eq_21, Qw.evEs.eq_1, Qw.evEsB.eq_1, Qw.evEo, Qw.evCond.eq_1, Qw.evHs, Qw.q_tup, Qw.q_lst, Qw.q_bin, Qw.q_neg, Qw.q_cmp, Qw.q_chain, Qw.q_isN, Qw.q_and, Qw.q_or, Qw.q_not, Qw.q_ifx, Qw.q_idx, Qw.q_cut, Qw.q_rev, Qw.q_bi, Qw.q_call, Qw.q_comp, Qw.q_comp2, Qw.q_es, Qw.q_esb, Qw.q_cond, Qw.q_seq, Qw.q_rg1, Qw.q_rg2, Qw.q_zip, Qw.q_enum, Qw.q_ss, Qw.q_asg, Qw.q_own, Qw.q_asgT, Qw.q_setIx, Qw.q_app, Qw.q_ext, Qw.q_aug, Qw.q_expr, Qw.q_par, Qw.parR_ok, Qw.par2_ok, Nat.reduceEqDiff, Qw.q_ret, Qw.q_retN, Qw.q_ite, Qw.q_for, Qw.q_while, Qw.q_raise, Qw.q_try, Qw.q_pass, Qw.tupR_ok, Qw.lstR_ok, Qw.bin1_ok, Qw.bin2_ok, Qw.negR_ok, Qw.cmp1_ok, Qw.cmp2_ok, Qw.chain1_ok, Qw.chain2_ok, Qw.chain3_ok, Qw.isNR_n, Qw.isNR_b, Qw.isNR_i, Qw.isNR_t, Qw.isNR_l, Qw.and1_ok, Qw.and2_ok, Qw.or1_ok, Qw.or2_ok, Qw.not1_ok, Qw.notR_ok, Qw.ifx1_ok, Qw.ifx2_ok, Qw.idx1_ok, Qw.idx2_ok, Qw.cut1_ok, Qw.cut2_ok, Qw.cut3_ok, Qw.revR_ok, Qw.biR_ok, Qw.call1_ok, Qw.call2_ok, Qw.call2_err, Qw.oneR_ok, Qw.turn1_ok, Qw.turn2_ok, Qw.inner1_ok, Qw.inner2_ok, Qw.inner3_ok, Qw.compI_ok, Qw.compI2_ok, Qw.compR_ok, Qw.compR2_ok, Qw.es1_ok, Qw.es2_ok, Qw.esb1_ok, Qw.condR_ok, Qw.seqI_ok, Qw.rg1R_ok, Qw.rg2a_ok, Qw.rg2b_ok, Qw.zip1_ok, Qw.zip2_ok, Qw.enumR_ok, Qw.seqS_next, Qw.seqS_ret, Qw.seqS_err, Qw.asgR_ok, Qw.asgR_err, Qw.ownR_ok, Qw.setR_some, Qw.asgTR_ok, Qw.setIx0_ok, Qw.setIx1_ok, Qw.setIx2_ok, Qw.setIx3_ok, Qw.app0_ok, Qw.app1_ok, Qw.aug0_ok, Qw.aug1_add, Qw.aug1_sub, Qw.exprR_ok, Qw.exprR_err, Qw.retR_ok, Qw.retR_err, Qw.iteR_ok, Qw.forR_ok, Qw.tryR_next, Qw.tryR_ret, Qw.tryR_err, Qw.iteR_err, Qw.ext0_ok, Qw.ext1_ok, Qw.gone, Qw.noExc, Qw.noCall, Qw.intO, Qw.bor, Qw.Tg.slots, Qw.wipeE, Qw.bindTg, Qw.setAll, Qw.relE, Qw.isNew, Qw.itOwn, Qw.anyOwn, Qw.isOwn, Qw.flatD, List.set_cons_zero, List.set_cons_succ, List.getElem?_cons_zero, List.getElem?_cons_succ, List.cons_append, List.nil_append, Qw.bind_ok, Qw.bind_err, Qw.rThen_ok, Qw.rThen_err, Qw.seqR_next, Qw.seqR_ret, Qw.seqR_err, Qw.fin_ret, Qw.fin_next, Qw.fin_err, Qw.tru_bool, Qw.tru_list, Qw.tru_tuple, Qw.tru_int, Qw.tru_none, Qw.dBi, Qw.one, Qw.two, Qw.dIsi, Qw.dList, Qw.dTuple, Qw.idx0, Qw.idx1, Qw.bin_add, Qw.bin_sub, Qw.cmp_lt, Qw.cmp_le, Qw.cmp_gt, Qw.cmp_ge, Qw.cmp_eq, Qw.cmp_ne, Qw.notin_K, Qw.isin_K, Qw.cmp_eqK, Qw.cmp_neK, Qw.one_K, Qw.nil_K, Qw.len_K, Qw.items_K, Qw.tuple_K, Qw.isi_int_none, Qw.isi_int_bool, Qw.isi_int_int, Qw.isi_int_str, Qw.isi_int_list, Qw.isi_int_tuple, Qw.isi_int_K, Qw.isi_int_G, Qw.isi_bool_none, Qw.isi_bool_bool, Qw.isi_bool_int, Qw.isi_bool_str, Qw.isi_bool_list, Qw.isi_bool_tuple, Qw.isi_bool_K, Qw.isi_bool_G, Qw.isi_tuple_none, Qw.isi_tuple_bool, Qw.isi_tuple_int, Qw.isi_tuple_str, Qw.isi_tuple_list, Qw.isi_tuple_tuple, Qw.isi_tuple_K, Qw.isi_tuple_G, Qw.isi_list_none, Qw.isi_list_bool, Qw.isi_list_int, Qw.isi_list_str, Qw.isi_list_list, Qw.isi_list_tuple, Qw.isi_list_K, Qw.isi_list_G, Qw.isi_str_none, Qw.isi_str_bool, Qw.isi_str_int, Qw.isi_str_str, Qw.isi_str_list, Qw.isi_str_tuple, Qw.isi_str_K, Qw.isi_str_G, Qw.items_L, Qw.items_T, Qw.len_L, Qw.len_T, Qw.flat_K, Qw.flat_G, Qw.zip_K, Qw.cut1_K, Bool.or_false, Bool.or_true, Bool.true_or, Bool.false_or, Bool.and_true, Bool.true_and, Bool.and_false, Bool.false_and, Bool.or_self, Bool.not_true, Bool.not_false, Bool.false_eq_true, Bool.true_eq_false, if_true, if_false, reduceIte, reduceCtorEq, Qw.ite_tt, Qw.ite_ff, $xs,*])
  | `(tactic| simp_arith [$xs,*]) => `(tactic| simp -implicitDefEqProofs only [Qw.turnE, Qw.turn2E, Qw.bodyOf, Qw.testOf, Qw.evSs.eq_1, Qw.evSs.eq_3, Qw.evE.eq_1, Qw.evE.eq_2, Qw.evE.eq_21, Qw.evEs.eq_1, Qw.evEsB.eq_1, Qw.evEo, Qw.evCond.eq_1, Qw.evHs, Qw.q_tup, Qw.q_lst, Qw.q_bin, Qw.q_neg, Qw.q_cmp, Qw.q_chain, Qw.q_isN, Qw.q_and, Qw.q_or, Qw.q_not, Qw.q_ifx, Qw.q_idx, Qw.q_cut, Qw.q_rev, Qw.q_bi, Qw.q_call, Qw.q_comp, Qw.q_comp2, Qw.q_es, Qw.q_esb, Qw.q_cond, Qw.q_seq, Qw.q_rg1, Qw.q_rg2, Qw.q_zip, Qw.q_enum, Qw.q_ss, Qw.q_asg, Qw.q_own, Qw.q_asgT, Qw.q_setIx, Qw.q_app, Qw.q_ext, Qw.q_aug, Qw.q_expr, Qw.q_par, Qw.parR_ok, Qw.par2_ok, Nat.reduceEqDiff, Qw.q_ret, Qw.q_retN, Qw.q_ite, Qw.q_for, Qw.q_while, Qw.q_raise, Qw.q_try, Qw.q_pass, Qw.tupR_ok, Qw.lstR_ok, Qw.bin1_ok, Qw.bin2_ok, Qw.negR_ok, Qw.cmp1_ok, Qw.cmp2_ok, Qw.chain1_ok, Qw.chain2_ok, Qw.chain3_ok, Qw.isNR_n, Qw.isNR_b, Qw.isNR_i, Qw.isNR_t, Qw.isNR_l, Qw.and1_ok, Qw.and2_ok, Qw.or1_ok, Qw.or2_ok, Qw.not1_ok, Qw.notR_ok, Qw.ifx1_ok, Qw.ifx2_ok, Qw.idx1_ok, Qw.idx2_ok, Qw.cut1_ok, Qw.cut2_ok, Qw.cut3_ok, Qw.revR_ok, Qw.biR_ok, Qw.call1_ok, Qw.call2_ok, Qw.call2_err, Qw.oneR_ok, Qw.turn1_ok, Qw.turn2_ok, Qw.inner1_ok, Qw.inner2_ok, Qw.inner3_ok, Qw.compI_ok, Qw.compI2_ok, Qw.compR_ok, Qw.compR2_ok, Qw.es1_ok, Qw.es2_ok, Qw.esb1_ok, Qw.condR_ok, Qw.seqI_ok, Qw.rg1R_ok, Qw.rg2a_ok, Qw.rg2b_ok, Qw.zip1_ok, Qw.zip2_ok, Qw.enumR_ok, Qw.seqS_next, Qw.seqS_ret, Qw.seqS_err, Qw.asgR_ok, Qw.asgR_err, Qw.ownR_ok, Qw.setR_some, Qw.asgTR_ok, Qw.setIx0_ok, Qw.setIx1_ok, Qw.setIx2_ok, Qw.setIx3_ok, Qw.app0_ok, Qw.app1_ok, Qw.aug0_ok, Qw.aug1_add, Qw.aug1_sub, Qw.exprR_ok, Qw.exprR_err, Qw.retR_ok, Qw.retR_err, Qw.iteR_ok, Qw.forR_ok, Qw.tryR_next, Qw.tryR_ret, Qw.tryR_err, Qw.iteR_err, Qw.ext0_ok, Qw.ext1_ok, Qw.gone, Qw.noExc, Qw.noCall, Qw.intO, Qw.bor, Qw.Tg.slots, Qw.wipeE, Qw.bindTg, Qw.setAll, Qw.relE, Qw.isNew, Qw.itOwn, Qw.anyOwn, Qw.isOwn, Qw.flatD, List.set_cons_zero, List.set_cons_succ, List.getElem?_cons_zero, List.getElem?_cons_succ, List.cons_append, List.nil_append, Qw.bind_ok, Qw.bind_err, Qw.rThen_ok, Qw.rThen_err, Qw.seqR_next, Qw.seqR_ret, Qw.seqR_err, Qw.fin_ret, Qw.fin_next, Qw.fin_err, Qw.tru_bool, Qw.tru_list, Qw.tru_tuple, Qw.tru_int, Qw.tru_none, Qw.dBi, Qw.one, Qw.two, Qw.dIsi, Qw.dList, Qw.dTuple, Qw.idx0, Qw.idx1, Qw.bin_add, Qw.bin_sub, Qw.cmp_lt, Qw.cmp_le, Qw.cmp_gt, Qw.cmp_ge, Qw.cmp_eq, Qw.cmp_ne, Qw.notin_K, Qw.isin_K, Qw.cmp_eqK, Qw.cmp_neK, Qw.one_K, Qw.nil_K, Qw.len_K, Qw.items_K, Qw.tuple_K, Qw.isi_int_none, Qw.isi_int_bool, Qw.isi_int_int, Qw.isi_int_str, Qw.isi_int_list, Qw.isi_int_tuple, Qw.isi_int_K, Qw.isi_int_G, Qw.isi_bool_none, Qw.isi_bool_bool, Qw.isi_bool_int, Qw.isi_bool_str, Qw.isi_bool_list, Qw.isi_bool_tuple, Qw.isi_bool_K, Qw.isi_bool_G, Qw.isi_tuple_none, Qw.isi_tuple_bool, Qw.isi_tuple_int, Qw.isi_tuple_str, Qw.isi_tuple_list, Qw.isi_tuple_tuple, Qw.isi_tuple_K, Qw.isi_tuple_G, Qw.isi_list_none, Qw.isi_list_bool, Qw.isi_list_int, Qw.isi_list_str, Qw.isi_list_list, Qw.isi_list_tuple, Qw.isi_list_K, Qw.isi_list_G, Qw.isi_str_none, Qw.isi_str_bool, Qw.isi_str_int, Qw.isi_str_str, Qw.isi_str_list, Qw.isi_str_tuple, Qw.isi_str_K, Qw.isi_str_G, Qw.items_L, Qw.items_T, Qw.len_L, Qw.len_T, Qw.flat_K, Qw.flat_G, Qw.zip_K, Qw.cut1_K, Bool.or_false, Bool.or_true, Bool.true_or, Bool.false_or, Bool.and_true, Bool.true_and, Bool.and_false, Bool.false_and, Bool.or_self, Bool.not_true, Bool.not_false, Bool.false_eq_true, Bool.true_eq_false, if_true, if_false, reduceIte, reduceCtorEq, Qw.ite_tt, Qw.ite_ff, $xs,*])
  | `(tactic| simp_arith! only [$xs,*]) => `(tactic| simp -implicitDefEqProofs only [Qw.evSs.eq_1, Qw.evSs.eq_3, Qw.evE.eq_1, Qw.evE.eq_2, Qw.evE.eq_21, Qw.evEs.eq_1, Qw.evEsB.eq_1, Qw.evEo, Qw.evCond.eq_1, Qw.evHs, Qw.q_tup, Qw.q_lst, Qw.q_bin, Qw.q_neg, Qw.q_cmp, Qw.q_chain, Qw.q_isN, Qw.q_and, Qw.q_or, Qw.q_not, Qw.q_ifx, Qw.q_idx, Qw.q_cut, Qw.q_rev, Qw.q_bi, Qw.q_call, Qw.q_comp, Qw.q_comp2, Qw.q_es, Qw.q_esb, Qw.q_cond, Qw.q_seq, Qw.q_rg1, Qw.q_rg2, Qw.q_zip, Qw.q_enum, Qw.q_ss, Qw.q_asg, Qw.q_own, Qw.q_asgT, Qw.q_setIx, Qw.q_app, Qw.q_ext, Qw.q_aug, Qw.q_expr, Qw.q_par, Qw.parR_ok, Qw.par2_ok, Nat.reduceEqDiff, Qw.q_ret, Qw.q_retN, Qw.q_ite, Qw.q_for, Qw.q_while, Qw.q_raise, Qw.q_try, Qw.q_pass, Qw.tupR_ok, Qw.lstR_ok, Qw.bin1_ok, Qw.bin2_ok, Qw.negR_ok, Qw.cmp1_ok, Qw.cmp2_ok, Qw.chain1_ok, Qw.chain2_ok, Qw.chain3_ok, Qw.isNR_n, Qw.isNR_b, Qw.isNR_i, Qw.isNR_t, Qw.isNR_l, Qw.and1_ok, Qw.and2_ok, Qw.or1_ok, Qw.or2_ok, Qw.not1_ok, Qw.notR_ok, Qw.ifx1_ok, Qw.ifx2_ok, Qw.idx1_ok, Qw.idx2_ok, Qw.cut1_ok, Qw.cut2_ok, Qw.cut3_ok, Qw.revR_ok, Qw.biR_ok, Qw.call1_ok, Qw.call2_ok, Qw.call2_err, Qw.oneR_ok, Qw.turn1_ok, Qw.turn2_ok, Qw.inner1_ok, Qw.inner2_ok, Qw.inner3_ok, Qw.compI_ok, Qw.compI2_ok, Qw.compR_ok, Qw.compR2_ok, Qw.es1_ok, Qw.es2_ok, Qw.esb1_ok, Qw.condR_ok, Qw.seqI_ok, Qw.rg1R_ok, Qw.rg2a_ok, Qw.rg2b_ok, Qw.zip1_ok, Qw.zip2_ok, Qw.enumR_ok, Qw.seqS_next, Qw.seqS_ret, Qw.seqS_err, Qw.asgR_ok, Qw.asgR_err, Qw.ownR_ok, Qw.setR_some, Qw.asgTR_ok, Qw.setIx0_ok, Qw.setIx1_ok, Qw.setIx2_ok, Qw.setIx3_ok, Qw.app0_ok, Qw.app1_ok, Qw.aug0_ok, Qw.aug1_add, Qw.aug1_sub, Qw.exprR_ok, Qw.exprR_err, Qw.retR_ok, Qw.retR_err, Qw.iteR_ok, Qw.forR_ok, Qw.tryR_next, Qw.tryR_ret, Qw.tryR_err, Qw.iteR_err, Qw.ext0_ok, Qw.ext1_ok, Qw.gone, Qw.noExc, Qw.noCall, Qw.intO, Qw.bor, Qw.Tg.slots, Qw.wipeE, Qw.bindTg, Qw.setAll, Qw.relE, Qw.isNew, Qw.itOwn, Qw.anyOwn, Qw.isOwn, Qw.flatD, List.set_cons_zero, List.set_cons_succ, List.getElem?_cons_zero, List.getElem?_cons_succ, List.cons_append, List.nil_append, Qw.bind_ok, Qw.bind_err, Qw.rThen_ok, Qw.rThen_err, Qw.seqR_next, Qw.seqR_ret, Qw.seqR_err, Qw.fin_ret, Qw.fin_next, Qw.fin_err, Qw.tru_bool, Qw.tru_list, Qw.tru_tuple, Qw.tru_int, Qw.tru_none, Qw.dBi, Qw.one, Qw.two, Qw.dIsi, Qw.dList, Qw.dTuple, Qw.idx0, Qw.idx1, Qw.bin_add, Qw.bin_sub, Qw.cmp_lt, Qw.cmp_le, Qw.cmp_gt, Qw.cmp_ge, Qw.cmp_eq, Qw.cmp_ne, Qw.notin_K, Qw.isin_K, Qw.cmp_eqK, Qw.cmp_neK, Qw.one_K, Qw.nil_K, Qw.len_K, Qw.items_K, Qw.tuple_K, Qw.isi_int_none, Qw.isi_int_bool, Qw.isi_int_int, Qw.isi_int_str, Qw.isi_int_list, Qw.isi_int_tuple, Qw.isi_int_K, Qw.isi_int_G, Qw.isi_bool_none, Qw.isi_bool_bool, Qw.isi_bool_int, Qw.isi_bool_str, Qw.isi_bool_list, Qw.isi_bool_tuple, Qw.isi_bool_K, Qw.isi_bool_G, Qw.isi_tuple_none, Qw.isi_tuple_bool, Qw.isi_tuple_int, Qw.isi_tuple_str, Qw.isi_tuple_list, Qw.isi_tuple_tuple, Qw.isi_tuple_K, Qw.isi_tuple_G, Qw.isi_list_none, Qw.isi_list_bool, Qw.isi_list_int, Qw.isi_list_str, Qw.isi_list_list, Qw.isi_list_tuple, Qw.isi_list_K, Qw.isi_list_G, Qw.isi_str_none, Qw.isi_str_bool, Qw.isi_str_int, Qw.isi_str_str, Qw.isi_str_list, Qw.isi_str_tuple, Qw.isi_str_K, Qw.isi_str_G, Qw.items_L, Qw.items_T, Qw.flat_K, Qw.flat_G, Qw.zip_K, Qw.cut1_K, Bool.or_false, Bool.or_true, Bool.true_or, Bool.false_or, Bool.and_true, Bool.true_and, Bool.and_false, Bool.false_and, Bool.or_self, Bool.not_true, Bool.not_false, Bool.false_eq_true, Bool.true_eq_false, if_true, if_false, reduceIte, reduceCtorEq, Qw.ite_tt, Qw.ite_ff, $xs,*])
/-! Defs at any data. By an AI agent. -/
namespace Qw
open PySem L2
/-- whether a datum is no dict (a script) -/
def nod : D → Bool
  | .dict _ => false
  | _ => true
def inR (lo hi : Int) : D → Bool
  | .int v => decide (lo ≤ v ∧ v ≤ hi)
  | _ => false
/-- a coalition of n players -/
def isC (n : Nat) : D → Bool
  | .tuple ds => match intsOf ds with
    | some c => decide (c ∈ subs n)
    | none => false
  | _ => false
section
variable {fns : List Fn} {i j a b c d e f i1 i2 i3 : Nat}
theorem in_range_gen (h : fns[i]? = some F_in_range) {v : D} (hv : nod v = true) (lo hi : Int) : At fns 1 i [v, .int lo, .int hi] (.ok (.bool (inR lo hi v))) := by
  refine At.mk h rfl fun m _ => ?_
  cases v with
  | int v =>
    simp_arith only [F_in_range, List.map_cons, List.map_nil, List.length_cons, List.length_nil, Nat.sub_self, List.replicate_zero, List.append_nil, Nat.zero_add]
    by_cases h1 : lo ≤ v <;> simp [h1, inR, retR_ok, seqS_ret]
  | dict _ => cases hv
  | _ => rfl
theorem law_in_gen (h : fns[i]? = some (F__law_in j)) (hj : fns[j]? = some F__law_whole) {v : D} (hv : nod v = true) (lo hi : Int) : At fns 2 i [v, .int lo, .int hi] (.ok (.bool (inR lo hi v))) := by
  have hw : ∀ m, 1 ≤ m → evFn fns m j [v] = .ok (.bool (match v with | .int _ => true | _ => false)) := fun m hm => by
    refine At.mk hj rfl (fun m _ => ?_) m hm
    cases v with
    | dict _ => cases hv
    | _ => rfl
  refine At.mk h rfl fun m hm => ?_
  simp_arith only [F__law_in, List.map_cons, List.map_nil, hw m hm]
  cases v with
  | int v =>
    simp_arith only []
    by_cases h1 : lo ≤ v <;> simp [h1, inR, retR_ok, seqS_ret]
  | dict _ => cases hv
  | _ => rfl
theorem plain_nod {v : D} (h : v.plain = true) : nod v = true := by
  cases v with
  | dict _ => cases h
  | _ => rfl
theorem plain_mem : ∀ {ds : List D}, PyData.plainAll ds = true → ∀ d ∈ ds, d.plain = true
  | [], _, d, hd => by cases hd
  | e :: ds, h, d, hd => by
    simp -implicitDefEqProofs only [PyData.plainAll, Bool.and_eq_true] at h
    rcases List.mem_cons.mp hd with z | z
    · subst z; exact h.1
    · exact plain_mem h.2 d z
theorem plainAll_of : ∀ {ds : List D}, (∀ d ∈ ds, d.plain = true) → PyData.plainAll ds = true
  | [], _ => rfl
  | e :: ds, h => by
    simp -implicitDefEqProofs only [PyData.plainAll, Bool.and_eq_true]
    exact ⟨h e List.mem_cons_self, plainAll_of fun d hd => h d (List.mem_cons_of_mem _ hd)⟩
theorem ints_of_inR {lo hi : Int} : ∀ {ds : List D}, (∀ d ∈ ds, inR lo hi d = true) → ∃ c : List Int, ds = c.map .int ∧ ∀ x ∈ c, lo ≤ x ∧ x ≤ hi
  | [], _ => ⟨[], rfl, fun x hx => by cases hx⟩
  | d :: ds, h => by
    obtain ⟨c, e1, e2⟩ := ints_of_inR fun e he => h e (List.mem_cons_of_mem _ he)
    have hd := h d List.mem_cons_self
    cases d with
    | int v =>
      have hd : decide (lo ≤ v ∧ v ≤ hi) = true := hd
      refine ⟨v :: c, by rw [e1]; rfl, fun x hx => ?_⟩
      rcases List.mem_cons.mp hx with z | z
      · subst z; exact of_decide_eq_true hd
      · exact e2 x z
    | _ => cases hd
theorem zip_lt : ∀ {c : List Int}, ((c.zip (c.drop 1)).all fun q => decide (q.1 < q.2)) = true → c.Pairwise (· < ·)
  | [], _ => .nil
  | [x], _ => .cons (fun y hy => by cases hy) .nil
  | x :: y :: c, h => by
    simp -implicitDefEqProofs only [List.drop_succ_cons, List.drop_zero, List.zip_cons_cons, List.all_cons, Bool.and_eq_true, decide_eq_true_eq] at h
    have ih := zip_lt (c := y :: c) (by simpa using h.2)
    refine .cons (fun z hz => ?_) ih
    rcases List.mem_cons.mp hz with e | e
    · subst e; exact h.1
    · have := (List.pairwise_cons.mp ih).1 z e
      omega
theorem subs_iff {n : Nat} {c : List Int} : c ∈ subs n ↔ c.Pairwise (· < ·) ∧ ∀ x ∈ c, 0 ≤ x ∧ x ≤ (n : Int) - 1 :=
  ⟨fun h => ⟨subs_inc h, fun x hx => by have := subs_lt h x hx; omega⟩, fun h => mem_subs h.1 fun x hx => by have := h.2 x hx; omega⟩
theorem isC_enc {n : Nat} {c : List Int} : isC n (encK c) = decide (c ∈ subs n) := by
  show (match intsOf (c.map PyData.int) with | some c => decide (c ∈ subs n) | none => false) = _
  rw [intsOf_map]
theorem isC_no {n : Nat} {ds : List D} (h : ¬ ∀ d ∈ ds, inR 0 ((n : Int) - 1) d = true) : isC n (.tuple ds) = false := by
  show (match intsOf ds with | some c => decide (c ∈ subs n) | none => false) = false
  cases e : intsOf ds with
  | none => rfl
  | some c =>
    refine decide_eq_false fun hc => h fun d hd => ?_
    have : ∀ {ds : List D} {c : List Int}, intsOf ds = some c → ds = c.map .int := by
      intro ds
      induction ds with
      | nil => intro c h; cases h; rfl
      | cons d ds ih =>
        intro c h
        cases d with
        | int v =>
          have h : (intsOf ds).map (v :: ·) = some c := h
          cases q : intsOf ds with
          | none => rw [q] at h; cases h
          | some k => rw [q] at h; cases h; rw [ih q]; rfl
        | _ => cases h
    rw [this e] at hd
    obtain ⟨x, hx, rfl⟩ := List.mem_map.mp hd
    exact decide_eq_true ((subs_iff.mp hc).2 x hx)
theorem is_coalition_gen (h : fns[i]? = some (F_is_coalition j)) (hj : fns[j]? = some F_in_range) (n : Nat) {v : D} (hv : v.plain = true) : At fns 2 i [.int n, v] (.ok (.bool (isC n v))) := by
  refine At.mk h rfl fun m hm => ?_
  cases v with
  | dict _ => cases hv
  | tuple ds =>
    have hp : ∀ d ∈ ds, nod d = true := fun d hd => plain_nod (plain_mem (by simpa [PyData.plain] using hv) d hd)
    simp_arith only [F_is_coalition, List.map_cons, List.map_nil, List.length_cons, List.length_nil, List.replicate_succ, List.replicate_zero, List.append_nil, Nat.zero_add, Nat.reduceAdd, Nat.reduceSub]
    rw [comp_fltD (fun d => !inR 0 ((n : Int) - 1) d) fun d hd => by
      simp_arith [in_range_gen hj (hp d hd) 0 ((n : Int) - 1) m hm]]
    by_cases hr : ∀ d ∈ ds, inR 0 ((n : Int) - 1) d = true
    · obtain ⟨c, e1, e2⟩ := ints_of_inR hr
      rw [List.filter_eq_nil_iff.mpr fun d hd => by rw [hr d hd]; exact Bool.false_ne_true]
      subst e1
      rw [tuple_K]
      simp_arith only [List.map_nil, List.isEmpty_nil]
      rw [comp_flt (enc := fun q : Int × Int => PyData.tuple [.int q.1, .int q.2]) (fun q => decide (q.2 ≤ q.1)) (fun _ => PyData.int 1) fun q hq => by simp_arith []]
      simp_arith only [List.isEmpty_map, Bool.not_not]
      rw [isC_enc]
      congr 2
      rw [filter_any, Bool.eq_iff_iff, Bool.not_eq_true', decide_eq_true_eq, subs_iff]
      constructor
      · intro z
        refine ⟨zip_lt ?_, e2⟩
        rw [List.all_eq_true]
        intro q hq
        have := List.any_eq_false.mp z q hq
        rw [decide_eq_true_eq] at this ⊢
        omega
      · rintro ⟨z, _⟩
        rw [List.any_eq_false]
        intro q hq
        have := of_decide_eq_true (pair_zip (fun a b => decide (a < b)) (z.imp fun h => decide_eq_true h) q hq)
        rw [decide_eq_true_eq]
        omega
    · have hne : (ds.filter fun d => !inR 0 ((n : Int) - 1) d).isEmpty = false := by
        rw [filter_none]
        cases q : ds.all (inR 0 ((n : Int) - 1)) with
        | false => rfl
        | true => exact absurd (List.all_eq_true.mp q) hr
      simp_arith only [hne, isC_no hr]
  | _ => rfl
theorem law_coal_gen (h : fns[i]? = some (F__law_is_coalition j)) (hj : fns[j]? = some (F__law_in e)) (he : fns[e]? = some F__law_whole) (n : Nat) {v : D} (hv : v.plain = true) (hl : ∀ ds, v = .tuple ds → ds.length < 64) : At fns 3 i [.int n, v] (.ok (.bool (isC n v))) := by
  refine At.mk h rfl fun m hm => ?_
  cases v with
  | dict _ => cases hv
  | tuple ds =>
    have hpl : ∀ d ∈ ds, d.plain = true := fun d hd => plain_mem (by simpa [PyData.plain] using hv) d hd
    simp_arith only [F__law_is_coalition, List.map_cons, List.map_nil, List.length_cons, List.length_nil, List.replicate_succ, List.replicate_zero, List.append_nil, Nat.zero_add, Nat.reduceAdd, Nat.reduceSub]
    rw [comp_fltD (fun d => !inR 0 ((n : Int) - 1) d) fun d hd => by
      simp_arith [law_in_gen hj he (plain_nod (hpl d hd)) 0 ((n : Int) - 1) m hm]]
    simp_arith only []
    rw [ncmp_nil _ (plainAll_of fun d hd => hpl d (List.mem_filter.mp hd).1)]
    by_cases hr : ∀ d ∈ ds, inR 0 ((n : Int) - 1) d = true
    · obtain ⟨c, e1, e2⟩ := ints_of_inR hr
      rw [List.filter_eq_nil_iff.mpr fun d hd => by rw [hr d hd]; exact Bool.false_ne_true]
      have hl' := hl ds rfl
      subst e1
      rw [List.length_map] at hl'
      rw [tuple_K]
      simp_arith only [List.isEmpty_nil, sortset_K' _ hl', cmp_eqLI]
      rw [isC_enc]
      congr 2
      rw [Bool.eq_iff_iff, decide_eq_true_eq, decide_eq_true_eq, subs_iff]
      constructor
      · intro z
        refine ⟨?_, e2⟩
        rw [z]
        exact sortI_lt (nubI_nd c)
      · rintro ⟨z, _⟩
        exact inc_eq z (sortI_lt (nubI_nd c)) fun x => by rw [(sortI_perm' _).mem_iff, nubI_mem]
    · have hne : (ds.filter fun d => !inR 0 ((n : Int) - 1) d).isEmpty = false := by
        rw [filter_none]
        cases q : ds.all (inR 0 ((n : Int) - 1)) with
        | false => rfl
        | true => exact absurd (List.all_eq_true.mp q) hr
      simp_arith only [hne, isC_no hr]
  | _ => rfl
end
end Qw

set_option Elab.async false
set_option linter.all false
set_option maxRecDepth 100000
set_option maxHeartbeats 4000000
/-! Comparison of players, swaps. By an AI agent. -/
namespace Qw
open PySem L2
/-- a loop that carries a state -/
theorem loop_fold {α γ σ : Type} {enc : α → D} {tg : Tg} {body : Env → Res} (step : σ → α → σ) (mk : σ → γ → Env) : ∀ {l : List α} {s0 : σ} {g0 : γ},
    (∀ a ∈ l, ∀ (s : σ) (g : γ), ∃ ρ1 g', bindTg tg (enc a) (mk s g) = some ρ1 ∧ body ρ1 = .next (mk (step s a) g')) → ∃ g, forLoop tg body (l.map enc) (mk s0 g0) = .next (mk (l.foldl step s0) g)
  | [], s0, g0, _ => ⟨g0, rfl⟩
  | a :: l, s0, g0, hs => by
    obtain ⟨ρ1, g', h1, h2⟩ := hs a List.mem_cons_self s0 g0
    obtain ⟨g, h3⟩ := loop_fold step mk (l := l) (s0 := step s0 a) (g0 := g') fun b hb => hs b (List.mem_cons_of_mem _ hb)
    refine ⟨g, ?_⟩
    rw [List.map_cons]
    unfold forLoop
    rw [h1]
    dsimp only
    rw [h2, seqR_next]
    exact h3
theorem foldl_and {α : Type} (p : α → Bool) : ∀ (l : List α) (b : Bool), l.foldl (fun b a => b && p a) b = (b && l.all p)
  | [], b => by simp
  | a :: l, b => by
    rw [List.foldl_cons, foldl_and p l, List.all_cons, Bool.and_assoc]
theorem it_range {n : Nat} (h : n ≤ 1000) : (if -1000000 ≤ (n : Int) ∧ (n : Int) ≤ 1000000 then R.ok (rangeD 0 ((n : Int)).toNat) else .bad) = .ok ((rng n).map .int) := by
  rw [if_pos (by omega), rangeD_rng, Int.toNat_natCast]
theorem it_rangeI {n : Nat} {p : Int} (h : n ≤ 1000) (hp : p ∈ rng n) : (if -1000000 ≤ p ∧ p ≤ 1000000 then R.ok (rangeD 0 p.toNat) else .bad) = .ok ((rng p.toNat).map .int) := by
  have := rng_mem.mp hp
  rw [if_pos (by omega), rangeD_rng]
def compB (n : Nat) (ms : List (List Int)) : Bool := (rng n).all fun l => (rng l.toNat).all fun r => domB n ms l r || domB n ms r l
def exch (f : List Int) (l r : Int) : List Int := sortI ((f.filter fun x => !decide (x = l)) ++ [r])
def witB (ms : List (List Int)) (m o : Int) (c : List Int) : Bool := !decide (m ∈ c) && (!decide (o ∈ c) && (winB ms (sortI (c ++ [m])) && !winB ms (sortI (c ++ [o]))))
def witK (n : Nat) (ms : List (List Int)) (m o : Int) : Option (List Int) := (allC n).findSome? fun c => if witB ms m o c = true then some (sortI (c ++ [m])) else none
def witD (n : Nat) (ms : List (List Int)) (m o : Int) : D := match witK n ms m o with
  | some c => encK c
  | none => .none
def badP (n : Nat) (ms : List (List Int)) (l r : Int) : Bool := !decide (l = r) && (!domB n ms l r && !domB n ms r l)
def swD (n : Nat) (ms : List (List Int)) (l r : Int) : D := .tuple [witD n ms l r, witD n ms r l, .int l, .int r]
def swapK (n : Nat) (ms : List (List Int)) : Option D := (rng n).findSome? fun l => (rng n).findSome? fun r => if badP n ms l r = true then some (swD n ms l r) else none
section
variable {fns : List Fn} {i j a b c d e f i1 i2 i3 : Nat} {n : Nat} {ms : List (List Int)}
theorem law_stronger_ok (h : fns[i]? = some (F__law_stronger a b)) (ha : fns[a]? = some F__law_coalitions) (hb : fns[b]? = some (F__law_wins c)) (hc : fns[c]? = some F__law_within) (hn : n ≤ 6) (l r : Int) :
    At fns 3 i [gameD n ms, .int l, .int r] (.ok (.bool (domB n ms l r))) := by
  refine At.mk h rfl fun m hm => ?_
  have h1 := law_coalitions_ok ha n (by omega) m (by omega)
  have h2 : ∀ x, evFn fns m b [gameD n ms, encK x] = .ok (.bool (winB ms x)) := fun x => law_wins_ok hb hc n ms x m hm
  simp_arith only [F__law_stronger, List.map_cons, List.map_nil, List.length_cons, List.length_nil, List.replicate_succ, List.replicate_zero, List.append_nil, Nat.zero_add, Nat.reduceAdd, Nat.reduceSub, h1]
  rw [fin_first (enc := encK) (fun c => if (!decide (l ∈ c) && (!decide (r ∈ c) && winB ms (c ++ [r]))) = true ∧ winB ms (c ++ [l]) = false then some (.bool false) else none) (fun g : Cell => [.val (gameD n ms), .val (.int l), .val (.int r), g]) (r := .ok (.bool true)) (fun x hx g => ?_) fun g => by simp_arith only []]
  · unfold domB
    simp -implicitDefEqProofs only [winB_sort]
    cases hA : (allC n).all fun c => !(!decide (l ∈ c) && (!decide (r ∈ c) && winB ms (c ++ [r]))) || winB ms (c ++ [l]) with
    | true =>
      rw [List.findSome?_eq_none_iff.mpr fun c hc => ?_]
      have := List.all_eq_true.mp hA c hc
      rw [if_neg]
      rintro ⟨z1, z2⟩
      rw [z1, z2] at this
      cases this
    | false =>
      obtain ⟨c, hc, hc2⟩ := List.all_eq_false.mp hA
      have : ∃ d, ((allC n).findSome? fun c => if (!decide (l ∈ c) && (!decide (r ∈ c) && winB ms (c ++ [r]))) = true ∧ winB ms (c ++ [l]) = false then some (PyData.bool false) else none) = some d := by
        cases q : ((allC n).findSome? fun c => if (!decide (l ∈ c) && (!decide (r ∈ c) && winB ms (c ++ [r]))) = true ∧ winB ms (c ++ [l]) = false then some (PyData.bool false) else none) with
        | some d => exact ⟨d, rfl⟩
        | none =>
          have := List.findSome?_eq_none_iff.mp q c hc
          rw [if_pos] at this
          · cases this
          · revert hc2
            cases (!decide (l ∈ c) && (!decide (r ∈ c) && winB ms (c ++ [r]))) <;> cases winB ms (c ++ [l]) <;> simp
      obtain ⟨d, hd⟩ := this
      rw [hd]
      obtain ⟨c', _, hc'⟩ := List.exists_of_findSome?_eq_some hd
      split at hc'
      · cases hc'; rfl
      · cases hc'
  · have hl := allC_small hx
    have e1 := add_K x [r] (by show x.length + 1 ≤ 100000; omega)
    have e2 := add_K x [l] (by show x.length + 1 ≤ 100000; omega)
    refine ⟨_, .val (encK x), rfl, ?_⟩
    simp_arith [e1, e2, h2]
    by_cases z1 : l ∈ x <;> by_cases z2 : r ∈ x <;> cases z3 : winB ms (x ++ [r]) <;> cases z4 : winB ms (x ++ [l]) <;> simp_arith only [z1, z2, z3, z4, e1, e2, h2, decide_true, decide_false, and_true, and_false, and_self, reduceCtorEq, not_true_eq_false, not_false_eq_true]
theorem is_complete_of_ok (h : fns[i]? = some (F_is_complete_of j)) (hj : ∀ m, 3 ≤ m → ∀ l r : Int, evFn fns m j [gameD n ms, .int l, .int r] = .ok (.bool (domB n ms l r))) (hn : n ≤ 6) : At fns 4 i [gameD n ms] (.ok (.bool (compB n ms))) := by
  refine At.mk h rfl fun m hm => ?_
  have h1 := hj m (by omega)
  simp_arith only [F_is_complete_of, List.map_cons, List.map_nil, List.length_cons, List.length_nil, List.replicate_succ, List.replicate_zero, List.append_nil, Nat.zero_add, Nat.reduceAdd, Nat.reduceSub, it_range (show n ≤ 1000 by omega)]
  rw [comp_flat (enc := PyData.int) (fun l => (rng l.toNat).map fun r => PyData.tuple [.int l, .int r]) fun l hl => by
    simp_arith only [turn2E, it_rangeI (show n ≤ 1000 by omega) hl]
    rw [comp_map (fun r => PyData.tuple [.int l, .int r]) fun r hr => by simp_arith []]]
  have hlen : ((rng n).flatMap fun l => (rng l.toNat).map fun r => PyData.tuple [.int l, .int r]).length ≤ LIM := by
    rw [List.length_flatMap]
    have : ∀ (L : List Int), (∀ l ∈ L, l ∈ rng n) → ((L.map fun l => ((rng l.toNat).map fun r => PyData.tuple [.int l, .int r]).length).sum) ≤ L.length * 6 := by
      intro L
      induction L with
      | nil => intro _; simp
      | cons x L ih =>
        intro h
        have h1 := ih fun l hl => h l (List.mem_cons_of_mem _ hl)
        have h2 := rng_mem.mp (h x List.mem_cons_self)
        rw [List.map_cons, List.sum_cons, List.length_map, rng_len, List.length_cons]
        omega
    have := this (rng n) fun _ h => h
    rw [rng_len] at this
    unfold LIM
    omega
  rw [show ((rng n).flatMap fun l => (rng l.toNat).map fun r => PyData.tuple [.int l, .int r]) = ((rng n).flatMap fun l => (rng l.toNat).map fun r => (l, r)).map fun q : Int × Int => PyData.tuple [.int q.1, .int q.2] by
    rw [List.map_flatMap]
    congr 1
    funext l
    rw [List.map_map]
    rfl] at hlen ⊢
  simp_arith only [hlen]
  rw [comp_flt (enc := fun q : Int × Int => PyData.tuple [.int q.1, .int q.2]) (fun q => !domB n ms q.1 q.2 && !domB n ms q.2 q.1) (fun _ => PyData.int 1) fun q hq => by
    simp_arith [h1]
    cases z1 : domB n ms q.1 q.2 <;> simp_arith only [h1]]
  simp_arith only [List.isEmpty_map, Bool.not_not]
  congr 2
  unfold compB
  rw [filter_any, Bool.eq_iff_iff, Bool.not_eq_true', List.any_eq_false]
  simp -implicitDefEqProofs only [List.all_eq_true, List.mem_flatMap, List.mem_map]
  constructor
  · intro z l hl r hr
    have := z (l, r) ⟨l, hl, r, hr, rfl⟩
    revert this
    cases domB n ms l r <;> cases domB n ms r l <;> simp
  · rintro z q ⟨l, hl, r, hr, rfl⟩
    have := z l hl r hr
    revert this
    cases domB n ms l r <;> cases domB n ms r l <;> simp
theorem witness_ok (h : fns[i]? = some (F_witness a b c)) (ha : fns[a]? = some F_all_coalitions) (hb : fns[b]? = some (F_is_winning d)) (hd : fns[d]? = some F_is_subset) (hc : fns[c]? = some F_with_player) (hn : n ≤ 6) (l r : Int) :
    At fns 3 i [gameD n ms, .int l, .int r] (.ok (witD n ms l r)) := by
  refine At.mk h rfl fun m hm => ?_
  have h1 := all_coalitions_ok ha n (by omega) m (by omega)
  have h2 : ∀ x, evFn fns m b [gameD n ms, encK x] = .ok (.bool (winB ms x)) := fun x => is_winning_ok hb hd n ms x m hm
  have h3 : ∀ (x : List Int) (p : Int), x.length < 1000 → evFn fns m c [encK x, .int p] = .ok (encK (sortI (x ++ [p]))) := fun x p hx => with_player_ok hc x p hx m (by omega)
  simp_arith only [F_witness, List.map_cons, List.map_nil, List.length_cons, List.length_nil, List.replicate_succ, List.replicate_zero, List.append_nil, Nat.zero_add, Nat.reduceAdd, Nat.reduceSub, h1]
  rw [fin_first (enc := encK) (fun c => if witB ms l r c = true then some (encK (sortI (c ++ [l]))) else none) (fun g : Cell => [.val (gameD n ms), .val (.int l), .val (.int r), g]) (r := .ok .none) (fun x hx g => ?_) fun g => by simp_arith only []]
  · unfold witD witK
    rw [show ((allC n).findSome? fun c => if witB ms l r c = true then some (encK (sortI (c ++ [l]))) else none) = ((allC n).findSome? fun c => if witB ms l r c = true then some (sortI (c ++ [l])) else none).map encK by
      rw [List.map_findSome?]
      congr 1
      funext c
      show _ = Option.map encK (if witB ms l r c = true then some (sortI (c ++ [l])) else none)
      cases witB ms l r c <;> rfl]
    cases ((allC n).findSome? fun c => if witB ms l r c = true then some (sortI (c ++ [l])) else none) <;> rfl
  · have hl : x.length < 1000 := by have := allC_small hx; omega
    refine ⟨_, .val (encK x), rfl, ?_⟩
    unfold witB
    simp_arith [h3 x l hl, h3 x r hl, h2]
    by_cases z1 : l ∈ x <;> by_cases z2 : r ∈ x <;> cases z3 : winB ms (sortI (x ++ [l])) <;> cases z4 : winB ms (sortI (x ++ [r])) <;> simp_arith only [z1, z2, z3, z4, h3 x l hl, h3 x r hl, h2, decide_true, decide_false, not_true_eq_false, not_false_eq_true]
theorem wit_none {n : Nat} {ms : List (List Int)} {l r : Int} (h : domB n ms r l = false) : ∃ c ∈ subs n, l ∉ c ∧ r ∉ c ∧ winB ms (c ++ [l]) = true ∧ winB ms (c ++ [r]) = false ∧ witK n ms l r = some (sortI (c ++ [l])) := by
  cases q : witK n ms l r with
  | none =>
    exfalso
    unfold witK at q
    have q := List.findSome?_eq_none_iff.mp q
    have : domB n ms r l = true := by
      rw [domB_iff]
      intro c hc h1 h2 h3
      have := q c (allC_mem.mpr hc)
      split at this
      · cases this
      · rename_i z
        unfold witB at z
        rw [winB_sort, winB_sort] at z
        simp -implicitDefEqProofs only [h1, h2, h3, decide_false, Bool.not_false, Bool.true_and] at z
        simpa using z
    rw [this] at h
    cases h
  | some x =>
    obtain ⟨c, hc, hx⟩ := List.exists_of_findSome?_eq_some q
    split at hx
    · rename_i z
      unfold witB at z
      rw [winB_sort, winB_sort] at z
      simp -implicitDefEqProofs only [Bool.and_eq_true, Bool.not_eq_true', decide_eq_false_iff_not] at z
      cases hx
      exact ⟨c, allC_mem.mp hc, z.1, z.2.1, z.2.2.1, z.2.2.2, rfl⟩
    · cases hx
theorem swap_ok (h : fns[i]? = some (F_swap j e f)) (hj : Chk fns j) (he : ∀ m, 3 ≤ m → ∀ l r : Int, evFn fns m e [gameD n ms, .int l, .int r] = .ok (.bool (domB n ms l r))) (hf : ∀ m, 3 ≤ m → ∀ l r : Int, evFn fns m f [gameD n ms, .int l, .int r] = .ok (witD n ms l r)) (G : Game n ms) (h1 : 1 ≤ n) (hn : n ≤ 6) :
    At fns 5 i [gameD n ms] (match swapK n ms with | some d => .ok d | none => .err ⟨"IsComplete", none⟩) := by
  refine At.mk h rfl fun m hm => ?_
  have c1 := hj m hm ms n G h1 hn
  have c2 := he m (by omega)
  have c3 := hf m (by omega)
  simp_arith only [F_swap, List.map_cons, List.map_nil, List.length_cons, List.length_nil, List.replicate_succ, List.replicate_zero, List.append_nil, Nat.zero_add, Nat.reduceAdd, Nat.reduceSub, c1, it_range (show n ≤ 1000 by omega)]
  rw [fin_first (enc := PyData.int) (fun l => (rng n).findSome? fun r => if badP n ms l r = true then some (swD n ms l r) else none) (fun g : Cell × Cell => [.val (gameD n ms), g.1, g.2]) (g0 := (.un, .un)) (r := .err ⟨"IsComplete", none⟩) (fun l hl g => ?_) fun g => by simp_arith only []]
  · rfl
  · obtain ⟨g', hg⟩ := loop_first (enc := PyData.int) (tg := .one 2) (body := bodyOf (evFn fns m) (.cons (.ite (.and (.cmp .ne (.var 1) (.var 2)) (.and (.not (.call e (.cons (.var 0) (.cons (.var 1) (.cons (.var 2) .nil))))) (.not (.call e (.cons (.var 0) (.cons (.var 2) (.cons (.var 1) .nil))))))) (.cons (.ret (.tup (.cons (.call f (.cons (.var 0) (.cons (.var 1) (.cons (.var 2) .nil)))) (.cons (.call f (.cons (.var 0) (.cons (.var 2) (.cons (.var 1) .nil)))) (.cons (.var 1) (.cons (.var 2) .nil)))))) .nil) .nil) .nil)) (fun r => if badP n ms l r = true then some (swD n ms l r) else none) (fun g : Cell => [.val (gameD n ms), .val (.int l), g]) (l := rng n) (g0 := g.2) fun r hr g => by
        refine ⟨_, .val (.int r), rfl, ?_⟩
        unfold badP swD bodyOf
        simp_arith only [c2]
        by_cases z1 : l = r <;> cases z2 : domB n ms l r <;> cases z3 : domB n ms r l <;> simp_arith only [z1, z2, z3, c2, c3, decide_true, decide_false]
    refine ⟨_, (.val (.int l), g'), rfl, ?_⟩
    rw [bodyOf]
    simp_arith only [it_range (show n ≤ 1000 by omega)]
    rw [hg]
    cases (rng n).findSome? (fun r => if badP n ms l r = true then some (swD n ms l r) else none) <;> simp_arith only []
end
end Qw

set_option Elab.async false
set_option linter.all false
set_option maxRecDepth 100000
set_option maxHeartbeats 4000000
/-! is_swap. By an AI agent. -/
namespace Qw
open PySem L2
def swQ (n : Nat) (ms : List (List Int)) (f s : List Int) (l r : Int) : Bool :=
  decide (l ∈ f) && (!decide (r ∈ f) && (decide (r ∈ s) && (!decide (l ∈ s) && (winB ms f && (winB ms s && (!winB ms (exch f l r) && !winB ms (exch s r l)))))))
def isSwapB (n : Nat) (ms : List (List Int)) : D → Bool
  | .tuple [a, b, .int l, .int r] => isC n a && (isC n b && (inR 0 ((n : Int) - 1) (.int l) && (inR 0 ((n : Int) - 1) (.int r) && match tupK a, tupK b with
    | some f, some s => swQ n ms f s l r
    | _, _ => false)))
  | _ => false
theorem isC_of {n : Nat} {v : D} (h : isC n v = true) : ∃ c, v = encK c ∧ c ∈ subs n := by
  cases v with
  | tuple ds =>
    by_cases hr : ∀ d ∈ ds, inR 0 ((n : Int) - 1) d = true
    · obtain ⟨c, e1, e2⟩ := ints_of_inR hr
      subst e1
      rw [tuple_K, isC_enc] at h
      exact ⟨c, rfl, of_decide_eq_true h⟩
    · rw [isC_no hr] at h; cases h
  | _ => cases h
theorem inR_of {lo hi : Int} {v : D} (h : inR lo hi v = true) : ∃ x, v = .int x ∧ lo ≤ x ∧ x ≤ hi := by
  cases v with
  | int x => exact ⟨x, rfl, of_decide_eq_true h⟩
  | _ => cases h
theorem tupK_enc (c : List Int) : tupK (encK c) = some c := intsOf_map c
theorem idx_at (ds : List D) (k : Nat) (x : D) (h : ds[k]? = some x) : dIdx (.tuple ds) (.int k) = .ok x := by
  have := idx_T (enc := id) (l := ds) (k := k) (x := x) h
  rwa [List.map_id] at this
theorem four {α : Type} {ds : List α} (h : ds.length = 4) : ∃ x y z w, ds = [x, y, z, w] := by
  match ds, h with
  | [x, y, z, w], _ => exact ⟨x, y, z, w, rfl⟩
theorem swap_len {n : Nat} {ms : List (List Int)} {ds : List D} (h : ds.length ≠ 4) : isSwapB n ms (.tuple ds) = false := by
  unfold isSwapB
  split
  · rename_i e
    cases e
    exact absurd rfl h
  · rfl
theorem swap_no0 {n : Nat} {ms : List (List Int)} {x y z w : D} (h : isC n x = false) : isSwapB n ms (.tuple [x, y, z, w]) = false := by
  unfold isSwapB
  split
  · rename_i e
    cases e
    rw [h]; rfl
  · rfl
theorem swap_no1 {n : Nat} {ms : List (List Int)} {x y z w : D} (h : isC n y = false) : isSwapB n ms (.tuple [x, y, z, w]) = false := by
  unfold isSwapB
  split
  · rename_i e
    cases e
    rw [h]; simp
  · rfl
theorem swap_no2 {n : Nat} {ms : List (List Int)} {x y z w : D} (h : inR 0 ((n : Int) - 1) z = false) : isSwapB n ms (.tuple [x, y, z, w]) = false := by
  unfold isSwapB
  split
  · rename_i e
    cases e
    rw [h]; simp
  · rfl
theorem swap_no3 {n : Nat} {ms : List (List Int)} {x y z w : D} (h : inR 0 ((n : Int) - 1) w = false) : isSwapB n ms (.tuple [x, y, z, w]) = false := by
  unfold isSwapB
  split
  · rename_i e
    cases e
    rw [h]; simp
  · rfl
section
variable {fns : List Fn} {i j a b c d e f i1 i2 i3 : Nat} {n : Nat} {ms : List (List Int)} {v : D}
theorem without_ok (h : fns[i]? = some F_without_player) (c : List Int) (p : Int) : At fns 1 i [encK c, .int p] (.ok (encK (c.filter fun x => !decide (x = p)))) := by
  refine At.mk h rfl fun m _ => ?_
  simp_arith only [F_without_player, List.map_cons, List.map_nil, List.length_cons, List.length_nil, List.replicate_succ, List.replicate_zero, List.append_nil, Nat.zero_add, Nat.reduceAdd, Nat.reduceSub]
  rw [comp_flt (enc := PyData.int) (fun x => !decide (x = p)) PyData.int fun x hx => by simp_arith []]
  simp_arith only []
theorem exchanged_ok (h : fns[i]? = some (F_exchanged a b)) (ha : fns[a]? = some F_with_player) (hb : fns[b]? = some F_without_player) (c : List Int) (hc : c.length < 1000) (l r : Int) : At fns 2 i [encK c, .int l, .int r] (.ok (encK (exch c l r))) := by
  refine At.mk h rfl fun m hm => ?_
  have h1 := without_ok hb c l m hm
  have h2 := with_player_ok ha (c.filter fun x => !decide (x = l)) r (Nat.lt_of_le_of_lt (List.length_filter_le _ _) hc) m hm
  simp_arith only [F_exchanged, List.map_cons, List.map_nil, List.length_cons, List.length_nil, List.replicate_succ, List.replicate_zero, List.append_nil, Nat.zero_add, Nat.reduceAdd, Nat.reduceSub, h1, h2, exch]
theorem is_swap_gen (h : fns[i]? = some (F_is_swap j a b c d)) (hj : Chk fns j) (ha : fns[a]? = some (F_is_coalition b)) (hb : fns[b]? = some F_in_range) (hc : fns[c]? = some (F_is_winning i1)) (hi1 : fns[i1]? = some F_is_subset) (hd : fns[d]? = some (F_exchanged i2 i3)) (hi2 : fns[i2]? = some F_with_player) (hi3 : fns[i3]? = some F_without_player)
    (G : Game n ms) (h1 : 1 ≤ n) (hn : n ≤ 6) {v : D} (hv : v.plain = true) : At fns 5 i [gameD n ms, v] (.ok (.bool (isSwapB n ms v))) := by
  refine At.mk h rfl fun m hm => ?_
  have c1 := hj m hm ms n G h1 hn
  have c2 : ∀ {w : D}, w.plain = true → evFn fns m a [.int n, w] = .ok (.bool (isC n w)) := fun hw => is_coalition_gen ha hb n hw m (by omega)
  have c3 : ∀ {w : D}, w.plain = true → evFn fns m b [w, .int 0, .int ((n : Int) - 1)] = .ok (.bool (inR 0 ((n : Int) - 1) w)) := fun hw => in_range_gen hb (plain_nod hw) 0 _ m (by omega)
  have c4 : ∀ x, evFn fns m c [gameD n ms, encK x] = .ok (.bool (winB ms x)) := fun x => is_winning_ok hc hi1 n ms x m (by omega)
  have c5 : ∀ x l r, x.length < 1000 → evFn fns m d [encK x, .int l, .int r] = .ok (encK (exch x l r)) := fun x l r hx => exchanged_ok hd hi2 hi3 x hx l r m (by omega)
  cases v with
  | dict _ => cases hv
  | tuple ds =>
    by_cases h4 : ds.length = 4
    · obtain ⟨x, y, z, w, rfl⟩ := four h4
      have hp : x.plain = true ∧ y.plain = true ∧ z.plain = true ∧ w.plain = true := by simpa [PyData.plain, PyData.plainAll] using hv
      have ql : dLen (.tuple [x, y, z, w]) = .ok (.int 4) := rfl
      have q0 : dIdx (.tuple [x, y, z, w]) (.int 0) = .ok x := rfl
      have q1 : dIdx (.tuple [x, y, z, w]) (.int 1) = .ok y := rfl
      have q2 : dIdx (.tuple [x, y, z, w]) (.int 2) = .ok z := rfl
      have q3 : dIdx (.tuple [x, y, z, w]) (.int 3) = .ok w := rfl
      cases b0 : isC n x with
      | false => simp_arith! only [F_is_swap, List.map_cons, List.map_nil, List.length_cons, List.length_nil, List.replicate_succ, List.replicate_zero, List.append_nil, Nat.zero_add, Nat.reduceAdd, Nat.reduceSub, c1, ql, q0, c2 hp.1, b0, decide_true, swap_no0 b0]
      | true =>
        cases b1 : isC n y with
        | false => simp_arith! only [F_is_swap, List.map_cons, List.map_nil, List.length_cons, List.length_nil, List.replicate_succ, List.replicate_zero, List.append_nil, Nat.zero_add, Nat.reduceAdd, Nat.reduceSub, c1, ql, q0, q1, c2 hp.1, c2 hp.2.1, b0, b1, decide_true, swap_no1 b1]
        | true =>
          cases b2 : inR 0 ((n : Int) - 1) z with
          | false => simp_arith! only [F_is_swap, List.map_cons, List.map_nil, List.length_cons, List.length_nil, List.replicate_succ, List.replicate_zero, List.append_nil, Nat.zero_add, Nat.reduceAdd, Nat.reduceSub, c1, ql, q0, q1, q2, c2 hp.1, c2 hp.2.1, c3 hp.2.2.1, b0, b1, b2, decide_true, swap_no2 b2]
          | true =>
            cases b3 : inR 0 ((n : Int) - 1) w with
            | false => simp_arith! only [F_is_swap, List.map_cons, List.map_nil, List.length_cons, List.length_nil, List.replicate_succ, List.replicate_zero, List.append_nil, Nat.zero_add, Nat.reduceAdd, Nat.reduceSub, c1, ql, q0, q1, q2, q3, c2 hp.1, c2 hp.2.1, c3 hp.2.2.1, c3 hp.2.2.2, b0, b1, b2, b3, decide_true, swap_no3 b3]
            | true =>
              obtain ⟨f0, rfl, hf0⟩ := isC_of b0
              obtain ⟨s0, rfl, hs0⟩ := isC_of b1
              obtain ⟨l, rfl, hl⟩ := inR_of b2
              obtain ⟨r, rfl, hr⟩ := inR_of b3
              have e5 := c5 f0 l r (by have := subs_small hf0; omega)
              have e6 := c5 s0 r l (by have := subs_small hs0; omega)
              simp_arith! only [F_is_swap, List.map_cons, List.map_nil, List.length_cons, List.length_nil, List.replicate_succ, List.replicate_zero, List.append_nil, Nat.zero_add, Nat.reduceAdd, Nat.reduceSub, c1, ql, q0, q1, q2, q3, c2 hp.1, c2 hp.2.1, c3 hp.2.2.1, c3 hp.2.2.2, b0, b1, b2, b3, decide_true, c4]
              unfold isSwapB
              simp -implicitDefEqProofs only [b0, b1, b2, b3, tupK_enc, Bool.true_and, swQ]
              by_cases z1 : l ∈ f0 <;> by_cases z2 : r ∈ f0 <;> by_cases z3 : r ∈ s0 <;> by_cases z4 : l ∈ s0 <;> simp_arith! only [z1, z2, z3, z4, decide_true, decide_false, c4]
              cases z5 : winB ms f0 <;> cases z6 : winB ms s0 <;> simp_arith! only [z5, z6, c4, e5, e6]
              cases z7 : winB ms (exch f0 l r) <;> simp_arith! only [e6, c4]
    · have h4' : decide ((ds.length : Int) = 4) = false := decide_eq_false (by omega)
      simp_arith! only [F_is_swap, List.map_cons, List.map_nil, List.length_cons, List.length_nil, List.replicate_succ, List.replicate_zero, List.append_nil, Nat.zero_add, Nat.reduceAdd, Nat.reduceSub, c1, len_T, h4', swap_len h4]
  | _ => simp_arith! only [F_is_swap, List.map_cons, List.map_nil, List.length_cons, List.length_nil, List.replicate_succ, List.replicate_zero, List.append_nil, Nat.zero_add, Nat.reduceAdd, Nat.reduceSub, c1, isSwapB]
/-- a tuple of at most 63 items, or no tuple -/
def shortT : D → Bool
  | .tuple ds => decide (ds.length < 64)
  | _ => true
theorem law_is_swap_gen (h : fns[i]? = some (F__law_is_swap a b c)) (ha : fns[a]? = some (F__law_is_coalition b)) (hb : fns[b]? = some (F__law_in e)) (he : fns[e]? = some F__law_whole) (hc : fns[c]? = some (F__law_wins i1)) (hi1 : fns[i1]? = some F__law_within)
    (hn : n ≤ 6) {v : D} (hv : v.plain = true) (hs : ∀ ds, v = .tuple ds → ∀ d ∈ ds, shortT d = true) : At fns 4 i [gameD n ms, v] (.ok (.bool (isSwapB n ms v))) := by
  refine At.mk h rfl fun m hm => ?_
  have c2 : ∀ {w : D}, w.plain = true → shortT w = true → evFn fns m a [.int n, w] = .ok (.bool (isC n w)) := fun {w} hw hz => law_coal_gen ha hb he n hw (fun ds e => by subst e; exact of_decide_eq_true hz) m (by omega)
  have c3 : ∀ {w : D}, w.plain = true → evFn fns m b [w, .int 0, .int ((n : Int) - 1)] = .ok (.bool (inR 0 ((n : Int) - 1) w)) := fun hw => law_in_gen hb he (plain_nod hw) 0 _ m (by omega)
  have c4 : ∀ x, evFn fns m c [gameD n ms, encK x] = .ok (.bool (winB ms x)) := fun x => law_wins_ok hc hi1 n ms x m (by omega)
  cases v with
  | dict _ => cases hv
  | tuple ds =>
    by_cases h4 : ds.length = 4
    · obtain ⟨x, y, z, w, rfl⟩ := four h4
      have hp : x.plain = true ∧ y.plain = true ∧ z.plain = true ∧ w.plain = true := by simpa [PyData.plain, PyData.plainAll] using hv
      have hx := hs _ rfl x (by simp)
      have hy := hs _ rfl y (by simp)
      have ql : dLen (.tuple [x, y, z, w]) = .ok (.int 4) := rfl
      cases b0 : isC n x with
      | false => simp_arith! only [F__law_is_swap, List.map_cons, List.map_nil, List.length_cons, List.length_nil, List.replicate_succ, List.replicate_zero, List.append_nil, Nat.zero_add, Nat.reduceAdd, Nat.reduceSub, ql, c2 hp.1 hx, b0, decide_true, swap_no0 b0]
      | true =>
        cases b1 : isC n y with
        | false => simp_arith! only [F__law_is_swap, List.map_cons, List.map_nil, List.length_cons, List.length_nil, List.replicate_succ, List.replicate_zero, List.append_nil, Nat.zero_add, Nat.reduceAdd, Nat.reduceSub, ql, c2 hp.1 hx, c2 hp.2.1 hy, b0, b1, decide_true, swap_no1 b1]
        | true =>
          cases b2 : inR 0 ((n : Int) - 1) z with
          | false => simp_arith! only [F__law_is_swap, List.map_cons, List.map_nil, List.length_cons, List.length_nil, List.replicate_succ, List.replicate_zero, List.append_nil, Nat.zero_add, Nat.reduceAdd, Nat.reduceSub, ql, c2 hp.1 hx, c2 hp.2.1 hy, c3 hp.2.2.1, b0, b1, b2, decide_true, swap_no2 b2]
          | true =>
            cases b3 : inR 0 ((n : Int) - 1) w with
            | false => simp_arith! only [F__law_is_swap, List.map_cons, List.map_nil, List.length_cons, List.length_nil, List.replicate_succ, List.replicate_zero, List.append_nil, Nat.zero_add, Nat.reduceAdd, Nat.reduceSub, ql, c2 hp.1 hx, c2 hp.2.1 hy, c3 hp.2.2.1, c3 hp.2.2.2, b0, b1, b2, b3, decide_true, swap_no3 b3]
            | true =>
              obtain ⟨f0, rfl, hf0⟩ := isC_of b0
              obtain ⟨s0, rfl, hs0⟩ := isC_of b1
              obtain ⟨l, rfl, hl⟩ := inR_of b2
              obtain ⟨r, rfl, hr⟩ := inR_of b3
              have lf := subs_small hf0
              have ls := subs_small hs0
              simp_arith! only [F__law_is_swap, List.map_cons, List.map_nil, List.length_cons, List.length_nil, List.replicate_succ, List.replicate_zero, List.append_nil, Nat.zero_add, Nat.reduceAdd, Nat.reduceSub, ql, c2 hp.1 hx, c2 hp.2.1 hy, c3 hp.2.2.1, c3 hp.2.2.2, b0, b1, b2, b3, decide_true, c4]
              unfold isSwapB
              simp -implicitDefEqProofs only [b0, b1, b2, b3, tupK_enc, Bool.true_and, swQ]
              by_cases z1 : l ∈ f0 <;> by_cases z2 : r ∈ f0 <;> by_cases z3 : r ∈ s0 <;> by_cases z4 : l ∈ s0 <;> simp_arith! only [z1, z2, z3, z4, decide_true, decide_false, c4]
              rw [comp_flt (enc := PyData.int) (fun x => !decide (x = l)) PyData.int fun x hx => by simp_arith []]
              simp_arith! only [add_K (f0.filter fun x => !decide (x = l)) [r] (by have := List.length_filter_le (fun x => !decide (x = l)) f0; show _ + 1 ≤ 100000; omega)]
              rw [comp_flt (enc := PyData.int) (fun x => !decide (x = r)) PyData.int fun x hx => by simp_arith []]
              simp_arith! only [add_K (s0.filter fun x => !decide (x = r)) [l] (by have := List.length_filter_le (fun x => !decide (x = r)) s0; show _ + 1 ≤ 100000; omega), c4, exch, winB_sort]
              cases z5 : winB ms f0 <;> cases z6 : winB ms s0 <;> simp_arith! only [z5, z6, c4]
              cases z7 : winB ms ((f0.filter fun x => !decide (x = l)) ++ [r]) <;> simp_arith! only [c4]
    · have h4' : decide ((ds.length : Int) = 4) = false := decide_eq_false (by omega)
      simp_arith! only [F__law_is_swap, List.map_cons, List.map_nil, List.length_cons, List.length_nil, List.replicate_succ, List.replicate_zero, List.append_nil, Nat.zero_add, Nat.reduceAdd, Nat.reduceSub, len_T, h4', swap_len h4]
  | _ => simp_arith! only [F__law_is_swap, List.map_cons, List.map_nil, List.length_cons, List.length_nil, List.replicate_succ, List.replicate_zero, List.append_nil, Nat.zero_add, Nat.reduceAdd, Nat.reduceSub, isSwapB]
theorem law_swap_ok {xc : List Str} (h : fns[i]? = some (F__law_swap xc j)) (hx : xc.contains "IsComplete" = true) (hj : ∀ m, 5 ≤ m → evFn fns m j [gameD n ms] = (match swapK n ms with | some d => .ok d | none => .err ⟨"IsComplete", none⟩)) :
    At fns 6 i [gameD n ms] (.ok (match swapK n ms with | some d => d | none => .str "complete")) := by
  refine At.mk h rfl fun m hm => ?_
  have c1 := hj m hm
  cases q : swapK n ms with
  | some d =>
    rw [q] at c1
    simp_arith! only [F__law_swap, List.map_cons, List.map_nil, List.length_cons, List.length_nil, List.replicate_succ, List.replicate_zero, List.append_nil, Nat.zero_add, Nat.reduceAdd, Nat.reduceSub, c1]
  | none =>
    rw [q] at c1
    simp_arith! only [F__law_swap, List.map_cons, List.map_nil, List.length_cons, List.length_nil, List.replicate_succ, List.replicate_zero, List.append_nil, Nat.zero_add, Nat.reduceAdd, Nat.reduceSub, c1, Option.isNone_none, hx]
    rfl
/-- what swap returns is a swap; it finds none exactly in complete games -/
theorem swap_some (hd : swapK n ms = some v) : ∃ l r, l ∈ rng n ∧ r ∈ rng n ∧ l ≠ r ∧ domB n ms l r = false ∧ domB n ms r l = false ∧ v = swD n ms l r := by
  obtain ⟨l, hl, h1⟩ := List.exists_of_findSome?_eq_some hd
  obtain ⟨r, hr, h2⟩ := List.exists_of_findSome?_eq_some h1
  split at h2
  · rename_i z
    unfold badP at z
    simp -implicitDefEqProofs only [Bool.and_eq_true, Bool.not_eq_true', decide_eq_false_iff_not] at z
    cases h2
    exact ⟨l, r, hl, hr, z.1, z.2.1, z.2.2, rfl⟩
  · cases h2
theorem swap_none : swapK n ms = none ↔ compB n ms = true := by
  unfold swapK compB
  rw [List.findSome?_eq_none_iff, List.all_eq_true]
  constructor
  · intro h l hl
    rw [List.all_eq_true]
    intro r hr
    have r1 := rng_mem.mp hl
    have r2 := rng_mem.mp hr
    have := List.findSome?_eq_none_iff.mp (h l hl) r (rng_mem.mpr (by omega))
    split at this
    · cases this
    · rename_i z
      unfold badP at z
      have hne : decide (l = r) = false := decide_eq_false (by omega)
      rw [hne] at z
      revert z
      cases domB n ms l r <;> cases domB n ms r l <;> simp
  · intro h l hl
    rw [List.findSome?_eq_none_iff]
    intro r hr
    rw [if_neg]
    intro z
    unfold badP at z
    simp -implicitDefEqProofs only [Bool.and_eq_true, Bool.not_eq_true', decide_eq_false_iff_not] at z
    have r1 := rng_mem.mp hl
    have r2 := rng_mem.mp hr
    rcases Int.lt_or_gt_of_ne z.1 with y | y
    · have := List.all_eq_true.mp (h r hr) l (rng_mem.mpr (by omega))
      rw [z.2.1, z.2.2] at this
      cases this
    · have := List.all_eq_true.mp (h l hl) r (rng_mem.mpr (by omega))
      rw [z.2.1, z.2.2] at this
      cases this
theorem exch_mem {c : List Int} {l r x : Int} (hl : l ∉ c) : x ∈ exch (sortI (c ++ [l])) l r ↔ x ∈ c ++ [r] := by
  unfold exch
  rw [mem_sortI, List.mem_append, List.mem_filter, mem_sortI, List.mem_append, List.mem_append]
  by_cases z : x = l
  · subst z; simp [hl]
  · simp [z]
theorem swap_good (hn : n ≤ 6) (hd : swapK n ms = some v) : isSwapB n ms v = true ∧ v.plain = true ∧ (∀ ds, v = .tuple ds → ∀ d ∈ ds, shortT d = true) ∧ ∃ ds, v = .tuple ds := by
  obtain ⟨l, r, hl, hr, hne, d1, d2, rfl⟩ := swap_some hd
  obtain ⟨c, hc, c1, c2, c3, c4, c5⟩ := wit_none (l := l) (r := r) d2
  obtain ⟨b, hb, b1, b2, b3, b4, b5⟩ := wit_none (l := r) (r := l) d1
  have w1 : witD n ms l r = encK (sortI (c ++ [l])) := by unfold witD; rw [c5]
  have w2 : witD n ms r l = encK (sortI (b ++ [r])) := by unfold witD; rw [b5]
  unfold swD
  rw [w1, w2]
  have s1 := with_subs hc hl c1
  have s2 := with_subs hb hr b1
  refine ⟨?_, ?_, ?_, _, rfl⟩
  · unfold isSwapB
    have r1 := rng_mem.mp hl
    have r2 := rng_mem.mp hr
    simp -implicitDefEqProofs only [isC_enc, tupK_enc, s1, s2, decide_true, Bool.true_and, inR, swQ]
    have m1 : l ∈ sortI (c ++ [l]) := mem_sortI.mpr (by simp)
    have m2 : r ∉ sortI (c ++ [l]) := fun z => by
      rcases List.mem_append.mp (mem_sortI.mp z) with y | y
      · exact c2 y
      · exact hne (List.mem_singleton.mp y).symm
    have m3 : r ∈ sortI (b ++ [r]) := mem_sortI.mpr (by simp)
    have m4 : l ∉ sortI (b ++ [r]) := fun z => by
      rcases List.mem_append.mp (mem_sortI.mp z) with y | y
      · exact b2 y
      · exact hne (List.mem_singleton.mp y)
    rw [winB_congr (b := c ++ [r]) fun x => exch_mem c1, winB_congr (b := b ++ [l]) fun x => exch_mem b1, winB_sort, winB_sort, c3, c4, b3, b4, decide_eq_true m1, decide_eq_false m2, decide_eq_true m3, decide_eq_false m4]
    simp -implicitDefEqProofs only [Bool.true_and, Bool.not_false, Bool.and_true]
    rw [decide_eq_true (by omega), decide_eq_true (by omega)]
    rfl
  · simp [PyData.plain, PyData.plainAll, plain_K]
  · intro ds e d hd
    cases e
    have l1 := subs_small s1
    have l2 := subs_small s2
    have sh : ∀ k : List Int, k.length < 64 → shortT (encK k) = true := fun k hk => decide_eq_true (by rw [List.length_map]; exact hk)
    simp -implicitDefEqProofs only [List.mem_cons, List.not_mem_nil, or_false] at hd
    rcases hd with e | e | e | e
    · rw [e]; exact sh _ (by omega)
    · rw [e]; exact sh _ (by omega)
    · rw [e]; rfl
    · rw [e]; rfl
end
end Qw

set_option Elab.async false
set_option linter.all false
set_option maxRecDepth 100000
set_option maxHeartbeats 4000000
/-! Small tools for the laws' bodies. By an AI agent. -/
namespace Qw
open PySem L2
/-- a block's statements by number; what is left behind them -/
def nthS : Ss → Nat → S
  | .nil, _ => .never
  | .cons s _, 0 => s
  | .cons _ ss, k + 1 => nthS ss k
  | .rel _ ss, k => nthS ss k
def dropS : Ss → Nat → Ss
  | ss, 0 => ss
  | .nil, _ + 1 => .nil
  | .cons _ ss, k + 1 => dropS ss k
  | .rel _ ss, k + 1 => dropS ss (k + 1)
theorem add_LL (a b : List D) : dBin .add (.list a) (.list b) = if a.length + b.length ≤ LIM then .ok (.list (a ++ b)) else .bad := rfl
theorem add_TT (a b : List D) : dBin .add (.tuple a) (.tuple b) = if a.length + b.length ≤ LIM then .ok (.tuple (a ++ b)) else .bad := rfl
theorem idx_modL {vals : List D} {x : Int} {k : Nat} (hk : vals.length = k) (h0 : 0 < k) : ∃ v ∈ vals, dIdx (.list vals) (.int (x % (k : Int))) = .ok v := by
  have p1 := Int.emod_nonneg x (show (k : Int) ≠ 0 by omega)
  have p2 := Int.emod_lt_of_pos x (show (0 : Int) < k by omega)
  have hj : (x % (k : Int)).toNat < vals.length := by omega
  refine ⟨vals[(x % (k : Int)).toNat], List.getElem_mem hj, ?_⟩
  have := idx_L (enc := id) (l := vals) (k := (x % (k : Int)).toNat) (x := vals[(x % (k : Int)).toNat]) (List.getElem?_eq_getElem hj)
  rw [List.map_id, show (((x % (k : Int)).toNat : Nat) : Int) = x % (k : Int) by omega] at this
  exact this
theorem idx_modK {l : List (List Int)} {x : Int} (h0 : 0 < l.length) : ∃ c ∈ l, dIdx (.list (l.map encK)) (.int (x % (l.length : Int))) = .ok (encK c) := by
  have p1 := Int.emod_nonneg x (show (l.length : Int) ≠ 0 by omega)
  have p2 := Int.emod_lt_of_pos x (show (0 : Int) < l.length by omega)
  have hj : (x % (l.length : Int)).toNat < l.length := by omega
  refine ⟨l[(x % (l.length : Int)).toNat], List.getElem_mem hj, ?_⟩
  have := idx_L (enc := encK) (l := l) (k := (x % (l.length : Int)).toNat) (x := l[(x % (l.length : Int)).toNat]) (List.getElem?_eq_getElem hj)
  rw [show (((x % (l.length : Int)).toNat : Nat) : Int) = x % (l.length : Int) by omega] at this
  exact this
theorem mod_rng {n : Nat} {x : Int} (h : 1 ≤ n) : x % (n : Int) ∈ rng n := rng_mem.mpr ⟨Int.emod_nonneg x (by omega), Int.emod_lt_of_pos x (by omega)⟩
theorem bin_modN (a : Int) (k : Nat) (h : 1 ≤ k) : dBin .mod (.int a) (.int (k : Int)) = .ok (.int (a % (k : Int))) := bin_mod a k (by omega)
theorem shortK {c : List Int} (h : c.length < 64) : shortT (encK c) = true := decide_eq_true (by rw [List.length_map]; exact h)
/-- plain, and its items are short tuples -/
def okVB : D → Bool
  | .tuple ds => PyData.plainAll ds && ds.all shortT
  | v => v.plain
theorem okVB_ok {v : D} (h : okVB v = true) : v.plain = true ∧ ∀ ds, v = .tuple ds → ∀ d ∈ ds, shortT d = true := by
  cases v with
  | tuple ds =>
    have h : (PyData.plainAll ds && ds.all shortT) = true := h
    rw [Bool.and_eq_true, List.all_eq_true] at h
    refine ⟨by simpa [PyData.plain] using h.1, fun es e => ?_⟩
    cases e
    exact h.2
  | _ => exact ⟨h, fun ds e => by cases e⟩
theorem short_int (x : Int) : shortT (.int x) = true := rfl
theorem short_none : shortT .none = true := rfl
theorem short_list (l : List D) : shortT (.list l) = true := rfl
theorem plain_int (x : Int) : (PyData.int x).plain = true := rfl
theorem plain_none : PyData.none.plain = true := rfl
theorem plain_list (l : List D) : (PyData.list l).plain = PyData.plainAll l := by simp [PyData.plain]
theorem plain_tuple (l : List D) : (PyData.tuple l).plain = PyData.plainAll l := by simp [PyData.plain]
theorem plainAll_cons (d : D) (l : List D) : PyData.plainAll (d :: l) = (d.plain && PyData.plainAll l) := by simp [PyData.plainAll]
theorem plainAll_nil : PyData.plainAll [] = true := rfl
theorem okVB_tup (ds : List D) : okVB (.tuple ds) = (PyData.plainAll ds && ds.all shortT) := rfl
theorem okVB_list (ds : List D) : okVB (.list ds) = (PyData.list ds).plain := rfl
theorem okVB_none : okVB .none = true := rfl
theorem nubI_len (l : List Int) : (sortI (nubI l)).length ≤ l.length := by
  rw [(sortI_perm' _).length_eq]
  induction l with
  | nil => exact Nat.le_refl _
  | cons a l ih =>
    unfold nubI
    rw [List.length_cons, List.length_cons]
    have := List.length_filter_le (fun j => !decide (j = a)) (nubI l)
    omega
theorem allC_pos (n : Nat) : 0 < (allC n).length := by rw [allC_len]; exact Nat.pow_pos (by omega)
/-- a game from its list, by looking -/
def gameB (n : Nat) (ms : List (List Int)) : Bool :=
  (ms.all fun m => decide (m ∈ subs n) && decide (m ≠ [])) && decide (ms ≠ []) && decide (ms.Pairwise (· < ·)) && ms.all fun a => ms.all fun b => decide (a = b) || !subB a b
theorem gameB_ok {n : Nat} {ms : List (List Int)} (h : gameB n ms = true) : Game n ms := by
  unfold gameB at h
  simp -implicitDefEqProofs only [Bool.and_eq_true, List.all_eq_true, decide_eq_true_eq, Bool.or_eq_true, Bool.not_eq_true'] at h
  obtain ⟨⟨⟨h1, h2⟩, h3⟩, h4⟩ := h
  refine ⟨h1, h2, h3, fun a ha b hb hne hs => ?_⟩
  rcases h4 a ha b hb with z | z
  · exact hne z
  · rw [subB_iff.mpr hs] at z; cases z
end Qw

set_option Elab.async false
set_option linter.all false
set_option maxRecDepth 100000
set_option maxHeartbeats 4000000
/-! minimal_members, from_coalitions, winning, wins. By an AI agent. -/
namespace Qw
open PySem L2
theorem depthAll_Ks (l : List (List Int)) : PyData.depthAll (l.map encK) ≤ 64 := Nat.le_trans (depth_Ks l) (by omega)
theorem in_Ks (c : List Int) (l : List (List Int)) : dIn (encK c) (.list (l.map encK)) = .ok (decide (c ∈ l)) := by
  show (if okIn (encK c) (l.map encK) = true then R.ok ((l.map encK).any fun z => PyData.eqv z (encK c)) else .bad) = _
  rw [if_pos (by
    unfold okIn
    rw [plain_Ks, plain_K]
    simp -implicitDefEqProofs only [Bool.and_self, Bool.true_and, decide_eq_true_eq]
    have := depth_Ks l
    omega)]
  congr 1
  rw [List.any_map, Bool.eq_iff_iff, List.any_eq_true, decide_eq_true_eq]
  constructor
  · rintro ⟨x, hx, h⟩
    have : decide (x = c) = true := by rw [← eqv_K]; exact h
    rw [← of_decide_eq_true this]; exact hx
  · intro h
    exact ⟨c, h, by show PyData.eqv (encK c) (encK c) = true; rw [eqv_K]; exact decide_eq_true rfl⟩
theorem isin_Ks (c : List Int) (l : List (List Int)) : dCmp .isin (encK c) (.list (l.map encK)) = .ok (.bool (decide (c ∈ l))) := by
  show (dIn (encK c) (.list (l.map encK))).bind _ = _
  rw [in_Ks]; rfl
theorem notin_Ks (c : List Int) (l : List (List Int)) : dCmp .notin (encK c) (.list (l.map encK)) = .ok (.bool (!decide (c ∈ l))) := by
  show (dIn (encK c) (.list (l.map encK))).bind _ = _
  rw [in_Ks]; rfl
theorem eqv_Ks : ∀ a b : List (List Int), PyData.eqvAll (a.map encK) (b.map encK) = decide (a = b)
  | [], [] => rfl
  | [], _ :: _ => by simp [PyData.eqvAll]
  | _ :: _, [] => by simp [PyData.eqvAll]
  | x :: a, y :: b => by
    rw [List.map_cons, List.map_cons]
    simp -implicitDefEqProofs only [PyData.eqvAll, eqv_K, eqv_Ks a b]
    by_cases h : x = y <;> by_cases h2 : a = b <;> simp [h, h2]
theorem depth_LKs (l : List (List Int)) : (PyData.list (l.map encK)).depth ≤ 64 := by
  simp -implicitDefEqProofs only [PyData.depth]
  have := depth_Ks l
  omega
theorem neq_LKs (a b : List (List Int)) : dCmp .ne (.list (a.map encK)) (.list (b.map encK)) = .ok (.bool (!decide (a = b))) := by
  rw [ne_of (okEq_of (by simp [PyData.plain, plain_Ks]) (by simp [PyData.plain, plain_Ks]) (.inl (depth_LKs a)))]
  simp -implicitDefEqProofs only [PyData.eqv, eqv_Ks]
theorem eq_LKs (a b : List (List Int)) : dCmp .eq (.list (a.map encK)) (.list (b.map encK)) = .ok (.bool (decide (a = b))) := by
  rw [eq_of (okEq_of (by simp [PyData.plain, plain_Ks]) (by simp [PyData.plain, plain_Ks]) (.inl (depth_LKs a)))]
  simp -implicitDefEqProofs only [PyData.eqv, eqv_Ks]
theorem plain_G (n : Int) (ms : List (List Int)) : (gameD n ms).plain = true := by
  unfold gameD
  simp [PyData.plain, PyData.plainAll, plain_Ks]
theorem depth_G (n : Int) (ms : List (List Int)) : (gameD n ms).depth ≤ 64 := by
  unfold gameD
  simp -implicitDefEqProofs only [PyData.depth, PyData.depthAll]
  have := depth_Ks ms
  omega
theorem neq_G (n m : Int) (a b : List (List Int)) : dCmp .ne (gameD n a) (gameD m b) = .ok (.bool (!(decide (n = m) && decide (a = b)))) := by
  rw [ne_of (okEq_of (plain_G n a) (plain_G m b) (.inl (depth_G n a)))]
  unfold gameD
  simp -implicitDefEqProofs only [PyData.eqv, PyData.eqvAll, eqv_Ks, Bool.and_true]
  by_cases h : n = m <;> simp [h]
theorem eq_G (n m : Int) (a b : List (List Int)) : dCmp .eq (gameD n a) (gameD m b) = .ok (.bool (decide (n = m) && decide (a = b))) := by
  rw [eq_of (okEq_of (plain_G n a) (plain_G m b) (.inl (depth_G n a)))]
  unfold gameD
  simp -implicitDefEqProofs only [PyData.eqv, PyData.eqvAll, eqv_Ks, Bool.and_true]
  by_cases h : n = m <;> simp [h]
/-- two ascending lists of coalitions with the same members -/
theorem incK_ext {a b : List (List Int)} (ha : a.Pairwise (· < ·)) (hb : b.Pairwise (· < ·)) (h : ∀ x, x ∈ a ↔ x ∈ b) : a = b := by
  have na : a.Nodup := ha.imp fun z => by intro e; subst e; exact absurd z (List.lt_irrefl _)
  have nb : b.Nodup := hb.imp fun z => by intro e; subst e; exact absurd z (List.lt_irrefl _)
  have p : a.Perm b := (List.perm_ext_iff_of_nodup na nb).mpr h
  exact p.eq_of_pairwise (le := fun x y => x < y) (fun x y _ _ h1 h2 => absurd (List.lt_trans h1 h2) (List.lt_irrefl _)) ha hb
theorem minK_inc (cs : List (List Int)) : (minK cs).Pairwise (· < ·) := (sortK_lt (nubK_nd cs)).filter _
/-- the minimal ones of the winning coalitions are the game's -/
theorem min_win {n : Nat} {ms : List (List Int)} (G : Game n ms) : minK ((allC n).filter (winB ms)) = ms := by
  refine incK_ext (minK_inc _) G.inc fun c => ?_
  rw [minK_mem, List.mem_filter, isMin_iff]
  constructor
  · rintro ⟨⟨h1, h2⟩, h3⟩
    obtain ⟨m, hm, hs⟩ := winB_iff.mp h2
    have hw : winB ms m = true := winB_iff.mpr ⟨m, hm, fun x hx => hx⟩
    by_cases e : m = c
    · rw [← e]; exact hm
    · exact absurd hs (h3 m (List.mem_filter.mpr ⟨allC_mem.mpr (G.mem m hm).1, hw⟩) e)
  · intro hc
    refine ⟨⟨allC_mem.mpr (G.mem c hc).1, winB_iff.mpr ⟨c, hc, fun x hx => hx⟩⟩, fun o ho hne hs => ?_⟩
    obtain ⟨m, hm, hms⟩ := winB_iff.mp (List.mem_filter.mp ho).2
    have hmc : m = c := by
      by_cases e : m = c
      · exact e
      · exact absurd (fun x hx => hs x (hms x hx)) (G.anti m hm c hc e)
    subst hmc
    exact hne (inc_ext (subs_inc (allC_mem.mp (List.mem_filter.mp ho).1)) (subs_inc (G.mem m hm).1) fun x => ⟨hs x, hms x⟩)
section
variable {fns : List Fn} {i j a b c d e f i1 i2 i3 : Nat} {n : Nat} {ms : List (List Int)} {v : D}
theorem minimal_members_ok (h : fns[i]? = some (F_minimal_members j)) (hj : fns[j]? = some F_is_subset) (cs : List (List Int)) (hl : cs.length < 64) : At fns 2 i [.list (cs.map encK)] (.ok (.tuple ((minK cs).map encK))) := by
  refine At.mk h rfl fun m hm => ?_
  have c1 : ∀ x y, evFn fns m j [encK x, encK y] = .ok (.bool (subB x y)) := fun x y => is_subset_ok hj x y m hm
  simp_arith only [F_minimal_members, List.map_cons, List.map_nil, List.length_cons, List.length_nil, List.replicate_succ, List.replicate_zero, List.append_nil, Nat.zero_add, Nat.reduceAdd, Nat.reduceSub, sortset_K cs hl]
  rw [comp_flt (enc := encK) (fun c => (sortK (nubK cs)).any fun o => !decide (o = c) && subB o c) encK fun c hc => by
    simp_arith []
    rw [comp_flt (enc := encK) (fun o => !decide (o = c) && subB o c) (fun _ => PyData.int 1) fun o ho => by
      simp_arith [c1]
      by_cases z : o = c <;> simp_arith only [z, c1, decide_true, decide_false]]
    simp_arith only [List.isEmpty_map, filter_any, Bool.not_not]]
  simp_arith only []
  rw [comp_flt (enc := encK) (fun c => !decide (c ∈ (sortK (nubK cs)).filter fun c => (sortK (nubK cs)).any fun o => !decide (o = c) && subB o c)) encK fun c hc => by
    simp_arith [notin_Ks]]
  simp_arith only []
  congr 3
  unfold minK
  refine List.filter_congr fun c hc => ?_
  unfold isMin
  rw [Bool.eq_iff_iff]
  simp -implicitDefEqProofs only [Bool.not_eq_true', decide_eq_false_iff_not, List.mem_filter, hc, true_and, Bool.not_eq_true]
  rw [List.any_eq_false, List.any_eq_false]
  constructor
  · intro z o ho
    exact z o ((sortK_perm _).mem_iff.mpr (nubK_mem.mpr ho))
  · intro z o ho
    exact z o (nubK_mem.mp ((sortK_perm _).mem_iff.mp ho))
theorem winning_ok (h : fns[i]? = some (F_winning j a b)) (hj : Chk fns j) (ha : fns[a]? = some F_all_coalitions) (hb : fns[b]? = some (F_is_winning c)) (hc : fns[c]? = some F_is_subset) (G : Game n ms) (h1 : 1 ≤ n) (hn : n ≤ 6) :
    At fns 5 i [gameD n ms] (.ok (.list (((allC n).filter (winB ms)).map encK))) := by
  refine At.mk h rfl fun m hm => ?_
  have c1 := hj m hm ms n G h1 hn
  have c2 := all_coalitions_ok ha n (by omega) m (by omega)
  have c3 : ∀ x, evFn fns m b [gameD n ms, encK x] = .ok (.bool (winB ms x)) := fun x => is_winning_ok hb hc n ms x m (by omega)
  simp_arith only [F_winning, List.map_cons, List.map_nil, List.length_cons, List.length_nil, List.replicate_succ, List.replicate_zero, List.append_nil, Nat.zero_add, Nat.reduceAdd, Nat.reduceSub, c1, c2]
  rw [comp_flt (enc := encK) (winB ms) encK fun c hc => by simp_arith [c3]]
  simp_arith only []
theorem wins_gen (h : fns[i]? = some (F_wins j a b)) (hj : Chk fns j) (ha : fns[a]? = some (F_is_coalition d)) (hd : fns[d]? = some F_in_range) (hb : fns[b]? = some (F_is_winning c)) (hc : fns[c]? = some F_is_subset) (G : Game n ms) (h1 : 1 ≤ n) (hn : n ≤ 6) (hv : v.plain = true) :
    At fns 5 i [gameD n ms, v] (if isC n v = true then (match tupK v with | some c => .ok (.bool (winB ms c)) | none => .bad) else .err ⟨"InvalidCoalition", none⟩) := by
  refine At.mk h rfl fun m hm => ?_
  have c1 := hj m hm ms n G h1 hn
  have c2 := is_coalition_gen ha hd n hv m (by omega)
  have c3 : ∀ x, evFn fns m b [gameD n ms, encK x] = .ok (.bool (winB ms x)) := fun x => is_winning_ok hb hc n ms x m (by omega)
  cases z : isC n v with
  | false => simp_arith only [F_wins, List.map_cons, List.map_nil, List.length_cons, List.length_nil, List.replicate_succ, List.replicate_zero, List.append_nil, Nat.zero_add, Nat.reduceAdd, Nat.reduceSub, c1, c2, z]
  | true =>
    obtain ⟨x, rfl, hx⟩ := isC_of z
    simp_arith only [F_wins, List.map_cons, List.map_nil, List.length_cons, List.length_nil, List.replicate_succ, List.replicate_zero, List.append_nil, Nat.zero_add, Nat.reduceAdd, Nat.reduceSub, c1, c2, z, c3, tupK_enc]
theorem maximal_losing_top (h : fns[i]? = some (F_maximal_losing j a)) (hj : Chk fns j) (ha : ∀ m, 3 ≤ m → evFn fns m a [gameD n ms] = .ok (.list ((maxL n ms).map encK))) (G : Game n ms) (h1 : 1 ≤ n) (hn : n ≤ 6) : At fns 5 i [gameD n ms] (.ok (.list ((maxL n ms).map encK))) := by
  refine At.mk h rfl fun m hm => ?_
  have c1 := hj m hm ms n G h1 hn
  have c2 := ha m (by omega)
  simp_arith only [F_maximal_losing, List.map_cons, List.map_nil, List.length_cons, List.length_nil, List.replicate_succ, List.replicate_zero, List.append_nil, Nat.zero_add, Nat.reduceAdd, Nat.reduceSub, c1, c2]
/-- from_coalitions: what it raises, what it returns -/
theorem from_player (h : fns[i]? = some (F_from_coalitions a b c)) (ha : fns[a]? = some F_in_range) {p : D} (hp : p.plain = true) (hr : inR 1 6 p = false) : At fns 4 i [p, v] (.err ⟨"InvalidPlayer", none⟩) := by
  refine At.mk h rfl fun m hm => ?_
  have c1 := in_range_gen ha (plain_nod hp) 1 6 m (by omega)
  simp_arith only [F_from_coalitions, List.map_cons, List.map_nil, List.length_cons, List.length_nil, List.replicate_succ, List.replicate_zero, List.append_nil, Nat.zero_add, Nat.reduceAdd, Nat.reduceSub, c1, hr]
theorem from_ok (h : fns[i]? = some (F_from_coalitions a b c)) (ha : fns[a]? = some F_in_range) (hb : fns[b]? = some (F_is_coalition a)) (hc : fns[c]? = some (F_minimal_members d)) (hd : fns[d]? = some F_is_subset) (h1 : 1 ≤ n) (hn : n ≤ 6) {cs : List (List Int)} (hne : cs ≠ []) (hl : cs.length < 64) (hs : ∀ x ∈ cs, x ∈ subs n ∧ x ≠ []) :
    At fns 4 i [.int n, .list (cs.map encK)] (.ok (gameD n (minK cs))) := by
  refine At.mk h rfl fun m hm => ?_
  have c1 := in_range_gen ha (v := .int n) rfl 1 6 m (by omega)
  have r1 : inR 1 6 (.int n) = true := decide_eq_true (by omega)
  have c2 : ∀ x, evFn fns m b [.int n, encK x] = .ok (.bool (isC n (encK x))) := fun x => is_coalition_gen hb ha n (plain_K x) m (by omega)
  have c3 := minimal_members_ok hc hd cs hl m (by omega)
  have e1 : (cs.map encK).isEmpty = false := by cases cs <;> first | exact absurd rfl hne | rfl
  simp_arith only [F_from_coalitions, List.map_cons, List.map_nil, List.length_cons, List.length_nil, List.replicate_succ, List.replicate_zero, List.append_nil, Nat.zero_add, Nat.reduceAdd, Nat.reduceSub, c1, r1, e1]
  rw [comp_flt (enc := encK) (fun x => !isC n (encK x)) encK fun x hx => by simp_arith [c2]]
  rw [List.filter_eq_nil_iff.mpr fun x hx => by rw [isC_enc, decide_eq_true (hs x hx).1]; exact Bool.false_ne_true]
  have e2 : decide (([] : List Int) ∈ cs) = false := decide_eq_false fun z => (hs [] z).2 rfl
  simp_arith only [List.map_nil, List.isEmpty_nil, isin_Ks, e2, c3]
  rfl
theorem from_coal (h : fns[i]? = some (F_from_coalitions a b c)) (ha : fns[a]? = some F_in_range) (hb : fns[b]? = some (F_is_coalition a)) (h1 : 1 ≤ n) (hn : n ≤ 6) (hv : v.plain = true) (hbad : ∀ ds, v = .list ds → ds ≠ [] → (ds.any fun d => !isC n d) = true ∨ ∃ cs : List (List Int), ds = cs.map encK ∧ [] ∈ cs) :
    At fns 4 i [.int n, v] (.err ⟨"InvalidCoalition", none⟩) := by
  refine At.mk h rfl fun m hm => ?_
  have c1 := in_range_gen ha (v := .int n) rfl 1 6 m (by omega)
  have r1 : inR 1 6 (.int n) = true := decide_eq_true (by omega)
  have c2 : ∀ {x : D}, x.plain = true → evFn fns m b [.int n, x] = .ok (.bool (isC n x)) := fun hx => is_coalition_gen hb ha n hx m (by omega)
  cases v with
  | dict _ => cases hv
  | list ds =>
    cases ds with
    | nil => simp_arith only [F_from_coalitions, List.map_cons, List.map_nil, List.length_cons, List.length_nil, List.replicate_succ, List.replicate_zero, List.append_nil, Nat.zero_add, Nat.reduceAdd, Nat.reduceSub, c1, r1, List.isEmpty_nil]
    | cons x0 ds0 =>
      have hp : ∀ d ∈ x0 :: ds0, d.plain = true := fun d hd => plain_mem (by simpa [PyData.plain] using hv) d hd
      have hb' := hbad _ rfl (by simp)
      revert hp hb'
      have e1 : (x0 :: ds0).isEmpty = false := rfl
      revert e1
      generalize x0 :: ds0 = ds
      intro e1 hp hb'
      simp_arith only [F_from_coalitions, List.map_cons, List.map_nil, List.length_cons, List.length_nil, List.replicate_succ, List.replicate_zero, List.append_nil, Nat.zero_add, Nat.reduceAdd, Nat.reduceSub, c1, r1, e1]
      rw [comp_fltD (fun x => !isC n x) fun x hx => by simp_arith [c2 (hp x hx)]]
      rcases hb' with z | ⟨cs, rfl, hcs⟩
      · have e3 : (ds.filter fun x => !isC n x).isEmpty = false := by rw [filter_any, z]; rfl
        simp_arith only [e3]
      · cases z : (cs.map encK).any fun d => !isC n d with
        | true =>
          have e3 : ((cs.map encK).filter fun x => !isC n x).isEmpty = false := by rw [filter_any, z]; rfl
          simp_arith only [e3]
        | false =>
          have e3 : ((cs.map encK).filter fun x => !isC n x).isEmpty = true := by rw [filter_any, z]; rfl
          simp_arith only [e3, isin_Ks, decide_eq_true hcs]
  | _ => simp_arith only [F_from_coalitions, List.map_cons, List.map_nil, List.length_cons, List.length_nil, List.replicate_succ, List.replicate_zero, List.append_nil, Nat.zero_add, Nat.reduceAdd, Nat.reduceSub, c1, r1]
end
end Qw

set_option Elab.async false
set_option linter.all false
set_option maxRecDepth 100000
/-! Determinants of integer columns, by the first row. By an AI agent. -/
namespace Qw.Det
def sumN : Nat → (Nat → Int) → Int
  | 0, _ => 0
  | n + 1, f => sumN n f + f n
theorem sumN_congr {n : Nat} {f g : Nat → Int} (h : ∀ i, i < n → f i = g i) : sumN n f = sumN n g := by
  induction n with
  | zero => rfl
  | succ n ih =>
    unfold sumN
    rw [ih fun i hi => h i (by omega), h n (by omega)]
theorem sumN_zero {n : Nat} {f : Nat → Int} (h : ∀ i, i < n → f i = 0) : sumN n f = 0 := by
  induction n with
  | zero => rfl
  | succ n ih =>
    unfold sumN
    rw [ih fun i hi => h i (by omega), h n (by omega)]
    rfl
theorem sumN_add (n : Nat) (f g : Nat → Int) : sumN n (fun i => f i + g i) = sumN n f + sumN n g := by
  induction n with
  | zero => rfl
  | succ n ih =>
    unfold sumN
    rw [ih]
    show sumN n f + sumN n g + (f n + g n) = _
    omega
theorem sumN_mul (n : Nat) (a : Int) (f : Nat → Int) : sumN n (fun i => a * f i) = a * sumN n f := by
  induction n with
  | zero => simp [sumN]
  | succ n ih => unfold sumN; rw [ih, Int.mul_add]
theorem sumN_one {n k : Nat} {f : Nat → Int} (hk : k < n) (h : ∀ i, i < n → i ≠ k → f i = 0) : sumN n f = f k := by
  induction n with
  | zero => omega
  | succ n ih =>
    unfold sumN
    by_cases e : k = n
    · subst e
      rw [sumN_zero fun i hi => h i (by omega) (by omega), Int.zero_add]
    · rw [ih (by omega) fun i hi hne => h i (by omega) hne, h n (by omega) (by omega), Int.add_zero]
theorem sumN_two {n k l : Nat} {f : Nat → Int} (hk : k < n) (hl : l < n) (hkl : k ≠ l) (h : ∀ i, i < n → i ≠ k → i ≠ l → f i = 0) : sumN n f = f k + f l := by
  have e : sumN n f = sumN n (fun i => (if i = k then f k else 0) + (if i = l then f l else 0)) := sumN_congr fun i hi => by
    by_cases h1 : i = k
    · subst h1; rw [if_pos rfl, if_neg hkl]; omega
    · by_cases h2 : i = l
      · subst h2; rw [if_neg h1, if_pos rfl]; omega
      · rw [if_neg h1, if_neg h2, h i hi h1 h2]; rfl
  rw [e, sumN_add, sumN_one hk fun i hi hne => if_neg hne, sumN_one hl fun i hi hne => if_neg hne, if_pos rfl, if_pos rfl]
def skip (i j : Nat) : Nat := if j < i then j else j + 1
def sgn (i : Nat) : Int := if i % 2 = 0 then 1 else -1
theorem sgn_succ (i : Nat) : sgn (i + 1) = - sgn i := by
  unfold sgn
  by_cases h : i % 2 = 0
  · rw [if_pos h, if_neg (by omega)]
  · rw [if_neg h, if_pos (by omega)]; rfl
abbrev Col := Nat → Int
abbrev Mat := Nat → Col
/-- column i taken out, the first row taken off -/
def minor (c : Mat) (i : Nat) : Mat := fun j r => c (skip i j) (r + 1)
def det : Nat → Mat → Int
  | 0, _ => 1
  | m + 1, c => sumN (m + 1) fun i => sgn i * (c i 0 * det m (minor c i))
def upd (c : Mat) (k : Nat) (v : Col) : Mat := fun i => if i = k then v else c i
theorem upd_self (c : Mat) (k : Nat) (v : Col) : upd c k v k = v := if_pos rfl
theorem upd_ne {c : Mat} {k i : Nat} {v : Col} (h : i ≠ k) : upd c k v i = c i := if_neg h
theorem upd_same (c : Mat) (k : Nat) : upd c k (c k) = c := by
  funext i
  by_cases h : i = k
  · subst h; exact upd_self _ _ _
  · exact upd_ne h
theorem upd_comm (c : Mat) {k l : Nat} (h : k ≠ l) (u v : Col) : upd (upd c k u) l v = upd (upd c l v) k u := by
  funext i
  unfold upd
  by_cases h1 : i = l
  · subst h1; rw [if_pos rfl, if_neg (fun e => h e.symm), if_pos rfl]
  · rw [if_neg h1]
    by_cases h2 : i = k
    · rw [if_pos h2, if_pos h2]
    · rw [if_neg h2, if_neg h2, if_neg h1]
theorem upd_upd (c : Mat) (k : Nat) (u v : Col) : upd (upd c k u) k v = upd c k v := by
  funext i
  unfold upd
  by_cases h : i = k
  · rw [if_pos h, if_pos h]
  · rw [if_neg h, if_neg h, if_neg h]
theorem det_congr : ∀ {m : Nat} {c d : Mat}, (∀ i, i < m → ∀ r, r < m → c i r = d i r) → det m c = det m d
  | 0, _, _, _ => rfl
  | m + 1, c, d, h => by
    unfold det
    refine sumN_congr fun i hi => ?_
    rw [h i hi 0 (by omega), det_congr (c := minor c i) (d := minor d i) fun j hj r hr => ?_]
    exact h _ (by unfold skip; split <;> omega) _ (by omega)
/-- the place of column k when column i is taken out -/
def pl (i k : Nat) : Nat := if k < i then k else k - 1
theorem minor_upd_ne {c : Mat} {i k : Nat} {v : Col} (h : i ≠ k) : minor (upd c k v) i = upd (minor c i) (pl i k) (fun r => v (r + 1)) := by
  funext j r
  unfold minor upd pl skip
  by_cases h1 : j < i
  · rw [if_pos h1]
    by_cases h2 : k < i
    · rw [if_pos h2]
      by_cases h3 : j = k
      · rw [if_pos h3, if_pos h3]
      · rw [if_neg h3, if_neg h3]
        show _ = c (if j < i then j else j + 1) (r + 1)
        rw [if_pos h1]
    · rw [if_neg h2, if_neg (by omega), if_neg (by omega)]
      show _ = c (if j < i then j else j + 1) (r + 1)
      rw [if_pos h1]
  · rw [if_neg h1]
    by_cases h2 : k < i
    · rw [if_pos h2, if_neg (by omega), if_neg (by omega)]
      show _ = c (if j < i then j else j + 1) (r + 1)
      rw [if_neg h1]
    · rw [if_neg h2]
      by_cases h3 : j + 1 = k
      · rw [if_pos h3, if_pos (by omega)]
      · rw [if_neg h3, if_neg (by omega)]
        show _ = c (if j < i then j else j + 1) (r + 1)
        rw [if_neg h1]
theorem minor_upd_self {c : Mat} {k : Nat} {v : Col} : minor (upd c k v) k = minor c k := by
  funext j r
  unfold minor upd skip
  by_cases h1 : j < k
  · rw [if_pos h1, if_neg (by omega)]
  · rw [if_neg h1, if_neg (by omega)]
theorem det_lin : ∀ {m : Nat} {c : Mat} {k : Nat} (_ : k < m) (a b : Int) (u v : Col), det m (upd c k fun r => a * u r + b * v r) = a * det m (upd c k u) + b * det m (upd c k v)
  | 0, _, _, h, _, _, _, _ => by omega
  | m + 1, c, k, hk, a, b, u, v => by
    unfold det
    rw [← sumN_mul, ← sumN_mul, ← sumN_add]
    refine sumN_congr fun i hi => ?_
    by_cases h : i = k
    · subst h
      rw [upd_self, upd_self, upd_self, minor_upd_self, minor_upd_self, minor_upd_self]
      generalize det m (minor c i) = d
      generalize u 0 = x
      generalize v 0 = y
      rw [Int.add_mul, Int.mul_add, Int.mul_assoc, Int.mul_assoc, Int.mul_left_comm (sgn i) a, Int.mul_left_comm (sgn i) b]
    · rw [upd_ne h, upd_ne h, upd_ne h, minor_upd_ne h, minor_upd_ne h, minor_upd_ne h]
      rw [det_lin (m := m) (c := minor c i) (k := pl i k) (by unfold pl; split <;> omega) a b (fun r => u (r + 1)) fun r => v (r + 1)]
      generalize det m (upd (minor c i) (pl i k) fun r => u (r + 1)) = x
      generalize det m (upd (minor c i) (pl i k) fun r => v (r + 1)) = y
      generalize c i 0 = z
      rw [Int.mul_add, Int.mul_add, Int.mul_left_comm z a, Int.mul_left_comm z b, Int.mul_left_comm (sgn i) a, Int.mul_left_comm (sgn i) b]
theorem det_adj : ∀ {m : Nat} {c : Mat} {k : Nat} (_ : k + 1 < m), c k = c (k + 1) → det m c = 0
  | 0, _, _, h, _ => by omega
  | m + 1, c, k, hk, he => by
    unfold det
    rw [sumN_two (k := k) (l := k + 1) (by omega) hk (by omega) fun i hi h1 h2 => ?_]
    · have e : minor c k = minor c (k + 1) := by
        funext j r
        unfold minor skip
        by_cases h1 : j < k
        · rw [if_pos h1, if_pos (by omega)]
        · rw [if_neg h1]
          by_cases h2 : j = k
          · subst h2; rw [if_pos (by omega), he]
          · rw [if_neg (by omega)]
      rw [← e, ← he, sgn_succ, Int.neg_mul, Int.add_right_neg]
    · rw [det_adj (m := m) (c := minor c i) (k := pl i k) (by unfold pl; split <;> omega) ?_, Int.mul_zero, Int.mul_zero]
      funext r
      unfold minor pl skip
      by_cases h3 : k < i
      · rw [if_pos h3, if_pos h3, if_pos (by omega), he]
      · rw [if_neg h3, if_neg (by omega), if_neg (by omega)]
        have : k - 1 + 1 = k := by omega
        rw [this, he]
theorem upd2 {m : Nat} {c : Mat} {k l : Nat} (hk : k < m) (hl : l < m) (hkl : k ≠ l) (hz : ∀ w : Col, det m (upd (upd c k w) l w) = 0) (u v : Col) : det m (upd (upd c k u) l v) = - det m (upd (upd c k v) l u) := by
  have h := hz fun r => 1 * u r + 1 * v r
  rw [det_lin hl, upd_comm c hkl, upd_comm c hkl, det_lin hk, det_lin hk, ← upd_comm c hkl, ← upd_comm c hkl, ← upd_comm c hkl, ← upd_comm c hkl, hz u, hz v] at h
  omega
theorem det_eq : ∀ (d : Nat) {m : Nat} {c : Mat} {k l : Nat} (_ : l = k + d + 1) (_ : l < m), c k = c l → det m c = 0
  | 0, m, c, k, l, hl, hm, he => by subst hl; exact det_adj hm he
  | d + 1, m, c, k, l, hl, hm, he => by
    have hz : ∀ w : Col, det m (upd (upd c (l - 1) w) l w) = 0 := fun w => det_adj (k := l - 1) (by omega) (by
      rw [show l - 1 + 1 = l by omega, upd_self, upd_ne (by omega), upd_self])
    have h := upd2 (c := c) (k := l - 1) (l := l) (by omega) hm (by omega) hz (c (l - 1)) (c l)
    rw [upd_same, upd_same] at h
    rw [h, det_eq d (k := k) (l := l - 1) (by omega) (by omega) ?_]
    · rfl
    · rw [upd_ne (by omega), upd_ne (by omega), upd_ne (by omega), upd_self, he]
/-- two equal columns -/
theorem det_alt {m : Nat} {c : Mat} {k l : Nat} (hk : k < m) (hl : l < m) (hkl : k ≠ l) (he : c k = c l) : det m c = 0 := by
  rcases Nat.lt_or_gt_of_ne hkl with h | h
  · exact det_eq (l - k - 1) (by omega) hl he
  · exact det_eq (k - l - 1) (by omega) hk he.symm
/-- two columns change places -/
theorem det_swap {m : Nat} {c : Mat} {k l : Nat} (hk : k < m) (hl : l < m) (hkl : k ≠ l) (u v : Col) : det m (upd (upd c k u) l v) = - det m (upd (upd c k v) l u) :=
  upd2 hk hl hkl (fun w => det_alt hk hl hkl (by rw [upd_self, upd_ne hkl, upd_self])) u v
theorem det_zero {m : Nat} {c : Mat} {k : Nat} (hk : k < m) : det m (upd c k fun _ => 0) = 0 := by
  have := det_lin (m := m) (c := c) hk 0 0 (fun _ => 0) fun _ => 0
  simpa using this
/-- a column that is a sum -/
theorem det_sum {m : Nat} {c : Mat} {k : Nat} (hk : k < m) (n : Nat) (a : Nat → Int) (v : Nat → Col) : det m (upd c k fun r => sumN n fun i => a i * v i r) = sumN n fun i => a i * det m (upd c k (v i)) := by
  induction n with
  | zero => exact det_zero hk
  | succ n ih =>
    have e : (fun r => sumN (n + 1) fun i => a i * v i r) = fun r => 1 * (sumN n fun i => a i * v i r) + a n * v n r := by
      funext r
      rw [Int.one_mul]
      rfl
    rw [e, det_lin hk, ih, Int.one_mul]
    rfl
theorem det_mulc {m : Nat} {c : Mat} {k : Nat} (hk : k < m) (a : Int) (v : Col) : det m (upd c k fun r => a * v r) = a * det m (upd c k v) := by
  have := det_lin (m := m) (c := c) hk a 0 v fun _ => 0
  simpa using this
/-- the unit columns -/
def unit (k : Nat) : Col := fun r => if r = k then 1 else 0
theorem det_one : ∀ m : Nat, det m unit = 1
  | 0 => rfl
  | m + 1 => by
    unfold det
    rw [sumN_one (k := 0) (by omega) fun i hi hne => by
      have : unit i 0 = 0 := if_neg (by omega)
      rw [this, Int.zero_mul, Int.mul_zero]]
    have e : det m (minor unit 0) = det m unit := det_congr fun i hi r hr => by
      show unit (skip 0 i) (r + 1) = unit i r
      have e : skip 0 i = i + 1 := by unfold skip; rw [if_neg (by omega)]
      rw [e]
      unfold unit
      by_cases h : r = i
      · rw [if_pos h, if_pos (by omega)]
      · rw [if_neg h, if_neg (by omega)]
    rw [e, det_one m]
    rfl
end Qw.Det

set_option Elab.async false
set_option linter.all false
set_option maxRecDepth 100000
/-! The integer tableau: what a pivot keeps. By an AI agent. -/
namespace Qw.Det
/-- m rows; the columns A j; the basis b; the scale s; the entries T i j -/
structure St where
  b : Nat → Nat
  s : Int
  T : Nat → Nat → Int
def bas (A : Nat → Col) (S : St) : Mat := fun i => A (S.b i)
structure Inv (m N : Nat) (A : Nat → Col) (S : St) : Prop where
  pos : 0 < S.s
  bn : ∀ i, i < m → S.b i < N
  lin : ∀ j, j < N → ∀ r, r < m → S.s * A j r = sumN m fun i => S.T i j * A (S.b i) r
  dt : det m (bas A S) = S.s
section
variable {m N : Nat} {A : Nat → Col} {S : St}
theorem sumN_mulr (n : Nat) (f : Nat → Int) (a : Int) : sumN n (fun i => f i * a) = sumN n f * a := by
  rw [Int.mul_comm, ← sumN_mul]
  exact sumN_congr fun i _ => Int.mul_comm _ _
/-- s times a determinant with column j in slot i of any matrix -/
theorem Inv.put (I : Inv m N A S) (c : Mat) {i j : Nat} (hi : i < m) (hj : j < N) : S.s * det m (upd c i (A j)) = sumN m fun k => S.T k j * det m (upd c i (A (S.b k))) := by
  rw [← det_mulc hi, ← det_sum hi m (fun k => S.T k j) fun k => A (S.b k)]
  refine det_congr fun l hl r hr => ?_
  by_cases h : l = i
  · subst h
    rw [upd_self, upd_self]
    exact I.lin j hj r hr
  · rw [upd_ne h, upd_ne h]
theorem mul_cancel {s a b : Int} (hs : 0 < s) (h : s * a = s * b) : a = b := Int.eq_of_mul_eq_mul_left (by omega) h
/-- an entry is a determinant -/
theorem Inv.ent (I : Inv m N A S) {i j : Nat} (hi : i < m) (hj : j < N) : S.T i j = det m (upd (bas A S) i (A j)) := by
  refine mul_cancel I.pos ?_
  rw [I.put (bas A S) hi hj, sumN_one hi fun k hk hne => by
    rw [det_alt hi hk (fun e => hne e.symm) (by rw [upd_self, upd_ne hne]; rfl), Int.mul_zero]]
  have : upd (bas A S) i (A (S.b i)) = bas A S := upd_same (bas A S) i
  rw [this, I.dt, Int.mul_comm]
/-- the unit vectors of the tableau: basic columns -/
theorem Inv.basic (I : Inv m N A S) {i k : Nat} (hi : i < m) (hk : k < m) : S.T i (S.b k) = if i = k then S.s else 0 := by
  rw [I.ent hi (I.bn k hk)]
  by_cases h : i = k
  · subst h
    rw [if_pos rfl, show upd (bas A S) i (A (S.b i)) = bas A S from upd_same (bas A S) i, I.dt]
  · rw [if_neg h, det_alt hi hk h (by rw [upd_self, upd_ne (fun e => h e.symm)]; rfl)]
/-- two columns at once -/
theorem Inv.two (I : Inv m N A S) {i r j c : Nat} (hi : i < m) (hr : r < m) (hir : i ≠ r) (hj : j < N) (hc : c < N) :
    S.s * det m (upd (upd (bas A S) r (A c)) i (A j)) = S.T i j * S.T r c - S.T i c * S.T r j := by
  rw [I.put _ hi hj, sumN_two hi hr hir fun k hk h1 h2 => by
    rw [det_alt hi hk (fun e => h1 e.symm) (by rw [upd_self, upd_ne h1, upd_ne h2]; rfl), Int.mul_zero]]
  have e1 : upd (upd (bas A S) r (A c)) i (A (S.b i)) = upd (bas A S) r (A c) := by
    rw [upd_comm _ (fun e => hir e.symm)]
    rw [show upd (bas A S) i (A (S.b i)) = bas A S from upd_same (bas A S) i]
  have e2 : det m (upd (upd (bas A S) r (A c)) i (A (S.b r))) = - S.T i c := by
    rw [det_swap hr hi (fun e => hir e.symm), show upd (bas A S) r (A (S.b r)) = bas A S from upd_same (bas A S) r, ← I.ent hi hc]
  rw [e1, e2, ← I.ent hr hc]
  rw [Int.mul_neg, Int.mul_comm (S.T r j)]
  omega
/-- the state behind a pivot -/
def piv (S : St) (r c : Nat) : St where
  b := fun i => if i = r then c else S.b i
  s := S.T r c
  T := fun i j => if i = r then S.T r j else (S.T i j * S.T r c - S.T r j * S.T i c) / S.s
theorem Inv.div (I : Inv m N A S) {i r j c : Nat} (hi : i < m) (hr : r < m) (hir : i ≠ r) (hj : j < N) (hc : c < N) : S.s * (piv S r c).T i j = S.T i j * S.T r c - S.T i c * S.T r j := by
  have h := I.two hi hr hir hj hc
  show S.s * (if i = r then S.T r j else (S.T i j * S.T r c - S.T r j * S.T i c) / S.s) = _
  rw [if_neg hir, Int.mul_comm (S.T r j), ← h, Int.mul_ediv_cancel_left _ (by have := I.pos; omega)]
theorem piv_bas {r c : Nat} : bas A (piv S r c) = upd (bas A S) r (A c) := by
  funext i
  show A (if i = r then c else S.b i) = if i = r then A c else A (S.b i)
  by_cases h : i = r
  · rw [if_pos h, if_pos h]
  · rw [if_neg h, if_neg h]
theorem sumN_split {n r : Nat} (hr : r < n) (f : Nat → Int) : sumN n f = f r + sumN n (fun i => if i = r then 0 else f i) := by
  have e : sumN n f = sumN n (fun i => (if i = r then f i else 0) + (if i = r then 0 else f i)) := sumN_congr fun i _ => by
    by_cases h : i = r
    · rw [if_pos h, if_pos h]; omega
    · rw [if_neg h, if_neg h]; omega
  rw [e, sumN_add, sumN_one hr fun i _ hne => if_neg hne, if_pos rfl]
/-- a pivot keeps the tableau -/
theorem Inv.piv (I : Inv m N A S) {r c : Nat} (hr : r < m) (hc : c < N) (hp : 0 < S.T r c) : Inv m N A (piv S r c) := by
  refine ⟨hp, fun i hi => ?_, fun j hj q hq => ?_, ?_⟩
  · show (if i = r then c else S.b i) < N
    split
    · exact hc
    · exact I.bn i hi
  · refine mul_cancel I.pos ?_
    show S.s * (S.T r c * A j q) = S.s * sumN m fun i => (Det.piv S r c).T i j * A (if i = r then c else S.b i) q
    rw [sumN_split hr, if_pos rfl, show (Det.piv S r c).T r j = S.T r j from if_pos rfl, Int.mul_add, ← sumN_mul]
    have e1 : sumN m (fun i => S.s * (if i = r then 0 else (Det.piv S r c).T i j * A (if i = r then c else S.b i) q)) = sumN m fun i => S.T r c * (if i = r then 0 else S.T i j * A (S.b i) q) + (- S.T r j) * (if i = r then 0 else S.T i c * A (S.b i) q) := sumN_congr fun i hi => by
      by_cases h : i = r
      · rw [if_pos h, if_pos h, if_pos h]; simp
      · rw [if_neg h, if_neg h, if_neg h, if_neg h, ← Int.mul_assoc, I.div hi hr h hj hc]
        generalize A (S.b i) q = x
        generalize S.T i j = t1
        generalize S.T i c = t2
        generalize S.T r c = t3
        generalize S.T r j = t4
        rw [Int.sub_mul, Int.neg_mul, Int.sub_eq_add_neg, Int.mul_comm t1 t3, Int.mul_assoc, Int.mul_comm t2 t4, Int.mul_assoc]
    rw [e1, sumN_add, sumN_mul, sumN_mul]
    have l1 := I.lin j hj q hq
    have l2 := I.lin c hc q hq
    rw [sumN_split hr] at l1 l2
    revert l1 l2
    generalize sumN m (fun i => if i = r then 0 else S.T i j * A (S.b i) q) = x
    generalize sumN m (fun i => if i = r then 0 else S.T i c * A (S.b i) q) = y
    generalize A (S.b r) q = w
    generalize A j q = aj
    generalize A c q = ac
    generalize S.T r c = p
    generalize S.T r j = t
    generalize S.s = s
    intro l1 l2
    -- s aj = t w + x, s ac = p w + y
    have h1 : p * (s * aj) = p * (t * w + x) := by rw [l1]
    have h2 : t * (s * ac) = t * (p * w + y) := by rw [l2]
    rw [Int.mul_left_comm s p, h1, Int.mul_left_comm s t, h2, Int.mul_add, Int.mul_add, Int.mul_left_comm p t, Int.neg_mul]
    omega
  · rw [piv_bas, ← I.ent hr hc]
    rfl
end
end Qw.Det

set_option Elab.async false
set_option linter.all false
set_option maxRecDepth 100000
/-! The last row of the tableau. By an AI agent. -/
namespace Qw.Det
section
variable {m N : Nat} {A : Nat → Col} {S S' : St} {g : Nat → Int}
/-- the last row: g is 1 at the artificial columns, 0 elsewhere -/
def zr (m : Nat) (g : Nat → Int) (S : St) (j : Nat) : Int := (sumN m fun i => g (S.b i) * S.T i j) - g j * S.s
theorem z_piv (I : Inv m N A S) {r c j : Nat} (hr : r < m) (hc : c < N) (hj : j < N) (hg : g c = 0) : S.s * zr m g (piv S r c) j = zr m g S j * S.T r c - zr m g S c * S.T r j := by
  unfold zr
  have e1 : S.s * (sumN m fun i => g ((piv S r c).b i) * (piv S r c).T i j) = S.T r c * (sumN m fun i => if i = r then 0 else g (S.b i) * S.T i j) + (- S.T r j) * (sumN m fun i => if i = r then 0 else g (S.b i) * S.T i c) := by
    rw [← sumN_mul, ← sumN_mul, ← sumN_mul, ← sumN_add]
    refine sumN_congr fun i hi => ?_
    by_cases h : i = r
    · subst h
      rw [show (piv S i c).b i = c from if_pos rfl, hg, if_pos rfl, if_pos rfl]
      simp
    · rw [show (piv S r c).b i = S.b i from if_neg h, if_neg h, if_neg h, Int.mul_left_comm, I.div hi hr h hj hc]
      generalize g (S.b i) = x
      generalize S.T i j = t1
      generalize S.T i c = t2
      generalize S.T r c = t3
      generalize S.T r j = t4
      rw [Int.mul_sub, Int.neg_mul, Int.mul_comm t1 t3, Int.mul_left_comm x t3, Int.mul_comm t2 t4, Int.mul_left_comm x t4]
      omega
  rw [Int.mul_sub, e1, hg, Int.zero_mul, Int.sub_zero, sumN_split hr (fun i => g (S.b i) * S.T i j), sumN_split hr (fun i => g (S.b i) * S.T i c)]
  show _ - S.s * (g j * S.T r c) = _
  generalize sumN m (fun i => if i = r then 0 else g (S.b i) * S.T i j) = x
  generalize sumN m (fun i => if i = r then 0 else g (S.b i) * S.T i c) = y
  generalize S.T r c = p
  generalize S.T r j = t
  generalize g (S.b r) = gr
  generalize g j = gj
  generalize S.s = s
  rw [Int.sub_mul, Int.add_mul, Int.add_mul, Int.mul_comm x p, Int.mul_comm y t, Int.mul_assoc gr t p, Int.mul_assoc gr p t, Int.mul_comm t p, Int.neg_mul, Int.mul_left_comm s gj p, Int.mul_assoc gj s p]
  omega
/-- every entry by the entries at the unit columns -/
theorem Inv.units (I : Inv m N A S) {n : Nat} (hu : ∀ k, k < m → n + k < N ∧ ∀ r, r < m → A (n + k) r = unit k r) {i j : Nat} (hi : i < m) (hj : j < N) : S.T i j = sumN m fun k => A j k * S.T i (n + k) := by
  rw [I.ent hi hj]
  have e : det m (upd (bas A S) i (A j)) = det m (upd (bas A S) i fun r => sumN m fun k => A j k * unit k r) := det_congr fun l hl r hr => by
    by_cases h : l = i
    · subst h
      rw [upd_self, upd_self, sumN_one hr fun k hk hne => by
        have : unit k r = 0 := if_neg fun e => hne e.symm
        rw [this, Int.mul_zero]]
      rw [show unit r r = 1 from if_pos rfl, Int.mul_one]
    · rw [upd_ne h, upd_ne h]
  rw [e, det_sum hi m (fun k => A j k) fun k => unit k]
  refine sumN_congr fun k hk => ?_
  rw [I.ent hi (hu k hk).1]
  congr 1
  refine det_congr fun l hl r hr => ?_
  by_cases h : l = i
  · subst h
    rw [upd_self, upd_self]
    exact ((hu k hk).2 r hr).symm
  · rw [upd_ne h, upd_ne h]
theorem sumN_swap (n k : Nat) (f : Nat → Nat → Int) : sumN n (fun i => sumN k fun j => f i j) = sumN k fun j => sumN n fun i => f i j := by
  induction n with
  | zero => exact (sumN_zero fun _ _ => rfl).symm
  | succ n ih =>
    have e : sumN k (fun j => sumN (n + 1) fun i => f i j) = sumN k fun j => (sumN n fun i => f i j) + f n j := rfl
    rw [e, sumN_add, ← ih]
    rfl
/-- the multipliers: the last row is a combination of the equations -/
def mult (m n : Nat) (g : Nat → Int) (S : St) (k : Nat) : Int := sumN m fun i => g (S.b i) * S.T i (n + k)
theorem z_mult (I : Inv m N A S) {n : Nat} (hu : ∀ k, k < m → n + k < N ∧ ∀ r, r < m → A (n + k) r = unit k r) {j : Nat} (hj : j < N) : zr m g S j + g j * S.s = sumN m fun k => mult m n g S k * A j k := by
  unfold zr mult
  rw [Int.sub_add_cancel]
  have e : ∀ k, (sumN m fun i => g (S.b i) * S.T i (n + k)) * A j k = sumN m fun i => g (S.b i) * (A j k * S.T i (n + k)) := fun k => by
    rw [← sumN_mulr]
    refine sumN_congr fun i _ => ?_
    rw [Int.mul_assoc, Int.mul_comm (S.T i (n + k))]
  rw [sumN_congr (f := fun k => (sumN m fun i => g (S.b i) * S.T i (n + k)) * A j k) (g := fun k => sumN m fun i => g (S.b i) * (A j k * S.T i (n + k))) fun k _ => e k, sumN_swap]
  refine sumN_congr fun i hi => ?_
  rw [sumN_mul, ← I.units hu hi hj]
/-- the last rows of two bases -/
theorem z_two (I : Inv m N A S) (I' : Inv m N A S') {n : Nat} (hu : ∀ k, k < m → n + k < N ∧ ∀ r, r < m → A (n + k) r = unit k r) {c : Nat} (hc : c < N) (hg : g c = 0) : S.s * zr m g S' c = (sumN m fun i => S.T i c * zr m g S' (S.b i)) + S'.s * zr m g S c := by
  have h1 := z_mult (g := g) I' hu hc
  have h2 : S.s * (sumN m fun k => mult m n g S' k * A c k) = sumN m fun i => S.T i c * (sumN m fun k => mult m n g S' k * A (S.b i) k) := by
    rw [← sumN_mul]
    have : ∀ i, S.T i c * (sumN m fun k => mult m n g S' k * A (S.b i) k) = sumN m fun k => mult m n g S' k * (S.T i c * A (S.b i) k) := fun i => by
      rw [← sumN_mul]
      exact sumN_congr fun k _ => Int.mul_left_comm _ _ _
    rw [sumN_congr (f := fun i => S.T i c * (sumN m fun k => mult m n g S' k * A (S.b i) k)) (g := fun i => sumN m fun k => mult m n g S' k * (S.T i c * A (S.b i) k)) fun i _ => this i, sumN_swap]
    refine sumN_congr fun k hk => ?_
    rw [sumN_mul, ← I.lin c hc k hk, Int.mul_left_comm]
  rw [← h1, hg, Int.zero_mul, Int.add_zero] at h2
  rw [h2]
  have h3 : (sumN m fun i => S.T i c * (sumN m fun k => mult m n g S' k * A (S.b i) k)) = sumN m fun i => S.T i c * zr m g S' (S.b i) + S'.s * (g (S.b i) * S.T i c) := sumN_congr fun i hi => by
    rw [← z_mult (g := g) I' hu (I.bn i hi), Int.mul_add]
    congr 1
    rw [Int.mul_comm (g (S.b i)), Int.mul_left_comm, Int.mul_comm (S.T i c)]
  rw [h3, sumN_add, sumN_mul]
  congr 1
  unfold zr
  rw [hg, Int.zero_mul, Int.sub_zero]
end
end Qw.Det

set_option Elab.async false
set_option linter.all false
set_option maxRecDepth 100000
/-! Bland's rule does not cycle. By an AI agent. -/
namespace Qw.Det
section
variable {m N : Nat} {A : Nat → Col} {S S' : St} {g : Nat → Int}
theorem same_s (I : Inv m N A S) (I' : Inv m N A S') (h : ∀ i, i < m → S.b i = S'.b i) : S.s = S'.s := by
  rw [← I.dt, ← I'.dt]
  exact det_congr fun i hi r _ => by show A (S.b i) r = A (S'.b i) r; rw [h i hi]
theorem same_T (I : Inv m N A S) (I' : Inv m N A S') (h : ∀ i, i < m → S.b i = S'.b i) {i j : Nat} (hi : i < m) (hj : j < N) : S.T i j = S'.T i j := by
  rw [I.ent hi hj, I'.ent hi hj]
  exact det_congr fun l hl r _ => by
    by_cases e : l = i
    · subst e; rw [upd_self, upd_self]
    · rw [upd_ne e, upd_ne e]; show A (S.b l) r = A (S'.b l) r; rw [h l hl]
theorem same_z (I : Inv m N A S) (I' : Inv m N A S') (h : ∀ i, i < m → S.b i = S'.b i) {j : Nat} (hj : j < N) : zr m g S j = zr m g S' j := by
  unfold zr
  rw [same_s I I' h, sumN_congr fun i hi => by rw [h i hi, same_T I I' h hi hj]]
theorem b_inj (I : Inv m N A S) {i k : Nat} (hi : i < m) (hk : k < m) (h : S.b i = S.b k) : i = k := by
  by_cases e : i = k
  · exact e
  · have h1 := I.basic hi hk
    have h2 := I.basic hi hi
    rw [if_neg e] at h1
    rw [if_pos rfl, h, h1] at h2
    have := I.pos
    omega
/-- the last row is zero at basic columns -/
theorem z_basic (I : Inv m N A S) {k : Nat} (hk : k < m) : zr m g S (S.b k) = 0 := by
  unfold zr
  rw [sumN_one hk fun i hi hne => by rw [I.basic hi hk, if_neg hne, Int.mul_zero], I.basic hk hk, if_pos rfl, Int.sub_self]
theorem neg_term {n : Nat} {f : Nat → Int} (h : sumN n f < 0) : ∃ i, i < n ∧ f i < 0 := by
  induction n with
  | zero => exact absurd h (by show ¬ (0 : Int) < 0; omega)
  | succ n ih =>
    by_cases e : f n < 0
    · exact ⟨n, by omega, e⟩
    · have h : sumN n f + f n < 0 := h
      obtain ⟨i, hi, hf⟩ := ih (by omega)
      exact ⟨i, by omega, hf⟩
end
structure Run (m n : Nat) (A : Nat → Col) (g : Nat → Int) (σ : Nat → St) (r c : Nat → Nat) : Prop where
  inv : ∀ k, Inv m (n + m + 1) A (σ k)
  hu : ∀ k, k < m → n + k < n + m + 1 ∧ ∀ q, q < m → A (n + k) q = unit k q
  g0 : ∀ j, j < n → g j = 0
  gR : g (n + m) = 0
  bR : ∀ k i, i < m → (σ k).b i < n + m
  rm : ∀ k, r k < m
  cn : ∀ k, c k < n
  ent : ∀ k, 0 < zr m g (σ k) (c k)
  low : ∀ k j, j < c k → zr m g (σ k) j ≤ 0
  pv : ∀ k, 0 < (σ k).T (r k) (c k)
  rat : ∀ k i, i < m → 0 < (σ k).T i (c k) → (σ k).T (r k) (n + m) * (σ k).T i (c k) = (σ k).T i (n + m) * (σ k).T (r k) (c k) → (σ k).b (r k) ≤ (σ k).b i
  rhs : ∀ k i, i < m → 0 ≤ (σ k).T i (n + m)
  nx : ∀ k, σ (k + 1) = piv (σ k) (r k) (c k)
section
variable {m n : Nat} {A : Nat → Col} {g : Nat → Int} {σ : Nat → St} {r c : Nat → Nat}
def basicIn (m : Nat) (S : St) (v : Nat) : Prop := ∃ i, i < m ∧ S.b i = v
theorem Run.b_next (H : Run m n A g σ r c) (k i : Nat) : (σ (k + 1)).b i = if i = r k then c k else (σ k).b i := by rw [H.nx]; rfl
/-- what enters was not basic -/
theorem Run.fresh (H : Run m n A g σ r c) (k : Nat) : ¬ basicIn m (σ k) (c k) := fun ⟨i, hi, e⟩ => by
  have := z_basic (g := g) (H.inv k) hi
  rw [e] at this
  have := H.ent k
  omega
/-- a variable that becomes basic enters -/
theorem Run.enters (H : Run m n A g σ r c) {k v : Nat} (h1 : ¬ basicIn m (σ k) v) (h2 : basicIn m (σ (k + 1)) v) : c k = v := by
  obtain ⟨i, hi, e⟩ := h2
  rw [H.b_next] at e
  by_cases h : i = r k
  · rw [if_pos h] at e; exact e
  · rw [if_neg h] at e; exact absurd ⟨i, hi, e⟩ h1
/-- a variable that is no longer basic leaves -/
theorem Run.leaves (H : Run m n A g σ r c) {k v : Nat} (h1 : basicIn m (σ k) v) (h2 : ¬ basicIn m (σ (k + 1)) v) : (σ k).b (r k) = v := by
  obtain ⟨i, hi, e⟩ := h1
  by_cases h : i = r k
  · rw [← h]; exact e
  · exact absurd ⟨i, hi, by rw [H.b_next, if_neg h]; exact e⟩ h2
/-- between a time at which it is not basic and one at which it is, a variable enters -/
theorem Run.between (H : Run m n A g σ r c) {v a : Nat} (h1 : ¬ basicIn m (σ a) v) : ∀ d, basicIn m (σ (a + d)) v → ∃ k, a ≤ k ∧ k < a + d ∧ c k = v
  | 0, h => absurd h h1
  | d + 1, h => by
    by_cases e : basicIn m (σ (a + d)) v
    · obtain ⟨k, k1, k2, k3⟩ := H.between h1 d e
      exact ⟨k, k1, by omega, k3⟩
    · exact ⟨a + d, by omega, by omega, H.enters e h⟩
theorem Run.betweenL (H : Run m n A g σ r c) {v a : Nat} (h1 : basicIn m (σ a) v) : ∀ d, ¬ basicIn m (σ (a + d)) v → ∃ k, a ≤ k ∧ k < a + d ∧ basicIn m (σ k) v ∧ (σ k).b (r k) = v
  | 0, h => absurd h1 h
  | d + 1, h => by
    by_cases e : basicIn m (σ (a + d)) v
    · exact ⟨a + d, by omega, by omega, e, H.leaves e h⟩
    · obtain ⟨k, k1, k2, k3⟩ := H.betweenL h1 d e
      exact ⟨k, k1, by omega, k3⟩
/-- the objective falls -/
theorem Run.fall (H : Run m n A g σ r c) (k : Nat) : (σ k).s * zr m g (σ (k + 1)) (n + m) = zr m g (σ k) (n + m) * (σ (k + 1)).s - zr m g (σ k) (c k) * (σ k).T (r k) (n + m) := by
  have := z_piv (g := g) (H.inv k) (H.rm k) (show c k < n + m + 1 by have := H.cn k; omega) (show n + m < n + m + 1 by omega) (H.g0 _ (H.cn k))
  rw [H.nx]
  exact this
theorem fr_tr {a b c d e f : Int} (hb : 0 < b) (hd : 0 < d) (hf : 0 < f) (h1 : c * b ≤ a * d) (h2 : e * d ≤ c * f) : e * b ≤ a * f := by
  -- e d b <= c f b = c b f <= a d f
  have h3 : e * d * b ≤ c * f * b := Int.mul_le_mul_of_nonneg_right h2 (by omega)
  have h4 : c * b * f ≤ a * d * f := Int.mul_le_mul_of_nonneg_right h1 (by omega)
  have h5 : e * b * d ≤ a * f * d := by
    rw [Int.mul_right_comm e b d, Int.mul_right_comm a f d]
    rw [Int.mul_right_comm c f b] at h3
    omega
  exact Int.le_of_mul_le_mul_right h5 hd
theorem Run.falls (H : Run m n A g σ r c) (k : Nat) : ∀ d, zr m g (σ (k + d)) (n + m) * (σ k).s ≤ zr m g (σ k) (n + m) * (σ (k + d)).s
  | 0 => Int.le_refl _
  | d + 1 => by
    have ih := H.falls k d
    have h := H.fall (k + d)
    have p1 := H.ent (k + d)
    have p2 := H.rhs (k + d) (r (k + d)) (H.rm _)
    have p3 : 0 ≤ zr m g (σ (k + d)) (c (k + d)) * (σ (k + d)).T (r (k + d)) (n + m) := Int.mul_nonneg (by omega) p2
    refine fr_tr (H.inv k).pos (H.inv (k + d)).pos (H.inv (k + (d + 1))).pos ih ?_
    show zr m g (σ (k + d + 1)) (n + m) * (σ (k + d)).s ≤ zr m g (σ (k + d)) (n + m) * (σ (k + d + 1)).s
    rw [Int.mul_comm]
    omega
theorem Run.no_period (H : Run m n A g σ r c) {L : Nat} (hL : 0 < L) (per : ∀ k i, i < m → (σ (k + L)).b i = (σ k).b i) : False := by
  -- the pivots are degenerate
  have deg : ∀ k, (σ k).T (r k) (n + m) = 0 := fun k => by
    have h1 := H.falls (k + 1) (L - 1)
    rw [show k + 1 + (L - 1) = k + L by omega, same_z (g := g) (H.inv (k + L)) (H.inv k) (per k) (by omega), same_s (H.inv (k + L)) (H.inv k) (per k)] at h1
    have h2 := H.fall k
    have p1 := H.ent k
    have p2 := H.rhs k (r k) (H.rm _)
    have h3 : zr m g (σ k) (c k) * (σ k).T (r k) (n + m) ≤ 0 := by
      rw [Int.mul_comm (zr m g (σ (k + 1)) (n + m))] at h1
      omega
    rcases Int.lt_or_eq_of_le p2 with z | z
    · have := Int.mul_pos p1 z
      omega
    · exact z.symm
  -- variables that are once not basic have value 0 afterwards
  have zero : ∀ v a, ¬ basicIn m (σ a) v → ∀ d i, i < m → (σ (a + d)).b i = v → (σ (a + d)).T i (n + m) = 0 := fun v a hv d => by
    induction d with
    | zero => exact fun i hi e => absurd ⟨i, hi, e⟩ hv
    | succ d ih =>
      intro i hi e
      have e : (σ (a + d + 1)).b i = v := e
      show (σ (a + d + 1)).T i (n + m) = 0
      rw [H.b_next] at e
      rw [H.nx]
      by_cases h : i = r (a + d)
      · subst h
        show (if r (a + d) = r (a + d) then _ else _) = _
        rw [if_pos rfl]
        exact deg _
      · rw [if_neg h] at e
        have h1 := (H.inv (a + d)).div hi (H.rm (a + d)) h (show n + m < n + m + 1 by omega) (show c (a + d) < n + m + 1 by have := H.cn (a + d); omega)
        rw [ih i hi e, deg, Int.zero_mul, Int.mul_zero, Int.sub_zero] at h1
        have := (H.inv (a + d)).pos
        exact (Int.mul_eq_zero.mp h1).resolve_left (by omega)
  -- artificial variables that are not basic stay so
  have stay : ∀ v a, n ≤ v → ¬ basicIn m (σ a) v → ∀ d, ¬ basicIn m (σ (a + d)) v := fun v a hv ha d hb => by
    obtain ⟨k, _, _, e⟩ := H.between ha d hb
    have := H.cn k
    omega
  -- the largest variable that enters
  obtain ⟨ks, hmax⟩ : ∃ ks, ∀ k, c k ≤ c ks := by
    have : ∀ d, (∃ k, n ≤ c k + d) → ∃ ks, ∀ k, c k ≤ c ks := fun d => by
      induction d with
      | zero =>
        rintro ⟨k, hk⟩
        have := H.cn k
        omega
      | succ d ih =>
        rintro ⟨k, hk⟩
        by_cases h : ∃ k, n ≤ c k + d
        · exact ih h
        · refine ⟨k, fun k' => ?_⟩
          have : ¬ n ≤ c k' + d := fun z => h ⟨k', z⟩
          omega
    exact this n ⟨0, by omega⟩
  -- it leaves again
  have f0 := H.fresh ks
  have f1 : basicIn m (σ (ks + 1)) (c ks) := ⟨r ks, H.rm ks, by rw [H.b_next, if_pos rfl]⟩
  have f2 : ¬ basicIn m (σ (ks + 1 + (L - 1))) (c ks) := fun ⟨i, hi, e⟩ => f0 ⟨i, hi, by rw [← per ks i hi, show ks + L = ks + 1 + (L - 1) by omega]; exact e⟩
  obtain ⟨k, k1, k2, kb, kl⟩ := H.betweenL f1 (L - 1) f2
  obtain ⟨d, hd⟩ : ∃ d, k = ks + d := ⟨k - ks, by omega⟩
  have hne : c k ≠ c ks := fun e => H.fresh k (by rw [e]; exact kb)
  have hlt : c k < c ks := by have := hmax k; omega
  have hz := z_two (g := g) (H.inv k) (H.inv ks) (n := n) H.hu (c := c k) (show c k < n + m + 1 by have := H.cn k; omega) (H.g0 _ (H.cn k))
  have z1 := H.low ks (c k) hlt
  have z2 := H.ent k
  have p1 := (H.inv k).pos
  have p2 := (H.inv ks).pos
  have q1 : (σ k).s * zr m g (σ ks) (c k) ≤ 0 := Int.mul_nonpos_of_nonneg_of_nonpos (by omega) z1
  have q2 : 0 < (σ ks).s * zr m g (σ k) (c k) := Int.mul_pos p2 z2
  obtain ⟨i, hi, hneg⟩ := neg_term (n := m) (f := fun i => (σ k).T i (c k) * zr m g (σ ks) ((σ k).b i)) (by omega)
  have nb : ¬ basicIn m (σ ks) ((σ k).b i) := fun ⟨l, hl, e⟩ => by
    have := z_basic (g := g) (H.inv ks) hl
    rw [e] at this
    rw [this, Int.mul_zero] at hneg
    omega
  have bi : basicIn m (σ k) ((σ k).b i) := ⟨i, hi, rfl⟩
  have struct : (σ k).b i < n := by
    rcases Nat.lt_or_ge ((σ k).b i) n with z | z
    · exact z
    · exact absurd (by rw [hd] at bi ⊢; exact bi) (stay _ ks z nb d)
  obtain ⟨ke, _, _, e3⟩ := H.between nb d (by rw [← hd]; exact bi)
  have le := hmax ke
  rw [e3] at le
  have hval : (σ k).T i (n + m) = 0 := by
    have := zero _ ks nb d i hi (by rw [← hd])
    rw [← hd] at this
    exact this
  have hnt : (σ k).b i ≠ c ks := fun e => by
    have e4 : i = r k := b_inj (H.inv k) hi (H.rm k) (by rw [e, kl])
    subst e4
    have := Int.mul_pos (H.pv k) (show 0 < zr m g (σ ks) ((σ k).b (r k)) by rw [kl]; exact H.ent ks)
    omega
  have zi := H.low ks ((σ k).b i) (by omega)
  have tp : 0 < (σ k).T i (c k) := by
    rcases Int.lt_or_le 0 ((σ k).T i (c k)) with z | z
    · exact z
    · have := Int.mul_nonneg_of_nonpos_of_nonpos z zi
      omega
  have := H.rat k i hi tp (by rw [deg k, hval, Int.zero_mul, Int.zero_mul])
  rw [kl] at this
  omega
end
end Qw.Det

set_option Elab.async false
set_option linter.all false
set_option maxRecDepth 100000
/-! The method ends, within the number of bases. By an AI agent. -/
namespace Qw.Det
theorem nodup_len {α : Type} [DecidableEq α] : ∀ {a b : List α}, a.Nodup → (∀ x ∈ a, x ∈ b) → a.length ≤ b.length
  | [], b, _, _ => Nat.zero_le _
  | x :: a, b, h, hs => by
    obtain ⟨h1, h2⟩ := List.nodup_cons.mp h
    have hx := hs x List.mem_cons_self
    have := nodup_len (b := b.erase x) h2 fun y hy => (List.mem_erase_of_ne (fun e => h1 (by rw [← e]; exact hy))).mpr (hs y (List.mem_cons_of_mem _ hy))
    rw [List.length_erase_of_mem hx] at this
    have := List.length_pos_of_mem hx
    rw [List.length_cons]
    omega
/-- all lists of m numbers below B -/
def lists (B : Nat) : Nat → List (List Nat)
  | 0 => [[]]
  | m + 1 => (List.range B).flatMap fun x => (lists B m).map (x :: ·)
theorem lists_len (B : Nat) : ∀ m, (lists B m).length = B ^ m
  | 0 => rfl
  | m + 1 => by
    unfold lists
    rw [List.length_flatMap]
    have : ((List.range B).map fun x => ((lists B m).map (x :: ·)).length) = (List.range B).map fun _ => B ^ m := List.map_congr_left fun x _ => by rw [List.length_map, lists_len B m]
    rw [this, List.map_const', List.sum_replicate_nat, List.length_range, Nat.pow_succ, Nat.mul_comm]
theorem lists_mem {B : Nat} : ∀ {m : Nat} {l : List Nat}, l.length = m → (∀ x ∈ l, x < B) → l ∈ lists B m
  | 0, l, h, _ => by rw [List.eq_nil_of_length_eq_zero h]; exact List.mem_singleton.mpr rfl
  | m + 1, [], h, _ => by cases h
  | m + 1, x :: l, h, hs => by
    unfold lists
    exact List.mem_flatMap.mpr ⟨x, List.mem_range.mpr (hs x List.mem_cons_self), List.mem_map.mpr ⟨l, lists_mem (Nat.succ.inj h) fun y hy => hs y (List.mem_cons_of_mem _ hy), rfl⟩⟩
/-- the rule of the method -/
structure Alg (m n : Nat) (A : Nat → Col) (g : Nat → Int) (dec : St → Option (Nat × Nat)) (Good : St → Prop) : Prop where
  hu : ∀ k, k < m → n + k < n + m + 1 ∧ ∀ q, q < m → A (n + k) q = unit k q
  g0 : ∀ j, j < n → g j = 0
  gR : g (n + m) = 0
  inv : ∀ S, Good S → Inv m (n + m + 1) A S
  bR : ∀ S, Good S → ∀ i, i < m → S.b i < n + m
  rhs : ∀ S, Good S → ∀ i, i < m → 0 ≤ S.T i (n + m)
  ok : ∀ S r c, Good S → dec S = some (r, c) → r < m ∧ c < n ∧ 0 < zr m g S c ∧ (∀ j, j < c → zr m g S j ≤ 0) ∧ 0 < S.T r c ∧ (∀ i, i < m → 0 < S.T i c → S.T r (n + m) * S.T i c = S.T i (n + m) * S.T r c → S.b r ≤ S.b i) ∧ Good (piv S r c)
  congr : ∀ S S', Good S → Good S' → (∀ i, i < m → S.b i = S'.b i) → dec S = dec S'
def stp (dec : St → Option (Nat × Nat)) (S : St) : St := match dec S with
  | some (r, c) => piv S r c
  | none => S
def it (dec : St → Option (Nat × Nat)) : Nat → St → St
  | 0, S => S
  | k + 1, S => stp dec (it dec k S)
section
variable {m n : Nat} {A : Nat → Col} {g : Nat → Int} {dec : St → Option (Nat × Nat)} {Good : St → Prop}
theorem Alg.good (H : Alg m n A g dec Good) {S : St} (hS : Good S) : ∀ k, Good (it dec k S)
  | 0 => hS
  | k + 1 => by
    have ih := H.good hS k
    show Good (stp dec (it dec k S))
    unfold stp
    cases e : dec (it dec k S) with
    | none => exact ih
    | some rc => obtain ⟨r, c⟩ := rc; exact (H.ok _ r c ih e).2.2.2.2.2.2
/-- if it never ends, no basis comes twice -/
theorem Alg.never (H : Alg m n A g dec Good) {S : St} (hS : Good S) (hn : ∀ k, dec (it dec k S) ≠ none) {L : Nat} (hL : 0 < L) (per : ∀ k i, i < m → (it dec (k + L) S).b i = (it dec k S).b i) : False := by
  have hd : ∀ k, ∃ rc : Nat × Nat, dec (it dec k S) = some rc := fun k => by
    cases e : dec (it dec k S) with
    | none => exact absurd e (hn k)
    | some rc => exact ⟨rc, rfl⟩
  let f : Nat → Nat × Nat := fun k => (dec (it dec k S)).getD (0, 0)
  have hf : ∀ k, dec (it dec k S) = some ((f k).1, (f k).2) := fun k => by
    obtain ⟨rc, e⟩ := hd k
    show _ = some ((((dec (it dec k S)).getD (0, 0)).1), (((dec (it dec k S)).getD (0, 0)).2))
    rw [e]
    rfl
  have ho := fun k => H.ok (it dec k S) (f k).1 (f k).2 (H.good hS k) (hf k)
  refine Run.no_period (m := m) (n := n) (A := A) (g := g) (σ := fun k => it dec k S) (r := fun k => (f k).1) (c := fun k => (f k).2) ⟨fun k => H.inv _ (H.good hS k), H.hu, H.g0, H.gR, fun k => H.bR _ (H.good hS k), fun k => (ho k).1, fun k => (ho k).2.1, fun k => (ho k).2.2.1, fun k => (ho k).2.2.2.1, fun k => (ho k).2.2.2.2.1, fun k => (ho k).2.2.2.2.2.1, fun k => H.rhs _ (H.good hS k), fun k => ?_⟩ hL per
  show stp dec (it dec k S) = _
  unfold stp
  rw [hf k]
/-- equal bases go on alike -/
theorem Alg.alike (H : Alg m n A g dec Good) {S S' : St} (hS : Good S) (hS' : Good S') (h : ∀ i, i < m → S.b i = S'.b i) : ∀ k, (∀ i, i < m → (it dec k S).b i = (it dec k S').b i) ∧ dec (it dec k S) = dec (it dec k S')
  | 0 => ⟨h, H.congr S S' hS hS' h⟩
  | k + 1 => by
    obtain ⟨ih, id⟩ := H.alike hS hS' h k
    have hb : ∀ i, i < m → (it dec (k + 1) S).b i = (it dec (k + 1) S').b i := fun i hi => by
      show (stp dec (it dec k S)).b i = (stp dec (it dec k S')).b i
      unfold stp
      rw [← id]
      cases dec (it dec k S) with
      | none => exact ih i hi
      | some rc =>
        obtain ⟨r, c⟩ := rc
        show (if i = r then c else (it dec k S).b i) = if i = r then c else (it dec k S').b i
        rw [ih i hi]
    exact ⟨hb, H.congr _ _ (H.good hS _) (H.good hS' _) hb⟩
theorem it_add (dec : St → Option (Nat × Nat)) (S : St) (a : Nat) : ∀ k, it dec (k + a) S = it dec k (it dec a S)
  | 0 => by rw [Nat.zero_add]; rfl
  | k + 1 => by
    rw [show k + 1 + a = k + a + 1 by omega]
    show stp dec (it dec (k + a) S) = stp dec (it dec k (it dec a S))
    rw [it_add dec S a k]
theorem Alg.ends (H : Alg m n A g dec Good) {S : St} (hS : Good S) : ∃ k, k ≤ (n + m) ^ m ∧ dec (it dec k S) = none := by
  refine Classical.byContradiction fun hno => ?_
  have hn : ∀ k, k ≤ (n + m) ^ m → dec (it dec k S) ≠ none := fun k hk e => hno ⟨k, hk, e⟩
  let code : Nat → List Nat := fun k => (List.range m).map (it dec k S).b
  have hcm : ∀ k, code k ∈ lists (n + m) m := fun k => lists_mem (by show ((List.range m).map _).length = m; rw [List.length_map, List.length_range]) fun x hx => by
    obtain ⟨i, hi, rfl⟩ := List.mem_map.mp hx
    exact H.bR _ (H.good hS k) i (List.mem_range.mp hi)
  have hrep : ∃ a b, a < b ∧ b ≤ (n + m) ^ m ∧ code a = code b := by
    refine Classical.byContradiction fun h => ?_
    have nd : ((List.range ((n + m) ^ m + 1)).map code).Nodup := by
      show List.Pairwise _ _
      rw [List.pairwise_map]
      refine List.Pairwise.imp_of_mem (fun {a b} ha hb hab e => ?_) (List.pairwise_lt_range (n := (n + m) ^ m + 1))
      exact h ⟨a, b, hab, by have := List.mem_range.mp hb; omega, e⟩
    have := nodup_len nd fun x hx => by
      obtain ⟨k, _, rfl⟩ := List.mem_map.mp hx
      exact hcm k
    rw [List.length_map, List.length_range, lists_len] at this
    omega
  obtain ⟨a, b, hab, hb, hc⟩ := hrep
  have hbe : ∀ i, i < m → (it dec b S).b i = (it dec a S).b i := fun i hi => by
    have e : (code b)[i]? = (code a)[i]? := by rw [hc]
    show _ = _
    have e1 : ∀ k, (code k)[i]? = some ((it dec k S).b i) := fun k => by
      show ((List.range m).map (it dec k S).b)[i]? = _
      rw [List.getElem?_map, List.getElem?_range hi]
      rfl
    rw [e1, e1] at e
    exact Option.some.inj e
  have al := H.alike (H.good hS b) (H.good hS a) hbe
  -- from a on it never ends
  have hnev : ∀ k, dec (it dec k (it dec a S)) ≠ none := fun k => by
    induction k using Nat.strongRecOn with
    | ind k ih =>
      by_cases h : k + a ≤ (n + m) ^ m
      · rw [← it_add]; exact hn _ h
      · have e := (al (k - (b - a))).2
        rw [← it_add, show k - (b - a) + b = k + a by omega, it_add] at e
        rw [e]
        exact ih _ (by omega)
  refine H.never (H.good hS a) hnev (L := b - a) (by omega) fun k i hi => ?_
  have e := (al k).1 i hi
  rw [← it_add, show k + b = k + (b - a) + a by omega, it_add] at e
  exact e
end
end Qw.Det

set_option Elab.async false
set_option linter.all false
set_option maxRecDepth 100000
/-! The program's choice of column and row. By an AI agent. -/
namespace Qw.Det
section
variable {m n : Nat} {A : Nat → Col} {S S' : St}
/-- 1 at the artificial columns -/
def gA (n m : Nat) (j : Nat) : Int := if n ≤ j ∧ j < n + m then 1 else 0
/-- row i goes before row j -/
def bet (R : Nat) (S : St) (c i j : Nat) : Bool := decide (S.T i R * S.T j c < S.T j R * S.T i c) || (decide (S.T i R * S.T j c = S.T j R * S.T i c) && decide (S.b i < S.b j))
def lstep (R : Nat) (S : St) (c : Nat) (best : Option Nat) (i : Nat) : Option Nat :=
  if 0 < S.T i c then (match best with
    | none => some i
    | some j => if bet R S c i j = true then some i else some j) else best
def lrow (R : Nat) (S : St) (c : Nat) : Nat → Option Nat
  | 0 => none
  | k + 1 => lstep R S c (lrow R S c k) k
def ecol (z : Nat → Int) (n : Nat) : Option Nat := (List.range n).find? fun c => decide (0 < z c)
def dec (m n : Nat) (S : St) : Option (Nat × Nat) := match ecol (zr m (gA n m) S) n with
  | none => none
  | some c => match lrow (n + m) S c m with
    | some r => some (r, c)
    | none => none
/-- not after: i is not better than j -/
def nb (R : Nat) (S : St) (c i j : Nat) : Prop := S.T j R * S.T i c ≤ S.T i R * S.T j c ∧ (S.T j R * S.T i c = S.T i R * S.T j c → S.b j ≤ S.b i)
theorem nb_of {R c i j : Nat} (h : bet R S c i j = false) : nb R S c i j := by
  unfold bet at h
  rw [Bool.or_eq_false_iff, Bool.and_eq_false_iff, decide_eq_false_iff_not, decide_eq_false_iff_not, decide_eq_false_iff_not] at h
  refine ⟨by omega, fun e => ?_⟩
  rcases h.2 with z | z
  · omega
  · omega
theorem bet_nb {R c i j : Nat} (h : bet R S c i j = true) : nb R S c j i := by
  unfold bet at h
  rw [Bool.or_eq_true, Bool.and_eq_true, decide_eq_true_eq, decide_eq_true_eq, decide_eq_true_eq] at h
  refine ⟨?_, fun e => ?_⟩
  · rcases h with z | z <;> omega
  · rcases h with z | z <;> omega
theorem nb_tr {R c i j k : Nat} (hi : 0 < S.T i c) (hj : 0 < S.T j c) (hk : 0 < S.T k c) (h1 : nb R S c k j) (h2 : nb R S c j i) : nb R S c k i := by
  obtain ⟨a1, a2⟩ := h1
  obtain ⟨b1, b2⟩ := h2
  revert a1 a2 b1 b2
  unfold nb
  generalize S.T i R = x
  generalize S.T j R = y
  generalize S.T k R = z
  revert hi hj hk
  generalize S.T i c = p
  generalize S.T j c = q
  generalize S.T k c = w
  intro hp hq hw a1 a2 b1 b2
  -- y w <= z q, x q <= y p; want x w <= z p
  have e1 : x * q * w ≤ y * p * w := Int.mul_le_mul_of_nonneg_right b1 (by omega)
  have e2 : y * w * p ≤ z * q * p := Int.mul_le_mul_of_nonneg_right a1 (by omega)
  have e3 : x * w * q ≤ z * p * q := by
    rw [Int.mul_right_comm x w q, Int.mul_right_comm z p q]
    rw [Int.mul_right_comm y p w] at e1
    omega
  refine ⟨Int.le_of_mul_le_mul_right e3 hq, fun e => ?_⟩
  have e4 : x * w * q = z * p * q := by rw [e]
  have e5 : y * w * p = z * q * p := by
    rw [Int.mul_right_comm x w q, Int.mul_right_comm z p q] at e4
    rw [Int.mul_right_comm y p w] at e1
    omega
  have e6 : x * q * w = y * p * w := by
    rw [Int.mul_right_comm x w q, Int.mul_right_comm z p q] at e4
    rw [Int.mul_right_comm y p w] at e1 ⊢
    omega
  have e7 : y * w = z * q := Int.eq_of_mul_eq_mul_right (by omega) e5
  have e8 : x * q = y * p := Int.eq_of_mul_eq_mul_right (by omega) e6
  have := a2 e7
  have := b2 e8
  omega
theorem lrow_ok {R c : Nat} : ∀ k, (lrow R S c k = none → ∀ i, i < k → ¬ 0 < S.T i c) ∧ ∀ r, lrow R S c k = some r → r < k ∧ 0 < S.T r c ∧ ∀ i, i < k → 0 < S.T i c → nb R S c i r
  | 0 => ⟨fun _ i hi => by omega, fun r h => by cases h⟩
  | k + 1 => by
    obtain ⟨i1, i2⟩ := lrow_ok (R := R) (c := c) k
    show (lstep R S c (lrow R S c k) k = none → _) ∧ ∀ r, lstep R S c (lrow R S c k) k = some r → _
    unfold lstep
    by_cases hp : 0 < S.T k c
    · rw [if_pos hp]
      have self : nb R S c k k := ⟨Int.le_refl _, fun _ => Nat.le_refl _⟩
      cases e : lrow R S c k with
      | none =>
        refine ⟨(fun h => by cases h), fun r h => ?_⟩
        have h : some k = some r := h
        cases h
        refine ⟨by omega, hp, fun i hi hpi => ?_⟩
        by_cases z : i = k
        · subst z; exact self
        · exact absurd hpi (i1 e i (by omega))
      | some j =>
        obtain ⟨j1, j2, j3⟩ := i2 j e
        dsimp only
        cases hb : bet R S c k j with
        | true =>
          rw [if_pos rfl]
          refine ⟨(fun h => by cases h), fun r h => ?_⟩
          cases h
          refine ⟨by omega, hp, fun i hi hpi => ?_⟩
          by_cases z : i = k
          · subst z; exact self
          · exact nb_tr hp j2 hpi (j3 i (by omega) hpi) (bet_nb hb)
        | false =>
          rw [if_neg Bool.false_ne_true]
          refine ⟨(fun h => by cases h), fun r h => ?_⟩
          cases h
          refine ⟨by omega, j2, fun i hi hpi => ?_⟩
          by_cases z : i = k
          · subst z; exact nb_of hb
          · exact j3 i (by omega) hpi
    · rw [if_neg hp]
      refine ⟨fun h i hi => ?_, fun r h => ?_⟩
      · by_cases z : i = k
        · subst z; exact hp
        · exact i1 h i (by omega)
      · obtain ⟨j1, j2, j3⟩ := i2 r h
        refine ⟨by omega, j2, fun i hi hpi => ?_⟩
        by_cases z : i = k
        · subst z; exact absurd hpi hp
        · exact j3 i (by omega) hpi
theorem ecol_some {z : Nat → Int} {c : Nat} (h : ecol z n = some c) : c < n ∧ 0 < z c ∧ ∀ j, j < c → z j ≤ 0 := by
  unfold ecol at h
  obtain ⟨h1, as, bs, h2, h3⟩ := List.find?_eq_some_iff_append.mp h
  have hc : c < n := List.mem_range.mp (by rw [h2]; simp)
  refine ⟨hc, of_decide_eq_true h1, fun j hj => ?_⟩
  have hl : as.length = c := by
    have e : (List.range n)[as.length]? = some c := by rw [h2]; simp
    rw [List.getElem?_range (by
      have := congrArg List.length h2
      simp at this
      omega)] at e
    exact Option.some.inj e
  have hj2 : j ∈ as := by
    have e : (List.range n)[j]? = some j := List.getElem?_range (by omega)
    rw [h2, List.getElem?_append_left (by omega)] at e
    exact List.mem_of_getElem? e
  have h4 := h3 j hj2
  simpa using h4
theorem ecol_none {z : Nat → Int} (h : ecol z n = none) {j : Nat} (hj : j < n) : z j ≤ 0 := by
  unfold ecol at h
  have := List.find?_eq_none.mp h j (List.mem_range.mpr hj)
  rw [decide_eq_true_eq] at this
  omega
structure Good (m n : Nat) (A : Nat → Col) (S : St) : Prop where
  inv : Inv m (n + m + 1) A S
  bR : ∀ i, i < m → S.b i < n + m
  rhs : ∀ i, i < m → 0 ≤ S.T i (n + m)
theorem find_congr {α : Type} {p q : α → Bool} : ∀ {l : List α}, (∀ x ∈ l, p x = q x) → l.find? p = l.find? q
  | [], _ => rfl
  | x :: l, h => by
    rw [List.find?_cons, List.find?_cons, h x List.mem_cons_self, find_congr fun y hy => h y (List.mem_cons_of_mem _ hy)]
theorem pos_term {k : Nat} {f : Nat → Int} (h : 0 < sumN k f) : ∃ i, i < k ∧ 0 < f i := by
  induction k with
  | zero => exact absurd h (by show ¬ (0 : Int) < 0; omega)
  | succ k ih =>
    by_cases e : 0 < f k
    · exact ⟨k, by omega, e⟩
    · have h : 0 < sumN k f + f k := h
      obtain ⟨i, hi, hf⟩ := ih (by omega)
      exact ⟨i, by omega, hf⟩
theorem lrow_congr {R c : Nat} (hT : ∀ i, i < m → S.T i c = S'.T i c ∧ S.T i R = S'.T i R) (hb : ∀ i, i < m → S.b i = S'.b i) : ∀ k, k ≤ m → lrow R S c k = lrow R S' c k
  | 0, _ => rfl
  | k + 1, hk => by
    have ih := lrow_congr hT hb k (by omega)
    show lstep R S c (lrow R S c k) k = lstep R S' c (lrow R S' c k) k
    rw [← ih]
    unfold lstep
    rw [(hT k (by omega)).1]
    by_cases hp : 0 < S'.T k c
    · rw [if_pos hp, if_pos hp]
      cases e : lrow R S c k with
      | none => rfl
      | some j =>
        have hj : j < m := by have := ((lrow_ok (S := S) (R := R) (c := c) k).2 j e).1; omega
        have : bet R S c k j = bet R S' c k j := by
          unfold bet
          rw [(hT k (by omega)).1, (hT k (by omega)).2, (hT j hj).1, (hT j hj).2, hb k (by omega), hb j hj]
        dsimp only
        rw [this]
    · rw [if_neg hp, if_neg hp]
/-- the program's method -/
theorem alg (hu : ∀ k, k < m → ∀ q, q < m → A (n + k) q = unit k q) : Alg m n A (gA n m) (dec m n) (Good m n A) := by
  have g0 : ∀ j, j < n → gA n m j = 0 := fun j hj => if_neg (by omega)
  refine ⟨fun k hk => ⟨by omega, hu k hk⟩, g0, if_neg (by omega), fun S h => h.inv, fun S h => h.bR, fun S h => h.rhs, fun S r c h hd => ?_, fun S S' h h' hb => ?_⟩
  · unfold dec at hd
    cases e : ecol (zr m (gA n m) S) n with
    | none => rw [e] at hd; cases hd
    | some c' =>
      rw [e] at hd
      dsimp only at hd
      cases e2 : lrow (n + m) S c' m with
      | none => rw [e2] at hd; cases hd
      | some r' =>
        rw [e2] at hd
        cases hd
        obtain ⟨c1, c2, c3⟩ := ecol_some e
        obtain ⟨r1, r2, r3⟩ := (lrow_ok (S := S) (R := n + m) (c := c) m).2 r e2
        refine ⟨r1, c1, c2, c3, r2, fun i hi hp he => (r3 i hi hp).2 he, h.inv.piv r1 (by omega) r2, fun i hi => ?_, fun i hi => ?_⟩
        · show (if i = r then c else S.b i) < n + m
          split
          · omega
          · exact h.bR i hi
        · by_cases z : i = r
          · subst z
            show 0 ≤ (if i = i then S.T i (n + m) else _)
            rw [if_pos rfl]
            exact h.rhs i hi
          · have hdv := h.inv.div hi r1 z (show n + m < n + m + 1 by omega) (show c < n + m + 1 by omega)
            have hpos := h.inv.pos
            have hnn : 0 ≤ S.T i (n + m) * S.T r c - S.T i c * S.T r (n + m) := by
              rcases Int.lt_or_le 0 (S.T i c) with y | y
              · have := (r3 i hi y).1
                rw [Int.mul_comm (S.T r (n + m))] at this
                omega
              · have y1 := Int.mul_nonneg (h.rhs i hi) (Int.le_of_lt r2)
                have y2 := Int.mul_nonpos_of_nonpos_of_nonneg y (h.rhs r r1)
                omega
            rw [← hdv] at hnn
            exact Int.nonneg_of_mul_nonneg_right hnn hpos
  · unfold dec
    have ez : ecol (zr m (gA n m) S) n = ecol (zr m (gA n m) S') n := by
      unfold ecol
      refine find_congr fun j hj => ?_
      rw [same_z h.inv h'.inv hb (by have := List.mem_range.mp hj; omega)]
    rw [ez]
    cases e : ecol (zr m (gA n m) S') n with
    | none => rfl
    | some c =>
      obtain ⟨c1, _, _⟩ := ecol_some e
      dsimp only
      rw [lrow_congr (m := m) (fun i hi => ⟨same_T h.inv h'.inv hb hi (by omega), same_T h.inv h'.inv hb hi (by omega)⟩) hb m (Nat.le_refl _)]
/-- at the end no column is left -/
theorem dec_none (h : Good m n A S) (hd : dec m n S = none) : ∀ j, j < n → zr m (gA n m) S j ≤ 0 := by
  unfold dec at hd
  cases e : ecol (zr m (gA n m) S) n with
  | none => exact fun j hj => ecol_none e hj
  | some c =>
    rw [e] at hd
    dsimp only at hd
    obtain ⟨c1, c2, _⟩ := ecol_some e
    cases e2 : lrow (n + m) S c m with
    | some r => rw [e2] at hd; cases hd
    | none =>
      exfalso
      have c2' : 0 < sumN m fun i => gA n m (S.b i) * S.T i c := by
        unfold zr at c2
        rw [show gA n m c = 0 from if_neg (by omega), Int.zero_mul, Int.sub_zero] at c2
        exact c2
      obtain ⟨i, hi, hp⟩ := pos_term c2'
      have h1 := (lrow_ok (S := S) (R := n + m) (c := c) m).1 e2 i hi
      have hp : 0 < gA n m (S.b i) * S.T i c := hp
      unfold gA at hp
      split at hp
      · omega
      · omega
end
end Qw.Det

set_option Elab.async false
set_option linter.all false
set_option maxRecDepth 100000
/-! What the last tableau tells. By an AI agent. -/
namespace Qw.Det
section
variable {m n : Nat} {A : Nat → Col} {S : St}
theorem hu' (hu : ∀ k, k < m → ∀ q, q < m → A (n + k) q = unit k q) : ∀ k, k < m → n + k < n + m + 1 ∧ ∀ q, q < m → A (n + k) q = unit k q := fun k hk => ⟨by omega, hu k hk⟩
/-- the multipliers stand in the last row -/
theorem mult_at (hu : ∀ k, k < m → ∀ q, q < m → A (n + k) q = unit k q) (h : Good m n A S) {k : Nat} (hk : k < m) : zr m (gA n m) S (n + k) + S.s = mult m n (gA n m) S k := by
  have := z_mult (g := gA n m) h.inv (hu' hu) (j := n + k) (by omega)
  rw [show gA n m (n + k) = 1 from if_pos (by omega), Int.one_mul, sumN_one hk fun q hq hne => by
    rw [hu k hk q hq, show unit k q = 0 from if_neg hne, Int.mul_zero], hu k hk k hk, show unit k k = 1 from if_pos rfl, Int.mul_one] at this
  exact this
theorem mult_col (hu : ∀ k, k < m → ∀ q, q < m → A (n + k) q = unit k q) (h : Good m n A S) {j : Nat} (hj : j < n) : sumN m (fun k => mult m n (gA n m) S k * A j k) = zr m (gA n m) S j := by
  have := z_mult (g := gA n m) h.inv (hu' hu) (j := j) (by omega)
  rw [show gA n m j = 0 from if_neg (by omega), Int.zero_mul, Int.add_zero] at this
  exact this.symm
theorem mult_rhs (hu : ∀ k, k < m → ∀ q, q < m → A (n + k) q = unit k q) (h : Good m n A S) : sumN m (fun k => mult m n (gA n m) S k * A (n + m) k) = zr m (gA n m) S (n + m) := by
  have := z_mult (g := gA n m) h.inv (hu' hu) (j := n + m) (by omega)
  rw [show gA n m (n + m) = 0 from if_neg (by omega), Int.zero_mul, Int.add_zero] at this
  exact this.symm
theorem sumN_nonneg {k : Nat} {f : Nat → Int} (h : ∀ i, i < k → 0 ≤ f i) : 0 ≤ sumN k f := by
  induction k with
  | zero => exact Int.le_refl _
  | succ k ih =>
    have := ih fun i hi => h i (by omega)
    have := h k (by omega)
    show 0 ≤ sumN k f + f k
    omega
theorem sumN_all0 {k : Nat} {f : Nat → Int} (h : ∀ i, i < k → 0 ≤ f i) (hz : sumN k f = 0) : ∀ i, i < k → f i = 0 := by
  induction k with
  | zero => intro i hi; omega
  | succ k ih =>
    have h1 := sumN_nonneg fun i (hi : i < k) => h i (by omega)
    have h2 := h k (by omega)
    have hz : sumN k f + f k = 0 := hz
    intro i hi
    by_cases e : i = k
    · subst e; omega
    · exact ih (fun i hi => h i (by omega)) (by omega) i (by omega)
theorem z_rhs (h : Good m n A S) : 0 ≤ zr m (gA n m) S (n + m) ∧ (zr m (gA n m) S (n + m) = 0 → ∀ i, i < m → n ≤ S.b i → S.T i (n + m) = 0) := by
  have e : zr m (gA n m) S (n + m) = sumN m fun i => gA n m (S.b i) * S.T i (n + m) := by
    unfold zr
    rw [show gA n m (n + m) = 0 from if_neg (by omega), Int.zero_mul, Int.sub_zero]
  have hn : ∀ i, i < m → 0 ≤ gA n m (S.b i) * S.T i (n + m) := fun i hi => Int.mul_nonneg (by unfold gA; split <;> omega) (h.rhs i hi)
  rw [e]
  refine ⟨sumN_nonneg hn, fun hz i hi hb => ?_⟩
  have := sumN_all0 hn hz i hi
  rw [show gA n m (S.b i) = 1 from if_pos ⟨hb, h.bR i hi⟩, Int.one_mul] at this
  exact this
/-- the basic solution -/
theorem sol_at (h : Good m n A S) (hz : zr m (gA n m) S (n + m) = 0) {q : Nat} (hq : q < m) : (sumN m fun i => if S.b i < n then S.T i (n + m) * A (S.b i) q else 0) = S.s * A (n + m) q := by
  rw [h.inv.lin (n + m) (by omega) q hq]
  refine sumN_congr fun i hi => ?_
  by_cases e : S.b i < n
  · rw [if_pos e]
  · rw [if_neg e, (z_rhs h).2 hz i hi (by omega), Int.zero_mul]
/-- the objective never rises: the last row's right side against the first -/
theorem it_fall (hu : ∀ k, k < m → ∀ q, q < m → A (n + k) q = unit k q) (h : Good m n A S) : ∀ k, zr m (gA n m) (it (dec m n) k S) (n + m) * S.s ≤ zr m (gA n m) S (n + m) * (it (dec m n) k S).s
  | 0 => Int.le_refl _
  | k + 1 => by
    have ih := it_fall hu h k
    have G := (alg hu).good h k
    show zr m (gA n m) (stp (dec m n) (it (dec m n) k S)) (n + m) * S.s ≤ zr m (gA n m) S (n + m) * (stp (dec m n) (it (dec m n) k S)).s
    unfold stp
    cases e : dec m n (it (dec m n) k S) with
    | none => exact ih
    | some rc =>
      obtain ⟨r, c⟩ := rc
      obtain ⟨r1, c1, c2, _, p1, _, G'⟩ := (alg hu).ok _ r c G e
      have hz := z_piv (g := gA n m) G.inv (r := r) (c := c) (j := n + m) r1 (by omega) (by omega) (if_neg (by omega))
      have p3 : 0 ≤ zr m (gA n m) (it (dec m n) k S) c * (it (dec m n) k S).T r (n + m) := Int.mul_nonneg (by omega) (G.rhs r r1)
      refine fr_tr h.inv.pos G.inv.pos G'.inv.pos ih ?_
      rw [Int.mul_comm, hz]
      show _ ≤ zr m (gA n m) (it (dec m n) k S) (n + m) * (it (dec m n) k S).T r c
      omega
end
end Qw.Det

set_option Elab.async false
set_option linter.all false
set_option maxRecDepth 100000
/-! Bounds of determinants. By an AI agent. -/
namespace Qw.Det
def ab (x : Int) : Int := if 0 ≤ x then x else -x
theorem ab_mul (x y : Int) : ab (x * y) = ab x * ab y := by
  unfold ab
  rcases Int.lt_or_le x 0 with hx | hx
  · rcases Int.lt_or_le y 0 with hy | hy
    · have := Int.mul_pos_of_neg_of_neg hx hy
      rw [if_pos (by omega), if_neg (by omega), if_neg (by omega), Int.neg_mul_neg]
    · rw [if_neg (show ¬ 0 ≤ x by omega), if_pos hy, Int.neg_mul]
      have h := Int.mul_nonpos_of_nonpos_of_nonneg (Int.le_of_lt hx) hy
      split
      · omega
      · rfl
  · rcases Int.lt_or_le y 0 with hy | hy
    · rw [if_pos hx, if_neg (show ¬ 0 ≤ y by omega), Int.mul_neg]
      have h := Int.mul_nonpos_of_nonneg_of_nonpos hx (Int.le_of_lt hy)
      split
      · omega
      · rfl
    · rw [if_pos hx, if_pos hy, if_pos (Int.mul_nonneg hx hy)]
theorem ab_nonneg (x : Int) : 0 ≤ ab x := by unfold ab; split <;> omega
theorem ab_add (x y : Int) : ab (x + y) ≤ ab x + ab y := by unfold ab; split <;> split <;> split <;> omega
theorem ab_sum (n : Nat) (f : Nat → Int) : ab (sumN n f) ≤ sumN n fun i => ab (f i) := by
  induction n with
  | zero => exact Int.le_refl _
  | succ n ih =>
    have := ab_add (sumN n f) (f n)
    show ab (sumN n f + f n) ≤ (sumN n fun i => ab (f i)) + ab (f n)
    omega
theorem ab_sgn (i : Nat) : ab (sgn i) = 1 := by unfold sgn ab; split <;> rfl
/-- a row of zeros -/
theorem det_row0 : ∀ {m : Nat} {c : Mat} {q : Nat}, q < m → (∀ i, i < m → c i q = 0) → det m c = 0
  | 0, _, _, h, _ => by omega
  | m + 1, c, q, hq, h => by
    unfold det
    refine sumN_zero fun i hi => ?_
    cases q with
    | zero => rw [h i hi, Int.zero_mul, Int.mul_zero]
    | succ q =>
      rw [det_row0 (m := m) (c := minor c i) (q := q) (by omega) fun j hj => h _ (by unfold skip; split <;> omega), Int.mul_zero, Int.mul_zero]
theorem det_col0 {m : Nat} {c : Mat} {k : Nat} (hk : k < m) (h : ∀ r, r < m → c k r = 0) : det m c = 0 := by
  rw [← det_zero (m := m) (c := c) hk]
  refine det_congr fun i hi r hr => ?_
  by_cases e : i = k
  · subst e; rw [upd_self]; exact h r hr
  · rw [upd_ne e]
/-- a column by the unit columns -/
theorem det_expand {m : Nat} (c : Mat) {i : Nat} (hi : i < m) : det m c = sumN m fun q => c i q * det m (upd c i (unit q)) := by
  rw [← det_sum hi m (fun q => c i q) fun q => unit q]
  refine det_congr fun l hl r hr => ?_
  by_cases e : l = i
  · subst e
    rw [upd_self, sumN_one hr fun k hk hne => by
      rw [show unit k r = 0 from if_neg fun z => hne z.symm, Int.mul_zero], show unit r r = 1 from if_pos rfl, Int.mul_one]
  · rw [upd_ne e]
/-- columns with one entry at most -/
theorem det_thin : ∀ {m : Nat} {c : Mat}, (∀ i, i < m → ∃ q, ∀ r, r < m → (r ≠ q → c i r = 0) ∧ ab (c i r) ≤ 1) → ab (det m c) ≤ 1
  | 0, _, _ => by show ab 1 ≤ 1; decide
  | m + 1, c, h => by
    have hm : ∀ i, i < m + 1 → ab (det m (minor c i)) ≤ 1 := fun i hi => det_thin fun j hj => by
      obtain ⟨q, hq⟩ := h (skip i j) (by unfold skip; split <;> omega)
      refine ⟨q - 1, fun r hr => ⟨fun hne => ?_, (hq (r + 1) (by omega)).2⟩⟩
      by_cases e : r + 1 = q
      · omega
      · exact (hq (r + 1) (by omega)).1 e
    unfold det
    by_cases hz : ∃ k, k < m + 1 ∧ c k 0 ≠ 0
    · obtain ⟨k, hk, hk0⟩ := hz
      -- column k is zero below
      have kz : ∀ r, r < m → c k (r + 1) = 0 := fun r hr => by
        obtain ⟨q, hq⟩ := h k hk
        by_cases e : q = 0
        · exact (hq (r + 1) (by omega)).1 (by omega)
        · exact absurd ((hq 0 (by omega)).1 (by omega)) hk0
      rw [sumN_one hk fun i hi hne => by
        have : det m (minor c i) = 0 := det_col0 (k := pl i k) (by unfold pl; split <;> omega) fun r hr => by
          show c (skip i (pl i k)) (r + 1) = 0
          have : skip i (pl i k) = k := by
            unfold skip pl
            by_cases z : k < i
            · rw [if_pos z, if_pos z]
            · rw [if_neg z, if_neg (by omega)]
              omega
          rw [this]
          exact kz r hr
        rw [this, Int.mul_zero, Int.mul_zero]]
      rw [ab_mul, ab_mul, ab_sgn, Int.one_mul]
      have h1 := hm k hk
      obtain ⟨q, hq⟩ := h k hk
      have h2 := (hq 0 (by omega)).2
      have h3 := ab_nonneg (c k 0)
      have h4 := ab_nonneg (det m (minor c k))
      have : ab (c k 0) * ab (det m (minor c k)) ≤ 1 * 1 := Int.mul_le_mul h2 h1 h4 (by omega)
      omega
    · rw [sumN_zero fun i hi => by
        have : c i 0 = 0 := Classical.byContradiction fun z => hz ⟨i, hi, z⟩
        rw [this, Int.zero_mul, Int.mul_zero]]
      decide
end Qw.Det

set_option Elab.async false
set_option linter.all false
set_option maxRecDepth 100000
/-! A determinant with few columns that are no unit columns. By an AI agent. -/
namespace Qw.Det
def fac : Nat → Int
  | 0 => 1
  | k + 1 => ((k : Int) + 1) * fac k
theorem fac_nonneg : ∀ k, 0 ≤ fac k
  | 0 => by decide
  | k + 1 => Int.mul_nonneg (by omega) (fac_nonneg k)
theorem sumN_few {F : Int} (hF : 0 ≤ F) (p : Nat → Bool) {f : Nat → Int} : ∀ {m : Nat}, (∀ q, q < m → p q = true → f q ≤ F) → (∀ q, q < m → p q = false → f q ≤ 0) → sumN m f ≤ (((List.range m).filter p).length : Int) * F
  | 0, _, _ => by show (0 : Int) ≤ 0 * F; omega
  | m + 1, h1, h2 => by
    have ih := sumN_few hF p (f := f) (m := m) (fun q hq => h1 q (by omega)) fun q hq => h2 q (by omega)
    rw [List.range_succ, List.filter_append, List.length_append]
    show sumN m f + f m ≤ _
    cases e : p m with
    | true =>
      have := h1 m (by omega) e
      rw [List.filter_cons_of_pos e, List.filter_nil, List.length_singleton, Int.natCast_add, Int.add_mul]
      omega
    | false =>
      have := h2 m (by omega) e
      rw [List.filter_cons_of_neg (by rw [e]; exact Bool.false_ne_true), List.filter_nil, List.length_nil, Nat.add_zero]
      omega
theorem filter_split (p : Nat → Bool) : ∀ l : List Nat, (l.filter p).length + (l.filter fun x => !p x).length = l.length
  | [] => rfl
  | x :: l => by
    have := filter_split p l
    cases e : p x
    · rw [List.filter_cons_of_neg (by rw [e]; exact Bool.false_ne_true), List.filter_cons_of_pos (by rw [e]; rfl), List.length_cons, List.length_cons]; omega
    · rw [List.filter_cons_of_pos e, List.filter_cons_of_neg (by rw [e]; exact Bool.false_ne_true), List.length_cons, List.length_cons]; omega
/-- column i is a unit column, up to its sign -/
def UnitC (m : Nat) (c : Mat) (i q : Nat) : Prop := q < m ∧ ∃ e : Int, (e = 1 ∨ e = -1) ∧ ∀ r, r < m → c i r = e * unit q r
theorem det_par {m : Nat} {c : Mat} {i j q : Nat} (hi : i < m) (hj : j < m) (hij : i ≠ j) (h1 : UnitC m c i q) (h2 : UnitC m c j q) : det m c = 0 := by
  obtain ⟨_, e1, _, f1⟩ := h1
  obtain ⟨_, e2, _, f2⟩ := h2
  have a : det m c = det m (upd (upd c i fun r => e1 * unit q r) j fun r => e2 * unit q r) := det_congr fun l hl r hr => by
    by_cases z : l = j
    · subst z; rw [upd_self]; exact f2 r hr
    · rw [upd_ne z]
      by_cases y : l = i
      · subst y; rw [upd_self]; exact f1 r hr
      · rw [upd_ne y]
  rw [a, det_mulc hj, upd_comm _ hij, det_mulc hi, det_alt hi hj hij (by rw [upd_self, upd_ne (fun z => hij z.symm), upd_self]), Int.mul_zero, Int.mul_zero]
theorem det_fact {m : Nat} : ∀ (sp : List Nat) (c : Mat), sp.Nodup → (∀ i ∈ sp, i < m) → (∀ i, i < m → i ∉ sp → ∃ q, UnitC m c i q) → (∀ i ∈ sp, ∀ r, r < m → ab (c i r) ≤ 1) → ab (det m c) ≤ fac sp.length
  | [], c, _, _, hu, _ => det_thin fun i hi => by
    obtain ⟨q, _, e, he, hq⟩ := hu i hi (by simp)
    refine ⟨q, fun r hr => ⟨fun hne => by rw [hq r hr, show unit q r = 0 from if_neg hne, Int.mul_zero], ?_⟩⟩
    rw [hq r hr]
    unfold unit ab
    rcases he with z | z <;> subst z <;> split <;> decide
  | i :: sp, c, nd, hl, hu, ha => by
    obtain ⟨n1, n2⟩ := List.nodup_cons.mp nd
    have hi := hl i List.mem_cons_self
    have hF := fac_nonneg sp.length
    -- the rows of the unit columns
    have hex : ∀ j, ∃ q, j < m → j ∉ i :: sp → UnitC m c j q := fun j => by
      by_cases z : j < m ∧ j ∉ i :: sp
      · obtain ⟨q, hq⟩ := hu j z.1 z.2
        exact ⟨q, fun _ _ => hq⟩
      · exact ⟨0, fun a b => absurd ⟨a, b⟩ z⟩
    obtain ⟨u, hu'⟩ : ∃ u : Nat → Nat, ∀ j, j < m → j ∉ i :: sp → UnitC m c j (u j) := ⟨fun j => Classical.choose (hex j), fun j => Classical.choose_spec (hex j)⟩
    by_cases inj : ∀ j k, j < m → k < m → j ∉ i :: sp → k ∉ i :: sp → u j = u k → j = k
    · let non := (List.range m).filter fun j => !decide (j ∈ i :: sp)
      let cov := non.map u
      have hnon : ∀ j, j ∈ non ↔ j < m ∧ j ∉ i :: sp := fun j => by
        show j ∈ (List.range m).filter _ ↔ _
        rw [List.mem_filter, List.mem_range]
        simp
      have nnd : non.Nodup := List.nodup_range.filter _
      have cnd : cov.Nodup := by
        show List.Pairwise _ (non.map u)
        rw [List.pairwise_map]
        refine List.Pairwise.imp_of_mem (fun {a b} h1 h2 hne e => ?_) nnd
        exact hne (inj a b ((hnon a).mp h1).1 ((hnon b).mp h2).1 ((hnon a).mp h1).2 ((hnon b).mp h2).2 e)
      have hcl : cov.length = non.length := List.length_map _
      have h1 := filter_split (fun j => decide (j ∈ i :: sp)) (List.range m)
      have h2 : ((List.range m).filter fun j => decide (j ∈ i :: sp)).length ≤ (i :: sp).length := nodup_len (List.nodup_range.filter _) fun x hx => by simpa using (List.mem_filter.mp hx).2
      have h3 : cov.length ≤ ((List.range m).filter fun q => decide (q ∈ cov)).length := nodup_len cnd fun x hx => by
        rw [List.mem_filter, List.mem_range]
        obtain ⟨j, hj, rfl⟩ := List.mem_map.mp hx
        exact ⟨(hu' j ((hnon j).mp hj).1 ((hnon j).mp hj).2).1, decide_eq_true hx⟩
      have h4 := filter_split (fun q => decide (q ∈ cov)) (List.range m)
      rw [List.length_range] at h1 h4
      have hnl : non.length = ((List.range m).filter fun j => !decide (j ∈ i :: sp)).length := rfl
      rw [List.length_cons] at h2
      have hcnt : (((List.range m).filter fun q => !decide (q ∈ cov)).length : Int) ≤ (sp.length : Int) + 1 := by omega
      rw [det_expand c hi]
      refine Int.le_trans (ab_sum _ _) ?_
      refine Int.le_trans (sumN_few hF (fun q => !decide (q ∈ cov)) (fun q hq hp => ?_) fun q hq hp => ?_) ?_
      · -- not covered
        show ab (c i q * det m (upd c i (unit q))) ≤ _
        rw [ab_mul]
        have b1 := ha i List.mem_cons_self q hq
        have b2 := det_fact sp (upd c i (unit q)) n2 (fun j hj => hl j (List.mem_cons_of_mem _ hj)) (fun j hj hjn => by
          by_cases z : j = i
          · subst z
            exact ⟨q, hq, 1, .inl rfl, fun r _ => by rw [upd_self, Int.one_mul]⟩
          · obtain ⟨w, hw⟩ := hu j hj (by simp [z, hjn])
            refine ⟨w, hw.1, ?_⟩
            obtain ⟨e, he, hr⟩ := hw.2
            exact ⟨e, he, fun r hr' => by rw [upd_ne z]; exact hr r hr'⟩) (fun j hj r hr => by
          have z : j ≠ i := fun e => n1 (by rw [← e]; exact hj)
          rw [upd_ne z]
          exact ha j (List.mem_cons_of_mem _ hj) r hr)
        have : ab (c i q) * ab (det m (upd c i (unit q))) ≤ 1 * fac sp.length := Int.mul_le_mul b1 b2 (ab_nonneg _) (by omega)
        omega
      · -- covered
        show ab (c i q * det m (upd c i (unit q))) ≤ 0
        have hq2 : q ∈ cov := by simpa using hp
        obtain ⟨j, hj, e⟩ := List.mem_map.mp hq2
        have hj' := (hnon j).mp hj
        have hji : i ≠ j := fun z => hj'.2 (by rw [← z]; exact List.mem_cons_self)
        have uj := hu' j hj'.1 hj'.2
        rw [e] at uj
        rw [det_par hi hj'.1 hji (q := q) ⟨hq, 1, .inl rfl, fun r _ => by rw [upd_self, Int.one_mul]⟩ ⟨uj.1, (by
          obtain ⟨e, he, hr⟩ := uj.2
          exact ⟨e, he, fun r hr' => by rw [upd_ne (fun z => hji z.symm)]; exact hr r hr'⟩)⟩, Int.mul_zero]
        decide
      · show _ ≤ ((sp.length : Int) + 1) * fac sp.length
        exact Int.mul_le_mul_of_nonneg_right hcnt hF
    · have : det m c = 0 := by
        refine Classical.byContradiction fun hz => inj fun j k hj hk j1 k1 e => ?_
        by_cases z : j = k
        · exact z
        · have := hu' j hj j1
          rw [e] at this
          exact absurd (det_par hj hk z this (hu' k hk k1)) hz
      rw [this]
      exact fac_nonneg _
end Qw.Det

set_option Elab.async false
set_option linter.all false
set_option maxRecDepth 100000
set_option maxHeartbeats 4000000
/-! The simplex method's defs, walked: tables. By an AI agent. -/
namespace Qw
open PySem L2 Qw.Det
/-- a row, a table -/
def rowD (w : Nat) (f : Nat → Int) : D := .list ((List.range w).map fun j => .int (f j))
def tabD (h w : Nat) (f : Nat → Nat → Int) : D := .list ((List.range h).map fun i => rowD w (f i))
theorem atI_rg {h : Nat} {g : Nat → D} {i : Nat} (hi : i < h) : atI ((List.range h).map g) (i : Int) = some (g i) := atI_nat (by rw [List.getElem?_map, List.getElem?_range hi]; rfl)
theorem idx_rg {h : Nat} {g : Nat → D} {i : Nat} (hi : i < h) : dIdx (.list ((List.range h).map g)) (.int (i : Int)) = .ok (g i) := by
  show (match atI ((List.range h).map g) (i : Int) with | some d => R.ok d | none => .bad) = _
  rw [atI_rg hi]
theorem idx_rgL (h : Nat) (g : Nat → D) : dIdx (.list ((List.range (h + 1)).map g)) (.int (-1)) = .ok (g h) := by
  show (match atI ((List.range (h + 1)).map g) (-1) with | some d => R.ok d | none => .bad) = _
  have : atI ((List.range (h + 1)).map g) (-1) = some (g h) := by
    unfold atI ixN
    rw [List.length_map, List.length_range]
    rw [if_neg (by omega), if_pos (by omega)]
    show ((List.range (h + 1)).map g)[(-1 + ((h + 1 : Nat) : Int)).toNat]? = some (g h)
    rw [show (-1 + ((h + 1 : Nat) : Int)).toNat = h by omega, List.getElem?_map, List.getElem?_range (by omega)]
    rfl
  rw [this]
theorem idx_tab {h w : Nat} {f : Nat → Nat → Int} {i : Nat} (hi : i < h) : dIdx (tabD h w f) (.int (i : Int)) = .ok (rowD w (f i)) := idx_rg hi
theorem idx_row {w : Nat} {f : Nat → Int} {j : Nat} (hj : j < w) : dIdx (rowD w f) (.int (j : Int)) = .ok (.int (f j)) := idx_rg hj
theorem idx_tabL (h w : Nat) (f : Nat → Nat → Int) : dIdx (tabD (h + 1) w f) (.int (-1)) = .ok (rowD w (f h)) := idx_rgL h _
theorem idx_rowL (w : Nat) (f : Nat → Int) : dIdx (rowD (w + 1) f) (.int (-1)) = .ok (.int (f w)) := idx_rgL w _
theorem len_tab (h w : Nat) (f : Nat → Nat → Int) : dLen (tabD h w f) = .ok (.int h) := by
  show R.ok (PyData.int ((List.range h).map _).length) = _
  rw [List.length_map, List.length_range]
theorem it_rangeN {n : Nat} (h : n ≤ 1000) : (if -1000000 ≤ (n : Int) ∧ (n : Int) ≤ 1000000 then R.ok (rangeD 0 ((n : Int)).toNat) else .bad) = .ok ((List.range n).map fun i : Nat => PyData.int (i : Int)) := by
  rw [if_pos (by omega), Int.toNat_natCast]
  unfold rangeD
  congr 1
  refine List.map_congr_left fun i _ => ?_
  rw [Int.zero_add]
theorem zipIdx_rg {α : Type} (g : Nat → α) (h k : Nat) : ((List.range' k h).map g).zipIdx k = (List.range' k h).map fun i => (g i, i) := by
  induction h generalizing k with
  | zero => rfl
  | succ h ih => rw [List.range'_succ, List.map_cons, List.map_cons, List.zipIdx_cons, ih]
theorem enum_rg (h : Nat) (g : Nat → D) : dEnum (.list ((List.range h).map g)) = .ok ((List.range h).map fun i : Nat => PyData.tuple [.int (i : Int), g i]) := by
  show R.ok ((((List.range h).map g).zipIdx).map fun p => PyData.tuple [.int p.2, p.1]) = _
  rw [List.range_eq_range', zipIdx_rg, List.map_map]
  rfl
theorem enum_tab (h w : Nat) (f : Nat → Nat → Int) : dEnum (tabD h w f) = .ok ((List.range h).map fun i : Nat => PyData.tuple [.int (i : Int), rowD w (f i)]) := enum_rg h _
theorem zip_rg {α β : Type} (f : Nat → α) (g : Nat → β) (h : Nat) : ((List.range h).map f).zip ((List.range h).map g) = (List.range h).map fun i => (f i, g i) := by
  rw [List.zip_map']
theorem zip_row (w : Nat) (f g : Nat → Int) : dZip (rowD w f) (rowD w g) = .ok ((List.range w).map fun j => .tuple [.int (f j), .int (g j)]) := by
  show R.ok ((((List.range w).map fun j => PyData.int (f j)).zip ((List.range w).map fun j => PyData.int (g j))).map fun p => PyData.tuple [p.1, p.2]) = _
  rw [zip_rg, List.map_map]
  rfl
/-- a loop that keeps an invariant of its state -/
theorem loop_inv {α γ σ : Type} {enc : α → D} {tg : Tg} {body : Env → Res} (P : σ → Prop) (step : σ → α → σ) (mk : σ → γ → Env) : ∀ {l : List α} {s0 : σ} {g0 : γ}, P s0 →
    (∀ a ∈ l, ∀ (s : σ) (g : γ), P s → P (step s a) ∧ ∃ ρ1 g', bindTg tg (enc a) (mk s g) = some ρ1 ∧ body ρ1 = .next (mk (step s a) g')) → P (l.foldl step s0) ∧ ∃ g, forLoop tg body (l.map enc) (mk s0 g0) = .next (mk (l.foldl step s0) g)
  | [], s0, g0, h0, _ => ⟨h0, g0, rfl⟩
  | a :: l, s0, g0, h0, hs => by
    obtain ⟨p1, ρ1, g', h1, h2⟩ := hs a List.mem_cons_self s0 g0 h0
    obtain ⟨p2, g, h3⟩ := loop_inv P step mk (l := l) (s0 := step s0 a) (g0 := g') p1 fun b hb => hs b (List.mem_cons_of_mem _ hb)
    refine ⟨p2, g, ?_⟩
    rw [List.map_cons]
    unfold forLoop
    rw [h1]
    dsimp only
    rw [h2, seqR_next]
    exact h3
/-- rows gathered one by one -/
theorem loop_rows {α γ : Type} {enc : α → D} {tg : Tg} {body : Env → Res} (f : α → D) (mk : List D → γ → Env) {l : List α} {acc : List D} {g0 : γ} (hl : acc.length + l.length < LIM)
    (hs : ∀ a ∈ l, ∀ (s : List D) (g : γ), s.length < LIM → ∃ ρ1 g', bindTg tg (enc a) (mk s g) = some ρ1 ∧ body ρ1 = .next (mk (s ++ [f a]) g')) : ∃ g, forLoop tg body (l.map enc) (mk acc g0) = .next (mk (acc ++ l.map f) g) := by
  induction l generalizing acc g0 with
  | nil => exact ⟨g0, by simp [forLoop]⟩
  | cons a l ih =>
    rw [List.length_cons] at hl
    obtain ⟨ρ1, g', h1, h2⟩ := hs a List.mem_cons_self acc g0 (by omega)
    obtain ⟨g, h3⟩ := ih (acc := acc ++ [f a]) (g0 := g') (by rw [List.length_append, List.length_singleton]; omega) fun b hb => hs b (List.mem_cons_of_mem _ hb)
    refine ⟨g, ?_⟩
    rw [List.map_cons]
    unfold forLoop
    rw [h1]
    dsimp only
    rw [h2, seqR_next, h3, List.append_assoc]
    rfl
section
variable {fns : List Fn} {i : Nat}
/-! ### the column -/
def optD : Option Nat → D
  | none => .none
  | some c => .int (c : Int)
theorem find_some (z : Nat → Int) (l : List Nat) : (match l.findSome? fun c => if 0 < z c then some (PyData.int (c : Int)) else none with | some d => R.ok d | none => .ok .none) = .ok (optD (l.find? fun c => decide (0 < z c))) := by
  induction l with
  | nil => rfl
  | cons a l ih =>
    rw [List.findSome?_cons, List.find?_cons]
    by_cases h : 0 < z a
    · rw [if_pos h, decide_eq_true h]; rfl
    · rw [if_neg h, decide_eq_false h]; exact ih
theorem entering_ok (hF : fns[i]? = some F_entering_column) {m n w : Nat} (f : Nat → Nat → Int) (hn : n ≤ w) (h1 : n ≤ 1000) : At fns 1 i [tabD (m + 1) w f, .int (n : Int)] (.ok (optD (ecol (f m) n))) := by
  refine At.mk hF rfl fun k hk => ?_
  simp_arith only [F_entering_column, List.map_cons, List.map_nil, List.length_cons, List.length_nil, List.replicate_succ, List.replicate_zero, List.append_nil, Nat.zero_add, Nat.reduceAdd, Nat.reduceSub, it_rangeN h1]
  rw [fin_first (enc := fun i : Nat => PyData.int (i : Int)) (l := List.range n) (r := .ok .none) (fun c : Nat => if 0 < f m c then some (PyData.int (c : Int)) else none) (fun g : Cell => [.val (tabD (m + 1) w f), .val (.int (n : Int)), g]) (fun c hc g => ?_) fun g => ?_]
  · exact find_some (f m) (List.range n)
  · have hc' := List.mem_range.mp hc
    refine ⟨_, .val (.int (c : Int)), rfl, ?_⟩
    simp_arith [idx_tabL, idx_row (show c < w by omega)]
    by_cases z : 0 < f m c
    · simp_arith only [z, decide_true]
    · simp_arith only [z, decide_false]
  · simp_arith only []
/-! ### the row -/
/-- the table's entries: the rows, then the last row -/
def ent (m n : Nat) (S : Det.St) (i j : Nat) : Int := if i < m then S.T i j else zr m (gA n m) S j
def Small (h w : Nat) (f : Nat → Nat → Int) : Prop := ∀ i, i < h → ∀ j, j < w → -1000000000 < f i j ∧ f i j < 1000000000
theorem mul_ok {a b : Int} (h : -1000000000 < a ∧ a < 1000000000) : dBin .mul (.int a) (.int b) = .ok (.int (a * b)) := by
  show (if mulOk a b = true then R.ok (PyData.int (a * b)) else .bad) = _
  rw [if_pos]
  unfold mulOk
  simp -implicitDefEqProofs only [Bool.or_eq_true, Bool.and_eq_true, decide_eq_true_eq]
  omega
def basD (m : Nat) (b : Nat → Nat) : D := .list ((List.range m).map fun i => .int (b i : Int))
theorem idx_bas {m : Nat} {b : Nat → Nat} {j : Nat} (hj : j < m) : dIdx (basD m b) (.int (j : Int)) = .ok (.int (b j : Int)) := idx_rg hj
theorem lrow_fold (R : Nat) (S : Det.St) (c : Nat) : ∀ k, (List.range k).foldl (lstep R S c) none = lrow R S c k
  | 0 => rfl
  | k + 1 => by rw [List.range_succ, List.foldl_append, lrow_fold R S c k]; rfl
theorem leaving_ok (hF : fns[i]? = some F_leaving_row) {m n : Nat} (S : Det.St) {c : Nat} (hc : c < n + m + 1) (h1 : m ≤ 1000) (hB : Small (m + 1) (n + m + 1) (ent m n S)) :
    At fns 1 i [tabD (m + 1) (n + m + 1) (ent m n S), basD m S.b, .int (c : Int)] (.ok (optD (lrow (n + m) S c m))) := by
  refine At.mk hF rfl fun k hk => ?_
  have e0 : ((m + 1 : Nat) : Int) - 1 = (m : Int) := by omega
  simp_arith only [F_leaving_row, List.map_cons, List.map_nil, List.length_cons, List.length_nil, List.replicate_succ, List.replicate_zero, List.append_nil, Nat.zero_add, Nat.reduceAdd, Nat.reduceSub, len_tab, e0, it_rangeN h1]
  obtain ⟨_, g, hL⟩ := loop_inv (enc := fun i : Nat => PyData.int (i : Int)) (tg := .one 4) (body := bodyOf (evFn fns k) (.cons (.ite (.cmp .gt (.idx (.idx (.var 0) (.var 4)) (.var 2)) (.cst (.int 0))) (.cons (.ite (.isN false (.var 3)) (.cons (.asg 3 (.var 4)) .nil) (.cons (.asg 5 (.bin .mul (.idx (.idx (.var 0) (.var 4)) (.neg (.cst (.int 1)))) (.idx (.idx (.var 0) (.var 3)) (.var 2)))) (.cons (.asg 6 (.bin .mul (.idx (.idx (.var 0) (.var 3)) (.neg (.cst (.int 1)))) (.idx (.idx (.var 0) (.var 4)) (.var 2)))) (.cons (.ite (.or (.cmp .lt (.var 5) (.var 6)) (.and (.cmp .eq (.var 5) (.var 6)) (.cmp .lt (.idx (.var 1) (.var 4)) (.idx (.var 1) (.var 3))))) (.cons (.asg 3 (.var 4)) .nil) .nil) .nil)))) .nil) .nil) .nil))
    (fun best : Option Nat => ∀ j, best = some j → j < m) (lstep (n + m) S c) (fun best (g : Cell × Cell × Cell) => [.val (tabD (m + 1) (n + m + 1) (ent m n S)), .val (basD m S.b), .val (.int (c : Int)), .val (optD best), g.1, g.2.1, g.2.2]) (l := List.range m) (s0 := none) (g0 := (.un, .un, .un)) (fun j h => by cases h) (fun j hj best g hb => by
      have hj' := List.mem_range.mp hj
      have t1 := idx_tab (w := n + m + 1) (f := ent m n S) (show j < m + 1 by omega)
      have t2 := idx_row (w := n + m + 1) (f := ent m n S j) hc
      have t3 : ent m n S j c = S.T j c := if_pos hj'
      have t4 : ent m n S j (n + m) = S.T j (n + m) := if_pos hj'
      refine ⟨fun q hq => ?_, ?_⟩
      · unfold lstep at hq
        split at hq
        · cases best with
          | none => cases hq; exact hj'
          | some b =>
            dsimp only at hq
            split at hq
            · cases hq; exact hj'
            · exact hb q hq
        · exact hb q hq
      unfold lstep
      by_cases z : 0 < S.T j c
      · rw [if_pos z]
        cases best with
        | none =>
          refine ⟨_, (.val (.int (j : Int)), g.2.1, g.2.2), rfl, ?_⟩
          simp_arith [t1, t2, t3, z, decide_true, optD]
        | some b =>
          have hb' := hb b rfl
          have u1 := idx_tab (w := n + m + 1) (f := ent m n S) (show b < m + 1 by omega)
          have u2 := idx_row (w := n + m + 1) (f := ent m n S b) hc
          have u3 : ent m n S b c = S.T b c := if_pos hb'
          have u4 : ent m n S b (n + m) = S.T b (n + m) := if_pos hb'
          have m1 := mul_ok (a := S.T j (n + m)) (b := S.T b c) (by rw [← t4]; exact hB j (by omega) (n + m) (by omega))
          have m2 := mul_ok (a := S.T b (n + m)) (b := S.T j c) (by rw [← u4]; exact hB b (by omega) (n + m) (by omega))
          refine ⟨_, (.val (.int (j : Int)), .val (.int (S.T j (n + m) * S.T b c)), .val (.int (S.T b (n + m) * S.T j c))), rfl, ?_⟩
          simp_arith [t1, t2, t3, t4, u1, u2, u3, u4, idx_rowL, z, decide_true, optD, m1, m2]
          unfold bet
          by_cases y1 : S.T j (n + m) * S.T b c < S.T b (n + m) * S.T j c
          · simp_arith only [y1, decide_true, optD]
          · by_cases y2 : S.T j (n + m) * S.T b c = S.T b (n + m) * S.T j c
            · by_cases y3 : S.b j < S.b b
              · simp_arith only [Int.lt_irrefl, y1, y2, y3, decide_true, decide_false, idx_bas hj', idx_bas hb', optD, Int.ofNat_lt]
              · simp_arith only [Int.lt_irrefl, y1, y2, y3, decide_true, decide_false, idx_bas hj', idx_bas hb', optD, Int.ofNat_lt]
            · simp_arith only [y1, y2, decide_false, optD]
      · rw [if_neg z]
        refine ⟨_, (.val (.int (j : Int)), g.2.1, g.2.2), rfl, ?_⟩
        simp_arith [t1, t2, t3, z, decide_false])
  rw [lrow_fold] at hL
  rw [show (Cell.val PyData.none) = Cell.val (optD none) from rfl, hL]
  simp_arith only []
/-! ### the pivot -/
theorem pivot_ok (hF : fns[i]? = some F_pivot) {h w r c : Nat} {s : Int} (f : Nat → Nat → Int) (hr : r < h) (hc : c < w) (h1 : h ≤ 1000) (hs : 0 < s ∧ s < 1073741824) (hB : Small h w f) :
    At fns 1 i [tabD h w f, .int (r : Int), .int (c : Int), .int s] (.ok (tabD h w fun i j => if i = r then f i j else (f i j * f r c - f r j * f i c) / s)) := by
  refine At.mk hF rfl fun k hk => ?_
  simp_arith only [F_pivot, List.map_cons, List.map_nil, List.length_cons, List.length_nil, List.replicate_succ, List.replicate_zero, List.append_nil, Nat.zero_add, Nat.reduceAdd, Nat.reduceSub, idx_tab hr, enum_tab]
  obtain ⟨g, hL⟩ := loop_rows (enc := fun i : Nat => PyData.tuple [.int (i : Int), rowD w (f i)]) (tg := .many [6, 7]) (body := bodyOf (evFn fns k) (.cons (.ite (.cmp .eq (.var 6) (.var 1)) (.cons (.app 5 (.var 7)) .nil) (.cons (.asg 8 (.idx (.var 7) (.var 2))) (.cons (.app 5 (.comp (.bin .div (.bin .sub (.bin .mul (.var 9) (.idx (.var 4) (.var 2))) (.bin .mul (.var 10) (.var 8))) (.var 3)) (.many [9, 10]) (.zip (.var 7) (.var 4)) .none)) .nil))) .nil))
    (fun i => rowD w fun j => if i = r then f i j else (f i j * f r c - f r j * f i c) / s) (fun acc (g : Cell × Cell × Cell) => [.val (tabD h w f), .val (.int (r : Int)), .val (.int (c : Int)), .val (.int s), .val (rowD w (f r)), .own acc, g.1, g.2.1, g.2.2, .un, .un]) (l := List.range h) (acc := []) (g0 := (.un, .un, .un)) (by rw [List.length_range]; unfold LIM; simp; omega) (fun i hi acc g hacc => by
      have hi' := List.mem_range.mp hi
      have hacc' : acc.length < 100000 := hacc
      by_cases z : i = r
      · subst z
        refine ⟨_, (.val (.int (i : Int)), .val (rowD w (f i)), g.2.2), rfl, ?_⟩
        simp_arith [hacc', decide_true, if_pos, LIM]
      · refine ⟨_, (.val (.int (i : Int)), .val (rowD w (f i)), .val (.int (f i c))), rfl, ?_⟩
        have z' : ¬ (i : Int) = (r : Int) := by omega
        simp_arith [z', decide_false, idx_row hc, zip_row]
        rw [comp_map (enc := fun j : Nat => PyData.tuple [.int (f i j), .int (f r j)]) (fun j => PyData.int ((f i j * f r c - f r j * f i c) / s)) fun j hj => by
          have hj' := List.mem_range.mp hj
          have m1 := mul_ok (a := f i j) (b := f r c) (hB i hi' j hj')
          have m2 := mul_ok (a := f r j) (b := f i c) (hB r hr j hj')
          simp_arith [idx_row hc, m1, m2, bin_div _ _ hs]]
        simp_arith only [hacc', LIM]
        rw [show (rowD w fun j => if i = r then f i j else (f i j * f r c - f r j * f i c) / s) = rowD w fun j => (f i j * f r c - f r j * f i c) / s by
          congr 1; funext j; rw [if_neg z]]
        rfl)
  rw [hL]
  simp_arith only []
  rfl
end
end Qw

set_option Elab.async false
set_option linter.all false
set_option maxRecDepth 100000
/-! The tableau's entries are small. By an AI agent. -/
namespace Qw.Det
/-- p columns of entries -1, 0, 1; then columns with one entry; a right side of entries -1, 0, 1 -/
structure Shp (m n p : Nat) (A : Nat → Col) : Prop where
  sm : ∀ j, j < n + m + 1 → ∀ r, r < m → ab (A j r) ≤ 1
  un : ∀ j, p ≤ j → j < n + m → ∃ q, q < m ∧ ∃ e : Int, (e = 1 ∨ e = -1) ∧ ∀ r, r < m → A j r = e * unit q r
section
variable {m n p : Nat} {A : Nat → Col} {S : St}
theorem fac_mono : ∀ {a b : Nat}, a ≤ b → fac a ≤ fac b := by
  intro a b h
  induction b with
  | zero => have : a = 0 := by omega
            subst this; exact Int.le_refl _
  | succ b ih =>
    by_cases e : a = b + 1
    · subst e; exact Int.le_refl _
    · have h1 := ih (by omega)
      have h2 := fac_nonneg b
      show fac a ≤ ((b + 1 : Nat) : Int) * fac b
      have h3 : 1 * fac b ≤ ((b + 1 : Nat) : Int) * fac b := Int.mul_le_mul_of_nonneg_right (by omega) h2
      omega
theorem few_basic (I : Inv m (n + m + 1) A S) : (((List.range m).filter fun k => decide (S.b k < p)).length) ≤ p := by
  have nd : (((List.range m).filter fun k => decide (S.b k < p)).map S.b).Nodup := by
    show List.Pairwise _ _
    rw [List.pairwise_map]
    refine List.Pairwise.imp_of_mem (fun {a b} ha hb hab e => ?_) (List.Pairwise.filter _ (List.pairwise_lt_range (n := m)))
    have h1 := List.mem_range.mp (List.mem_filter.mp ha).1
    have h2 := List.mem_range.mp (List.mem_filter.mp hb).1
    have := b_inj I h1 h2 e
    omega
  have := nodup_len (b := List.range p) nd fun x hx => by
    obtain ⟨k, hk, rfl⟩ := List.mem_map.mp hx
    exact List.mem_range.mpr (of_decide_eq_true (List.mem_filter.mp hk).2)
  rw [List.length_map, List.length_range] at this
  exact this
theorem ent_bd (H : Shp m n p A) (I : Inv m (n + m + 1) A S) (hb : ∀ i, i < m → S.b i < n + m) {i j : Nat} (hi : i < m) (hj : j < n + m + 1) : ab (S.T i j) ≤ fac (p + 1) := by
  rw [I.ent hi hj]
  have hsp : ((List.range m).filter fun k => decide (S.b k < p) || decide (k = i)).length ≤ p + 1 := by
    have h1 := few_basic (p := p) I
    have h2 : ∀ l : List Nat, l.Nodup → (l.filter fun k => decide (S.b k < p) || decide (k = i)).length ≤ (l.filter fun k => decide (S.b k < p)).length + (if i ∈ l then 1 else 0) := by
      intro l
      induction l with
      | nil => intro _; simp
      | cons a l ih =>
        intro nd
        rw [List.nodup_cons] at nd
        have := ih nd.2
        by_cases z : S.b a < p
        · rw [List.filter_cons_of_pos (by simp [z]), List.filter_cons_of_pos (by simp [z]), List.length_cons, List.length_cons]
          have : (if i ∈ l then 1 else 0) ≤ (if i ∈ a :: l then 1 else 0) := by
            by_cases y : i ∈ l
            · rw [if_pos y, if_pos (List.mem_cons_of_mem _ y)]; exact Nat.le_refl _
            · rw [if_neg y]; exact Nat.zero_le _
          omega
        · by_cases y : a = i
          · subst y
            rw [List.filter_cons_of_pos (by simp), List.filter_cons_of_neg (by simp [z]), List.length_cons, if_pos List.mem_cons_self]
            rw [if_neg nd.1] at this
            omega
          · rw [List.filter_cons_of_neg (by simp [z, y]), List.filter_cons_of_neg (by simp [z])]
            have e : (i ∈ a :: l) ↔ i ∈ l := by
              constructor
              · intro h
                rcases List.mem_cons.mp h with e | e
                · exact absurd e.symm y
                · exact e
              · exact List.mem_cons_of_mem _
            simp only [e]
            exact this
    have h3 := h2 (List.range m) List.nodup_range
    have : (if i ∈ List.range m then 1 else 0) ≤ 1 := by split <;> omega
    omega
  refine Int.le_trans (det_fact ((List.range m).filter fun k => decide (S.b k < p) || decide (k = i)) (upd (bas A S) i (A j)) ((List.nodup_range).filter _) (fun k hk => List.mem_range.mp (List.mem_filter.mp hk).1) (fun k hk hn => ?_) (fun k hk r hr => ?_)) (fac_mono hsp)
  · have hn' : ¬ (S.b k < p) ∧ k ≠ i := by
      have := fun h => hn (List.mem_filter.mpr ⟨List.mem_range.mpr hk, h⟩)
      simp only [Bool.or_eq_true, decide_eq_true_eq] at this
      exact ⟨fun h => this (.inl h), fun h => this (.inr h)⟩
    obtain ⟨q, hq, e, he, hr⟩ := H.un (S.b k) (by omega) (hb k hk)
    refine ⟨q, hq, e, he, fun r hr' => ?_⟩
    rw [upd_ne hn'.2]
    exact hr r hr'
  · by_cases e : k = i
    · subst e; rw [upd_self]; exact H.sm j hj r hr
    · rw [upd_ne e]; exact H.sm _ (by have := hb k (List.mem_range.mp (List.mem_filter.mp hk).1); omega) r hr
theorem s_bd (H : Shp m n p A) (I : Inv m (n + m + 1) A S) (hb : ∀ i, i < m → S.b i < n + m) : ab S.s ≤ fac p := by
  rw [← I.dt]
  refine Int.le_trans (det_fact ((List.range m).filter fun k => decide (S.b k < p)) (bas A S) ((List.nodup_range).filter _) (fun k hk => List.mem_range.mp (List.mem_filter.mp hk).1) (fun k hk hn => ?_) (fun k hk r hr => ?_)) (fac_mono (few_basic I))
  · have hn' : ¬ (S.b k < p) := fun h => hn (List.mem_filter.mpr ⟨List.mem_range.mpr hk, decide_eq_true h⟩)
    exact H.un (S.b k) (by omega) (hb k hk)
  · exact H.sm _ (by have := hb k (List.mem_range.mp (List.mem_filter.mp hk).1); omega) r hr
theorem sumN_le {F : Int} {f : Nat → Int} : ∀ {k : Nat}, (∀ i, i < k → f i ≤ F) → sumN k f ≤ (k : Int) * F
  | 0, _ => by show (0 : Int) ≤ _; rw [show ((0 : Nat) : Int) = 0 from rfl, Int.zero_mul]; exact Int.le_refl _
  | k + 1, h => by
    have h1 := sumN_le fun i (hi : i < k) => h i (by omega)
    have h2 := h k (by omega)
    show sumN k f + f k ≤ ((k + 1 : Nat) : Int) * F
    rw [show ((k + 1 : Nat) : Int) = (k : Int) + 1 from rfl, Int.add_mul, Int.one_mul]
    omega
theorem z_bd (H : Shp m n p A) (I : Inv m (n + m + 1) A S) (hb : ∀ i, i < m → S.b i < n + m) {j : Nat} (hj : j < n + m + 1) : ab (zr m (gA n m) S j) ≤ (m : Int) * fac (p + 1) + fac (p + 1) := by
  unfold zr
  have g1 : ∀ x, ab (gA n m x) ≤ 1 := fun x => by unfold gA ab; split <;> split <;> omega
  have h1 : ab (sumN m fun i => gA n m (S.b i) * S.T i j) ≤ (m : Int) * fac (p + 1) := by
    refine Int.le_trans (ab_sum _ _) (sumN_le fun i hi => ?_)
    rw [ab_mul]
    have := ent_bd H I hb hi hj
    have y := g1 (S.b i)
    have z : ab (gA n m (S.b i)) * ab (S.T i j) ≤ 1 * ab (S.T i j) := Int.mul_le_mul_of_nonneg_right y (ab_nonneg _)
    omega
  have h2 : ab (- (gA n m j * S.s)) ≤ fac (p + 1) := by
    have e : ab (-(gA n m j * S.s)) = ab (gA n m j * S.s) := by unfold ab; split <;> split <;> omega
    rw [e, ab_mul]
    have := s_bd H I hb
    have y := g1 j
    have z : ab (gA n m j) * ab S.s ≤ 1 * ab S.s := Int.mul_le_mul_of_nonneg_right y (ab_nonneg _)
    have := fac_mono (show p ≤ p + 1 by omega)
    omega
  have := ab_add (sumN m fun i => gA n m (S.b i) * S.T i j) (-(gA n m j * S.s))
  rw [← Int.sub_eq_add_neg] at this
  omega
theorem ab_le {x F : Int} (h : ab x ≤ F) : -F ≤ x ∧ x ≤ F := by unfold ab at h; split at h <;> omega
end
end Qw.Det

set_option Elab.async false
set_option linter.all false
set_option maxRecDepth 100000
set_option maxHeartbeats 4000000
/-! The simplex method's loop, walked. By an AI agent. -/
namespace Qw
open PySem L2 Qw.Det
section
variable {fns : List Fn} {m n p : Nat} {A : Nat → Col}
theorem it_stop {dec : Det.St → Option (Nat × Nat)} {S : Det.St} (h : dec S = none) : ∀ k, it dec k S = S
  | 0 => rfl
  | k + 1 => by
    show stp dec (it dec k S) = S
    rw [it_stop h k]
    unfold stp
    rw [h]
/-- what the walk wants of a state -/
structure Ok (m n p : Nat) (A : Nat → Col) : Prop where
  hu : ∀ k, k < m → ∀ q, q < m → A (n + k) q = unit k q
  shp : Shp m n p A
  hp : p ≤ 7
  hm : m ≤ 200
  hn : n ≤ 300
theorem ab_small {x F : Int} (h : ab x ≤ F) (hF : F < 1000000000) : -1000000000 < x ∧ x < 1000000000 := by
  have := ab_le h
  omega
theorem fac8 {p : Nat} (h : p ≤ 7) : Det.fac (p + 1) ≤ 40320 := Int.le_trans (fac_mono (show p + 1 ≤ 8 by omega)) (by decide)
theorem Ok.small (K : Ok m n p A) {S : Det.St} (G : Good m n A S) : Small (m + 1) (n + m + 1) (ent m n S) := by
  intro i hi j hj
  have f8 := fac8 K.hp
  unfold ent
  by_cases z : i < m
  · rw [if_pos z]
    exact ab_small (ent_bd K.shp G.inv G.bR z hj) (by omega)
  · rw [if_neg z]
    have h1 := z_bd K.shp G.inv G.bR hj
    have h2 : (m : Int) * Det.fac (p + 1) ≤ 200 * Det.fac (p + 1) := Int.mul_le_mul_of_nonneg_right (by have := K.hm; omega) (fac_nonneg _)
    exact ab_small h1 (by omega)
theorem Ok.scale (K : Ok m n p A) {S : Det.St} (G : Good m n A S) : 0 < S.s ∧ S.s < 1073741824 := by
  have h1 := ab_le (s_bd K.shp G.inv G.bR)
  have h2 := fac8 K.hp
  have h3 := fac_mono (show p ≤ p + 1 by omega)
  exact ⟨G.inv.pos, by omega⟩
theorem dec_of (K : Ok m n p A) {S : Det.St} (G : Good m n A S) : (ecol (zr m (gA n m) S) n = none ∧ dec m n S = none) ∨ ∃ r c, ecol (zr m (gA n m) S) n = some c ∧ lrow (n + m) S c m = some r ∧ dec m n S = some (r, c) ∧ r < m ∧ c < n ∧ Good m n A (piv S r c) := by
  cases e : ecol (zr m (gA n m) S) n with
  | none => exact .inl ⟨rfl, by unfold dec; rw [e]⟩
  | some c =>
    right
    cases e2 : lrow (n + m) S c m with
    | none =>
      exfalso
      have hd : dec m n S = none := by unfold dec; rw [e]; dsimp only; rw [e2]
      obtain ⟨c1, c2, _⟩ := ecol_some e
      have := dec_none G hd c c1
      omega
    | some r =>
      have hd : dec m n S = some (r, c) := by unfold dec; rw [e]; dsimp only; rw [e2]
      obtain ⟨r1, c1, _, _, _, _, G'⟩ := (alg K.hu).ok S r c G hd
      exact ⟨r, c, rfl, e2, hd, r1, c1, G'⟩
/-- the entries behind a pivot -/
theorem ent_piv (K : Ok m n p A) {S : Det.St} (G : Good m n A S) {r c : Nat} (hr : r < m) (hc : c < n) {i j : Nat} (hi : i < m + 1) (hj : j < n + m + 1) :
    (if i = r then ent m n S i j else (ent m n S i j * ent m n S r c - ent m n S r j * ent m n S i c) / S.s) = ent m n (piv S r c) i j := by
  unfold ent
  rw [if_pos hr, if_pos hr]
  by_cases z : i < m
  · rw [if_pos z, if_pos z, if_pos z]
    show _ = if i = r then S.T r j else (S.T i j * S.T r c - S.T r j * S.T i c) / S.s
    by_cases y : i = r
    · rw [if_pos y, if_pos y, y]
    · rw [if_neg y, if_neg y]
  · rw [if_neg z, if_neg z, if_neg z, if_neg (by omega)]
    have h := z_piv (g := gA n m) G.inv (r := r) (c := c) (j := j) hr (by omega) hj (if_neg (by omega))
    rw [Int.mul_comm (S.T r j), ← h, Int.mul_ediv_cancel_left _ (by have := G.inv.pos; omega)]
theorem tab_congr {h w : Nat} {f g : Nat → Nat → Int} (e : ∀ i, i < h → ∀ j, j < w → f i j = g i j) : tabD h w f = tabD h w g := by
  unfold tabD rowD
  congr 1
  refine List.map_congr_left fun i hi => ?_
  congr 1
  refine List.map_congr_left fun j hj => ?_
  rw [e i (List.mem_range.mp hi) j (List.mem_range.mp hj)]
theorem bas_set {m : Nat} {b : Nat → Nat} {r c : Nat} (hr : r < m) : ((List.range m).map fun i => PyData.int (b i : Int)).set r (.int (c : Int)) = (List.range m).map fun i => PyData.int ((if i = r then c else b i : Nat) : Int) := by
  refine List.ext_getElem? fun k => ?_
  rw [List.getElem?_set, List.length_map, List.length_range, List.getElem?_map, List.getElem?_map]
  by_cases h : r = k
  · subst h
    rw [if_pos rfl, if_pos hr, List.getElem?_range hr]
    simp
  · rw [if_neg h]
    by_cases hk : k < m
    · rw [List.getElem?_range hk]
      simp -implicitDefEqProofs only [Option.map_some]
      rw [if_neg fun e => h e.symm]
    · rw [List.getElem?_eq_none (by rw [List.length_range]; omega)]
      rfl
/-- the environment of solve's loop -/
def envW (m n : Nat) (E0 c7 : Cell) (S : Det.St) (g : Cell × Cell × Cell × Cell × Cell) : Env :=
  [E0, .val (.int (n : Int)), .val (.int (m : Int)), .val (tabD (m + 1) (n + m + 1) (ent m n S)), g.1, g.2.1, g.2.2.1, c7, g.2.2.2.1, .val (optD (ecol (zr m (gA n m) S) n)), .own ((List.range m).map fun i => .int (S.b i : Int)), .val (.int S.s), g.2.2.2.2, .un, .un]
def bodyW (i1 i2 i3 : Nat) : Ss := (.cons (.asg 8 (.call i2 (.cons (.var 3) (.cons (.var 10) (.cons (.var 9) .nil))))) (.cons (.asg 12 (.idx (.idx (.var 3) (.var 8)) (.var 9))) (.rel 3 (.cons (.asg 3 (.call i3 (.cons (.var 3) (.cons (.var 8) (.cons (.var 9) (.cons (.var 11) .nil)))))) (.cons (.asg 11 (.var 12)) (.cons (.setIx 10 (.var 8) (.var 9)) (.cons (.asg 9 (.call i1 (.cons (.var 3) (.cons (.var 1) .nil)))) .nil)))))))
theorem ent_last (S : Det.St) : ent m n S m = zr m (gA n m) S := by
  funext j
  exact if_neg (by omega)
theorem ixN_nat {k j : Nat} (h : j < k) : ixN k (j : Int) = some j := by
  unfold ixN
  rw [if_pos (by omega), if_pos (by omega)]
  simp
theorem while_ok {i1 i2 i3 : Nat} (h1 : fns[i1]? = some F_entering_column) (h2 : fns[i2]? = some F_leaving_row) (h3 : fns[i3]? = some F_pivot) (K : Ok m n p A) {k : Nat} (hk : 1 ≤ k) (E0 c7 : Cell) :
    ∀ (t : Nat) (S : Det.St), Good m n A S → dec m n (it (dec m n) t S) = none → ∀ fuel, t < fuel → ∀ g, ∃ g', whileLoop (testOf (evFn fns k) (.isN true (.var 9))) (bodyOf (evFn fns k) (bodyW i1 i2 i3)) fuel (envW m n E0 c7 S g) = .next (envW m n E0 c7 (it (dec m n) t S) g')
  | t, S, G, hd, 0, hf, g => by omega
  | t, S, G, hd, fuel + 1, hf, g => by
    rcases dec_of K G with ⟨e1, e2⟩ | ⟨r, c, e1, e2, e3, r1, c1, G'⟩
    · refine ⟨g, ?_⟩
      rw [it_stop e2]
      unfold whileLoop
      simp_arith [envW, e1, optD]
    · obtain ⟨t', rfl⟩ : ∃ t', t = t' + 1 := by
        cases t with
        | zero => rw [show it (dec m n) 0 S = S from rfl, e3] at hd; cases hd
        | succ t' => exact ⟨t', rfl⟩
      have hit : it (dec m n) (t' + 1) S = it (dec m n) t' (piv S r c) := by
        rw [it_add]
        show it (dec m n) t' (stp (dec m n) S) = _
        unfold stp
        rw [e3]
      rw [hit] at hd ⊢
      obtain ⟨g', hw⟩ := while_ok h1 h2 h3 K hk E0 c7 t' (piv S r c) G' hd fuel (by omega) (g.1, g.2.1, g.2.2.1, .val (.int (r : Int)), .val (.int (S.T r c)))
      refine ⟨g', ?_⟩
      rw [← hw]
      have f1 : ∀ f : Nat → Nat → Int, evFn fns k i1 [tabD (m + 1) (n + m + 1) f, .int (n : Int)] = .ok (optD (ecol (f m) n)) := fun f => entering_ok h1 f (by omega) (by have := K.hn; omega) k hk
      have f2 := leaving_ok h2 S (show c < n + m + 1 by omega) (by have := K.hm; omega) (K.small G) k hk
      have f3 := pivot_ok h3 (h := m + 1) (w := n + m + 1) (r := r) (c := c) (s := S.s) (ent m n S) (by omega) (by omega) (by have := K.hm; omega) (K.scale G) (K.small G) k hk
      rw [tab_congr fun i hi j hj => ent_piv K G r1 c1 hi hj] at f3
      have t1 := idx_tab (w := n + m + 1) (f := ent m n S) (show r < m + 1 by omega)
      have t2 := idx_row (w := n + m + 1) (f := ent m n S r) (show c < n + m + 1 by omega)
      have t3 : ent m n S r c = S.T r c := if_pos r1
      have eb : basD m S.b = .list ((List.range m).map fun i => .int (S.b i : Int)) := rfl
      rw [eb, e2] at f2
      rw [show whileLoop (testOf (evFn fns k) (.isN true (.var 9))) (bodyOf (evFn fns k) (bodyW i1 i2 i3)) (fuel + 1) (envW m n E0 c7 S g) = rThen (envW m n E0 c7 S g) (testOf (evFn fns k) (.isN true (.var 9)) (envW m n E0 c7 S g)) fun b => if b = true then seqR (bodyOf (evFn fns k) (bodyW i1 i2 i3) (envW m n E0 c7 S g)) fun ρ' => whileLoop (testOf (evFn fns k) (.isN true (.var 9))) (bodyOf (evFn fns k) (bodyW i1 i2 i3)) fuel ρ' else .next (envW m n E0 c7 S g) from rfl]
      have hT : testOf (evFn fns k) (.isN true (.var 9)) (envW m n E0 c7 S g) = .ok true := by
        simp_arith [envW, e1, optD]
      rw [hT]
      show seqR (bodyOf (evFn fns k) (bodyW i1 i2 i3) (envW m n E0 c7 S g)) _ = _
      have hB : bodyOf (evFn fns k) (bodyW i1 i2 i3) (envW m n E0 c7 S g) = .next (envW m n E0 c7 (piv S r c) (g.1, g.2.1, g.2.2.1, .val (.int (r : Int)), .val (.int (S.T r c)))) := by
        simp_arith [envW, bodyW, e1, f2, optD, t1, t2, t3, f3, List.length_map, List.length_range, ixN_nat r1, f1, ent_last, bas_set r1]
        rfl
      rw [hB]
      rfl
end
end Qw

set_option Elab.async false
set_option linter.all false
set_option maxRecDepth 100000
/-! A determinant with few columns of entries 0 and 1, up to signs of rows. By an AI agent. -/
namespace Qw.Det
def half : Nat → Int
  | 0 => 1
  | k + 1 => (((k + 2) / 2 : Nat) : Int) * half k
theorem half_nonneg : ∀ k, 0 ≤ half k
  | 0 => by decide
  | k + 1 => Int.mul_nonneg (by omega) (half_nonneg k)
/-- entries 0 or a sign, row by row -/
def Zo (m : Nat) (e : Col) (v : Col) : Prop := ∃ s : Int, (s = 1 ∨ s = -1) ∧ ∀ r, r < m → v r = 0 ∨ v r = s * e r
def On (m : Nat) (e : Col) (v : Col) : Prop := ∃ s : Int, (s = 1 ∨ s = -1) ∧ ∀ r, r < m → v r = s * e r
def Sg (m : Nat) (e : Col) : Prop := ∀ r, r < m → e r = 1 ∨ e r = -1
theorem Zo.small {m : Nat} {e v : Col} (he : Sg m e) (h : Zo m e v) {r : Nat} (hr : r < m) : ab (v r) ≤ 1 := by
  obtain ⟨s, hs, h⟩ := h
  rcases h r hr with z | z
  · rw [z]; decide
  · rw [z]
    rcases hs with a | a <;> rcases he r hr with b | b <;> rw [a, b] <;> decide
theorem On.small {m : Nat} {e v : Col} (he : Sg m e) (h : On m e v) {r : Nat} (hr : r < m) : ab (v r) ≤ 1 := by
  obtain ⟨s, hs, h⟩ := h
  rw [h r hr]
  rcases hs with a | a <;> rcases he r hr with b | b <;> rw [a, b] <;> decide
theorem len_two (p : Nat → Bool) (q : Nat → Bool) : ∀ l : List Nat, (l.filter fun x => p x && q x).length + (l.filter fun x => p x && !q x).length = (l.filter p).length
  | [] => rfl
  | x :: l => by
    have := len_two p q l
    cases e : p x <;> cases f : q x <;> simp [List.filter_cons, e, f] <;> omega
theorem det_half {m : Nat} {e : Col} (he : Sg m e) {o : Nat} (ho : o < m) : ∀ (sp : List Nat) (c : Mat), sp.Nodup → o ∉ sp → (∀ i ∈ sp, i < m) → (∀ i, i < m → i ∉ sp → i ≠ o → ∃ q, UnitC m c i q) → (∀ i ∈ sp, Zo m e (c i)) → On m e (c o) → ab (det m c) ≤ half sp.length
  | [], c, _, _, _, hu, _, hon => by
    have := det_fact [o] c (by simp) (fun i hi => by simp at hi; omega) (fun i hi hn => hu i hi (by simp) (by simpa using hn)) fun i hi r hr => by
      have : i = o := by simpa using hi
      subst this
      exact hon.small he hr
    exact this
  | i :: sp, c, nd, hos, hl, hu, hz, hon => by
    obtain ⟨n1, n2⟩ := List.nodup_cons.mp nd
    have hi := hl i List.mem_cons_self
    have hio : i ≠ o := fun z => hos (by rw [z]; exact List.mem_cons_self)
    have hos2 : o ∉ sp := fun z => hos (List.mem_cons_of_mem _ z)
    have hF := half_nonneg sp.length
    have hex : ∀ j, ∃ q, j < m → j ∉ i :: sp → j ≠ o → UnitC m c j q := fun j => by
      by_cases z : j < m ∧ j ∉ i :: sp ∧ j ≠ o
      · obtain ⟨q, hq⟩ := hu j z.1 z.2.1 z.2.2
        exact ⟨q, fun _ _ _ => hq⟩
      · exact ⟨0, fun a b d => absurd ⟨a, b, d⟩ z⟩
    obtain ⟨u, hu'⟩ : ∃ u : Nat → Nat, ∀ j, j < m → j ∉ i :: sp → j ≠ o → UnitC m c j (u j) := ⟨fun j => Classical.choose (hex j), fun j => Classical.choose_spec (hex j)⟩
    by_cases inj : ∀ j k, j < m → k < m → j ∉ o :: i :: sp → k ∉ o :: i :: sp → u j = u k → j = k
    · let non := (List.range m).filter fun j => !decide (j ∈ o :: i :: sp)
      let cov := non.map u
      have hnon : ∀ j, j ∈ non ↔ j < m ∧ j ∉ o :: i :: sp := fun j => by
        show j ∈ (List.range m).filter _ ↔ _
        rw [List.mem_filter, List.mem_range]
        simp
      have nnd : non.Nodup := List.nodup_range.filter _
      have cnd : cov.Nodup := by
        show List.Pairwise _ (non.map u)
        rw [List.pairwise_map]
        refine List.Pairwise.imp_of_mem (fun {a b} h1 h2 hne e => ?_) nnd
        exact hne (inj a b ((hnon a).mp h1).1 ((hnon b).mp h2).1 ((hnon a).mp h1).2 ((hnon b).mp h2).2 e)
      have hcl : cov.length = non.length := List.length_map _
      have h1 := filter_split (fun j => decide (j ∈ o :: i :: sp)) (List.range m)
      have h2 : ((List.range m).filter fun j => decide (j ∈ o :: i :: sp)).length ≤ (o :: i :: sp).length := nodup_len (List.nodup_range.filter _) fun x hx => by simpa using (List.mem_filter.mp hx).2
      have uj : ∀ j, j ∈ non → UnitC m c j (u j) := fun j hj => by
        have := (hnon j).mp hj
        refine hu' j this.1 (fun z => this.2 (List.mem_cons_of_mem _ z)) fun z => this.2 (by rw [z]; exact List.mem_cons_self)
      have h3 : cov.length ≤ ((List.range m).filter fun q => decide (q ∈ cov)).length := nodup_len cnd fun x hx => by
        rw [List.mem_filter, List.mem_range]
        obtain ⟨j, hj, rfl⟩ := List.mem_map.mp hx
        exact ⟨(uj j hj).1, decide_eq_true hx⟩
      have h4 := filter_split (fun q => decide (q ∈ cov)) (List.range m)
      rw [List.length_range] at h1 h4
      have hnl : non.length = ((List.range m).filter fun j => !decide (j ∈ o :: i :: sp)).length := rfl
      rw [List.length_cons, List.length_cons] at h2
      have hcnt : ((List.range m).filter fun q => !decide (q ∈ cov)).length ≤ sp.length + 2 := by omega
      -- one column of few entries
      have key : ∀ v : Col, Zo m e v → ((List.range m).filter fun q => !decide (q ∈ cov) && decide (v q ≠ 0)).length ≤ (sp.length + 2) / 2 → ab (det m (upd c i v)) ≤ half (sp.length + 1) := by
        intro v hv hlen
        rw [det_expand _ hi, upd_self]
        refine Int.le_trans (ab_sum _ _) ?_
        refine Int.le_trans (sumN_few hF (fun q => !decide (q ∈ cov) && decide (v q ≠ 0)) (fun q hq hp => ?_) fun q hq hp => ?_) ?_
        · show ab (v q * det m (upd (upd c i v) i (unit q))) ≤ _
          rw [ab_mul, upd_upd]
          have b1 := hv.small he hq
          have b2 := det_half he ho sp (upd c i (unit q)) n2 hos2 (fun j hj => hl j (List.mem_cons_of_mem _ hj)) (fun j hj hjn hjo => by
            by_cases z : j = i
            · subst z
              exact ⟨q, hq, 1, .inl rfl, fun r _ => by rw [upd_self, Int.one_mul]⟩
            · obtain ⟨w, hw⟩ := hu j hj (by simp [z, hjn]) hjo
              refine ⟨w, hw.1, ?_⟩
              obtain ⟨e, he, hr⟩ := hw.2
              exact ⟨e, he, fun r hr' => by rw [upd_ne z]; exact hr r hr'⟩) (fun j hj => by
            have z : j ≠ i := fun e => n1 (by rw [← e]; exact hj)
            rw [upd_ne z]
            exact hz j (List.mem_cons_of_mem _ hj)) (by rw [upd_ne (fun z => hio z.symm)]; exact hon)
          have : ab (v q) * ab (det m (upd c i (unit q))) ≤ 1 * half sp.length := Int.mul_le_mul b1 b2 (ab_nonneg _) (by omega)
          omega
        · show ab (v q * det m (upd (upd c i v) i (unit q))) ≤ 0
          rw [upd_upd]
          by_cases hv0 : v q = 0
          · rw [hv0, Int.zero_mul]; decide
          · have hq2 : q ∈ cov := by
              rw [Bool.and_eq_false_iff] at hp
              rcases hp with z | z
              · simpa using z
              · exact absurd (of_decide_eq_false z) (by simp [hv0])
            obtain ⟨j, hj, ej⟩ := List.mem_map.mp hq2
            have hj' := (hnon j).mp hj
            have hji : i ≠ j := fun z => hj'.2 (by rw [← z]; simp)
            have uj' := uj j hj
            rw [ej] at uj'
            rw [det_par hi hj'.1 hji (q := q) ⟨hq, 1, .inl rfl, fun r _ => by rw [upd_self, Int.one_mul]⟩ ⟨uj'.1, (by
              obtain ⟨e, he, hr⟩ := uj'.2
              exact ⟨e, he, fun r hr' => by rw [upd_ne (fun z => hji z.symm)]; exact hr r hr'⟩)⟩, Int.mul_zero]
            decide
        · show _ ≤ (((sp.length + 2) / 2 : Nat) : Int) * half sp.length
          exact Int.mul_le_mul_of_nonneg_right (by omega) hF
      have h5 := len_two (fun q => !decide (q ∈ cov)) (fun q => decide (c i q ≠ 0)) (List.range m)
      by_cases hfew : ((List.range m).filter fun q => !decide (q ∈ cov) && decide (c i q ≠ 0)).length ≤ (sp.length + 2) / 2
      · have := key (c i) (hz i List.mem_cons_self) hfew
        rw [upd_same] at this
        exact this
      · obtain ⟨s, hs, hv⟩ := hz i List.mem_cons_self
        obtain ⟨t, ht, hw⟩ := hon
        have hst : s * t * t = s := by rcases ht with a | a <;> rw [a] <;> omega
        have hd : det m (upd c i fun r => 1 * c i r + (-(s * t)) * c o r) = det m c := by
          rw [det_lin hi, upd_same, det_alt (c := upd c i (c o)) hi ho hio (by rw [upd_self, upd_ne (fun z => hio z.symm)]), Int.one_mul, Int.mul_zero, Int.add_zero]
        have hval : ∀ r, r < m → 1 * c i r + (-(s * t)) * c o r = c i r - s * e r := fun r hr => by
          rw [hw r hr, ← Int.mul_assoc, Int.neg_mul, hst, Int.one_mul, Int.neg_mul]
          omega
        have hne : ∀ r, r < m → s * e r ≠ 0 := fun r hr => by
          rcases hs with a | a <;> rcases he r hr with b | b <;> rw [a, b] <;> decide
        have := key (fun r => 1 * c i r + (-(s * t)) * c o r) ⟨-s, by rcases hs with a | a <;> rw [a] <;> decide, fun r hr => by
          show 1 * c i r + (-(s * t)) * c o r = 0 ∨ 1 * c i r + (-(s * t)) * c o r = _
          rw [hval r hr]
          rcases hv r hr with z | z
          · right; rw [z, Int.neg_mul]; omega
          · left; rw [z]; omega⟩ (by
          have e1 : (List.range m).filter (fun q => !decide (q ∈ cov) && decide (1 * c i q + (-(s * t)) * c o q ≠ 0)) = (List.range m).filter fun q => !decide (q ∈ cov) && !decide (c i q ≠ 0) := by
            refine List.filter_congr fun q hq => ?_
            have hq' := List.mem_range.mp hq
            rw [hval q hq']
            have hn := hne q hq'
            rcases hv q hq' with z | z
            · rw [z]; congr 1
              rw [decide_eq_true (by omega), decide_eq_false (by omega)]; rfl
            · rw [z]; congr 1
              rw [decide_eq_false (by omega), decide_eq_true (by omega)]; rfl
          rw [e1]
          omega)
        rw [hd] at this
        exact this
    · have : det m c = 0 := by
        refine Classical.byContradiction fun hz => inj fun j k hj hk j1 k1 ee => ?_
        by_cases z : j = k
        · exact z
        · have a1 : j ∉ i :: sp ∧ j ≠ o := ⟨fun z => j1 (List.mem_cons_of_mem _ z), fun z => j1 (by rw [z]; exact List.mem_cons_self)⟩
          have a2 : k ∉ i :: sp ∧ k ≠ o := ⟨fun z => k1 (List.mem_cons_of_mem _ z), fun z => k1 (by rw [z]; exact List.mem_cons_self)⟩
          have := hu' j hj a1.1 a1.2
          rw [ee] at this
          exact absurd (det_par hj hk z this (hu' k hk a2.1 a2.2)) hz
      rw [this]
      exact half_nonneg _
/-- a column of ones added -/
def ext1C (e : Col) (c : Mat) : Mat
  | 0 => fun r => match r with
    | 0 => 1
    | r + 1 => e r
  | i + 1 => fun r => match r with
    | 0 => 0
    | r + 1 => c i r
theorem det_ext (m : Nat) (e : Col) (c : Mat) : det (m + 1) (ext1C e c) = det m c := by
  show (sumN (m + 1) fun i => sgn i * (ext1C e c i 0 * det m (minor (ext1C e c) i))) = det m c
  rw [sumN_one (k := 0) (by omega) fun i hi hne => by
    obtain ⟨j, rfl⟩ : ∃ j, i = j + 1 := ⟨i - 1, by omega⟩
    show sgn (j + 1) * (0 * _) = 0
    rw [Int.zero_mul, Int.mul_zero]]
  show 1 * (1 * det m (minor (ext1C e c) 0)) = det m c
  rw [Int.one_mul, Int.one_mul]
  rfl
theorem det_half0 {m : Nat} {e : Col} (he : Sg m e) (sp : List Nat) (c : Mat) (nd : sp.Nodup) (hl : ∀ i ∈ sp, i < m) (hu : ∀ i, i < m → i ∉ sp → ∃ q, UnitC m c i q) (hz : ∀ i ∈ sp, Zo m e (c i)) : ab (det m c) ≤ half sp.length := by
  rw [← det_ext m e c]
  let e' : Col := fun r => match r with
    | 0 => 1
    | r + 1 => e r
  have := det_half (m := m + 1) (e := e') (o := 0) (fun r hr => by
    cases r with
    | zero => exact .inl rfl
    | succ r => exact he r (by omega)) (by omega) (sp.map (· + 1)) (ext1C e c) (by
      show List.Pairwise _ _
      rw [List.pairwise_map]
      exact nd.imp fun h z => h (by omega)) (by simp) (fun i hi => by
        obtain ⟨j, hj, rfl⟩ := List.mem_map.mp hi
        have := hl j hj
        omega) (fun i hi hn h0 => by
        obtain ⟨j, rfl⟩ : ∃ j, i = j + 1 := ⟨i - 1, by omega⟩
        obtain ⟨q, hq, s, hs, hr⟩ := hu j (by omega) fun z => hn (List.mem_map.mpr ⟨j, z, rfl⟩)
        refine ⟨q + 1, by omega, s, hs, fun r hr' => ?_⟩
        cases r with
        | zero => show (0 : Int) = s * unit (q + 1) 0; rw [show unit (q + 1) 0 = 0 from if_neg (by omega), Int.mul_zero]
        | succ r =>
          show c j r = s * unit (q + 1) (r + 1)
          rw [hr r (by omega)]
          congr 1
          unfold unit
          by_cases z : r = q
          · rw [if_pos z, if_pos (by omega)]
          · rw [if_neg z, if_neg (by omega)]) (fun i hi => by
        obtain ⟨j, hj, rfl⟩ := List.mem_map.mp hi
        obtain ⟨s, hs, h⟩ := hz j hj
        refine ⟨s, hs, fun r hr => ?_⟩
        cases r with
        | zero => exact .inl rfl
        | succ r => exact h r (by omega)) ⟨1, .inl rfl, fun r hr => by
        cases r with
        | zero => rfl
        | succ r => show e r = 1 * e r; omega⟩
  rw [List.length_map] at this
  exact this
theorem half_mono : ∀ {a b : Nat}, a ≤ b → half a ≤ half b := by
  intro a b h
  induction b with
  | zero => have : a = 0 := by omega
            subst this; exact Int.le_refl _
  | succ b ih =>
    by_cases e : a = b + 1
    · subst e; exact Int.le_refl _
    · have h1 := ih (by omega)
      have h2 := half_nonneg b
      show half a ≤ (((b + 2) / 2 : Nat) : Int) * half b
      have h3 : 1 * half b ≤ (((b + 2) / 2 : Nat) : Int) * half b := Int.mul_le_mul_of_nonneg_right (by omega) h2
      omega
example : half 6 = 36 := by decide
example : half 7 = 144 := by decide
end Qw.Det

set_option Elab.async false
set_option linter.all false
set_option maxRecDepth 100000
/-! The solution's numbers are small. By an AI agent. -/
namespace Qw.Det
/-- p columns of 0 and 1, one of ones, then columns with one entry; a right side of 0 and 1; up to signs of rows -/
structure Sep (m n p : Nat) (A : Nat → Col) (e : Col) : Prop where
  sg : Sg m e
  zo : ∀ j, j < p → Zo m e (A j)
  on : On m e (A p)
  rhs : Zo m e (A (n + m))
  un : ∀ j, p + 1 ≤ j → j < n + m → ∃ q, q < m ∧ ∃ e : Int, (e = 1 ∨ e = -1) ∧ ∀ r, r < m → A j r = e * unit q r
section
variable {m n p : Nat} {A : Nat → Col} {S : St} {e : Col}
theorem Sep.s_bd (H : Sep m n p A e) (I : Inv m (n + m + 1) A S) (hb : ∀ i, i < m → S.b i < n + m) : ab S.s ≤ half p := by
  rw [← I.dt]
  have hm : ∀ k, k ∈ ((List.range m).filter fun k => decide (S.b k < p)) ↔ k < m ∧ S.b k < p := fun k => by
    rw [List.mem_filter, List.mem_range, decide_eq_true_eq]
  by_cases ho : ∃ o, o < m ∧ S.b o = p
  · obtain ⟨o, o1, o2⟩ := ho
    refine Int.le_trans (det_half H.sg o1 ((List.range m).filter fun k => decide (S.b k < p)) (bas A S) ((List.nodup_range).filter _) (fun h => ?_) (fun k hk => ((hm k).mp hk).1) (fun k hk hn hko => ?_) (fun k hk => H.zo _ ((hm k).mp hk).2) ?_) (half_mono (few_basic I))
    · have := ((hm o).mp h).2; omega
    · have h1 : ¬ S.b k < p := fun h => hn ((hm k).mpr ⟨hk, h⟩)
      have h2 : S.b k ≠ p := fun h => hko (b_inj I hk o1 (by rw [h, o2]))
      exact H.un (S.b k) (by omega) (hb k hk)
    · show On m e (A (S.b o))
      rw [o2]; exact H.on
  · refine Int.le_trans (det_half0 H.sg ((List.range m).filter fun k => decide (S.b k < p)) (bas A S) ((List.nodup_range).filter _) (fun k hk => ((hm k).mp hk).1) (fun k hk hn => ?_) (fun k hk => H.zo _ ((hm k).mp hk).2)) (half_mono (few_basic I))
    have h1 : ¬ S.b k < p := fun h => hn ((hm k).mpr ⟨hk, h⟩)
    have h2 : S.b k ≠ p := fun h => ho ⟨k, hk, h⟩
    exact H.un (S.b k) (by omega) (hb k hk)
theorem Sep.w_bd (H : Sep m n p A e) (I : Inv m (n + m + 1) A S) (hb : ∀ i, i < m → S.b i < n + m) {i : Nat} (hi : i < m) (hw : S.b i < p) : ab (S.T i (n + m)) ≤ half p := by
  rw [I.ent hi (show n + m < n + m + 1 by omega)]
  have hm : ∀ k, k ∈ ((List.range m).filter fun k => decide (S.b k < p)) ↔ k < m ∧ S.b k < p := fun k => by
    rw [List.mem_filter, List.mem_range, decide_eq_true_eq]
  have hz : ∀ k, k < m → S.b k < p → Zo m e (upd (bas A S) i (A (n + m)) k) := fun k hk h => by
    by_cases z : k = i
    · subst z; rw [upd_self]; exact H.rhs
    · rw [upd_ne z]; exact H.zo _ h
  by_cases ho : ∃ o, o < m ∧ S.b o = p
  · obtain ⟨o, o1, o2⟩ := ho
    refine Int.le_trans (det_half H.sg o1 ((List.range m).filter fun k => decide (S.b k < p)) (upd (bas A S) i (A (n + m))) ((List.nodup_range).filter _) (fun h => ?_) (fun k hk => ((hm k).mp hk).1) (fun k hk hn hko => ?_) (fun k hk => hz k ((hm k).mp hk).1 ((hm k).mp hk).2) ?_) (half_mono (few_basic I))
    · have := ((hm o).mp h).2; omega
    · have h1 : ¬ S.b k < p := fun h => hn ((hm k).mpr ⟨hk, h⟩)
      have h2 : S.b k ≠ p := fun h => hko (b_inj I hk o1 (by rw [h, o2]))
      have h3 : k ≠ i := fun z => h1 (by rw [z]; exact hw)
      rw [show (∃ q, UnitC m (upd (bas A S) i (A (n + m))) k q) ↔ ∃ q, q < m ∧ ∃ e : Int, (e = 1 ∨ e = -1) ∧ ∀ r, r < m → upd (bas A S) i (A (n + m)) k r = e * unit q r from Iff.rfl, upd_ne h3]
      exact H.un (S.b k) (by omega) (hb k hk)
    · rw [upd_ne (fun z : o = i => by rw [← z] at hw; omega)]
      show On m e (A (S.b o))
      rw [o2]; exact H.on
  · refine Int.le_trans (det_half0 H.sg ((List.range m).filter fun k => decide (S.b k < p)) (upd (bas A S) i (A (n + m))) ((List.nodup_range).filter _) (fun k hk => ((hm k).mp hk).1) (fun k hk hn => ?_) (fun k hk => hz k ((hm k).mp hk).1 ((hm k).mp hk).2)) (half_mono (few_basic I))
    have h1 : ¬ S.b k < p := fun h => hn ((hm k).mpr ⟨hk, h⟩)
    have h2 : S.b k ≠ p := fun h => ho ⟨k, hk, h⟩
    have h3 : k ≠ i := fun z => h1 (by rw [z]; exact hw)
    rw [show (∃ q, UnitC m (upd (bas A S) i (A (n + m))) k q) ↔ ∃ q, q < m ∧ ∃ e : Int, (e = 1 ∨ e = -1) ∧ ∀ r, r < m → upd (bas A S) i (A (n + m)) k r = e * unit q r from Iff.rfl, upd_ne h3]
    exact H.un (S.b k) (by omega) (hb k hk)
theorem Sep.q_bd (H : Sep m n p A e) (I : Inv m (n + m + 1) A S) (hb : ∀ i, i < m → S.b i < n + m) {i : Nat} (hi : i < m) (hw : S.b i = p) : ab (S.T i (n + m)) ≤ half (p + 1) := by
  rw [I.ent hi (show n + m < n + m + 1 by omega)]
  have hm : ∀ k, k ∈ ((List.range m).filter fun k => decide (S.b k < p + 1)) ↔ k < m ∧ S.b k < p + 1 := fun k => by
    rw [List.mem_filter, List.mem_range, decide_eq_true_eq]
  refine Int.le_trans (det_half0 H.sg ((List.range m).filter fun k => decide (S.b k < p + 1)) (upd (bas A S) i (A (n + m))) ((List.nodup_range).filter _) (fun k hk => ((hm k).mp hk).1) (fun k hk hn => ?_) (fun k hk => ?_)) (half_mono (few_basic I))
  · have h1 : ¬ S.b k < p + 1 := fun h => hn ((hm k).mpr ⟨hk, h⟩)
    have h3 : k ≠ i := fun z => h1 (by rw [z, hw]; omega)
    rw [show (∃ q, UnitC m (upd (bas A S) i (A (n + m))) k q) ↔ ∃ q, q < m ∧ ∃ e : Int, (e = 1 ∨ e = -1) ∧ ∀ r, r < m → upd (bas A S) i (A (n + m)) k r = e * unit q r from Iff.rfl, upd_ne h3]
    exact H.un (S.b k) (by omega) (hb k hk)
  · by_cases z : k = i
    · subst z; rw [upd_self]; exact H.rhs
    · rw [upd_ne z]
      have h1 := (hm k).mp hk
      have h2 : S.b k ≠ p := fun h => z (b_inj I h1.1 hi (by rw [h, hw]))
      exact H.zo _ (by omega)
end
end Qw.Det

set_option Elab.async false
set_option linter.all false
set_option maxRecDepth 100000
set_option maxHeartbeats 4000000
/-! solve, walked. By an AI agent. -/
namespace Qw
open PySem L2 Qw.Det
section
variable {fns : List Fn} {m n p : Nat} {A : Nat → Col}
/-- the first state -/
def S0 (n : Nat) (A : Nat → Col) : Det.St := ⟨fun i => n + i, 1, fun i j => A j i⟩
theorem good0 (hu : ∀ k, k < m → ∀ q, q < m → A (n + k) q = unit k q) (hr : ∀ i, i < m → 0 ≤ A (n + m) i) : Good m n A (S0 n A) := by
  refine ⟨⟨by show (0 : Int) < 1; omega, fun i hi => by show n + i < n + m + 1; omega, fun j hj r hr => ?_, ?_⟩, fun i hi => by show n + i < n + m; omega, hr⟩
  · show 1 * A j r = sumN m fun i => A j i * A (n + i) r
    rw [sumN_one hr fun i hi hne => by rw [hu i hi r hr, show unit i r = 0 from if_neg fun z => hne z.symm, Int.mul_zero], hu r hr r hr, show unit r r = 1 from if_pos rfl, Int.mul_one, Int.one_mul]
  · show det m (bas A (S0 n A)) = 1
    rw [← det_one m]
    exact det_congr fun i hi r hr => hu i hi r hr
theorem sum_rg (f : Nat → Int) : ∀ m, ((List.range m).map f).sum = sumN m f
  | 0 => rfl
  | m + 1 => by
    rw [List.range_succ, List.map_append, List.sum_append, sum_rg f m]
    show _ + (f m + 0) = sumN m f + f m
    omega
theorem sum_row (f : Nat → Int) (m : Nat) : dSum (.list ((List.range m).map fun i => .int (f i))) = .ok (.int (sumN m f)) := by
  rw [← sum_rg, ← sum_L, List.map_map]
  rfl
theorem rg_add {α : Type} (f : Nat → α) (a b : Nat) : (List.range (a + b)).map f = (List.range a).map f ++ (List.range b).map fun k => f (a + k) := by
  rw [List.range_add, List.map_append, List.map_map]
  rfl
theorem rg_one {α : Type} (f : Nat → α) (a : Nat) : (List.range (a + 1)).map f = (List.range a).map f ++ [f a] := by
  rw [List.range_succ, List.map_append]
  rfl
theorem rg_len {α : Type} (f : Nat → α) (a : Nat) : ((List.range a).map f).length = a := by rw [List.length_map, List.length_range]
theorem cut_last {α : Type} (f : Nat → α) (a : Nat) : cutL ((List.range (a + 1)).map f) none (some (-1)) = (List.range a).map f := by
  unfold cutL
  rw [rg_len]
  have h1 : HT.sIx (a + 1) 0 none = 0 := rfl
  have h2 : HT.sIx (a + 1) (a + 1) (some (-1)) = a := by
    unfold HT.sIx
    simp
    omega
  rw [h1, h2, List.drop_zero, rg_one]
  rw [List.take_append_of_le_length (by rw [rg_len]; omega), List.take_of_length_le (by rw [rg_len]; omega)]
theorem cut_end {α : Type} (f : Nat → α) (a : Nat) : cutL ((List.range (a + 1)).map f) (some (-1)) none = [f a] := by
  unfold cutL
  rw [rg_len]
  have h1 : HT.sIx (a + 1) 0 (some (-1)) = a := by
    unfold HT.sIx
    simp
    omega
  have h2 : HT.sIx (a + 1) (a + 1) none = a + 1 := rfl
  rw [h1, h2, rg_one, List.drop_append_of_le_length (by rw [rg_len]; omega), List.drop_of_length_le (by rw [rg_len]; omega)]
  rw [show a + 1 - a = 1 by omega]
  rfl
theorem cut_lastD (f : Nat → Int) (a : Nat) : dCut (rowD (a + 1) f) none (some (-1)) = .ok (rowD a f) := by
  show R.ok (PyData.list (cutL ((List.range (a + 1)).map fun j => PyData.int (f j)) none (some (-1)))) = _
  rw [cut_last]
  rfl
theorem cut_endD (f : Nat → Int) (a : Nat) : dCut (rowD (a + 1) f) (some (-1)) none = .ok (.list [.int (f a)]) := by
  show R.ok (PyData.list (cutL ((List.range (a + 1)).map fun j => PyData.int (f j)) (some (-1)) none)) = _
  rw [cut_end]
theorem add_row (a b : Nat) (f g : Nat → Int) (h : a + b ≤ 10000) : dBin .add (rowD a f) (.list ((List.range b).map fun j => .int (g j))) = .ok (.list ((List.range a).map (fun j => .int (f j)) ++ (List.range b).map fun j => .int (g j))) := by
  show (if ((List.range a).map fun j => PyData.int (f j)).length + ((List.range b).map fun j => PyData.int (g j)).length ≤ LIM then R.ok (PyData.list _) else .bad) = _
  rw [rg_len, rg_len, if_pos (by unfold LIM; omega)]
theorem add_list {a b : List D} (h : a.length + b.length ≤ 100000) : dBin .add (.list a) (.list b) = .ok (.list (a ++ b)) := if_pos h
theorem mul_zeros (k : Nat) (h : k ≤ 1000) : dBin .mul (.list [.int 0]) (.int (k : Int)) = .ok (.list ((List.range k).map fun _ => .int 0)) := by
  show (if 1 * (k : Int).toNat ≤ LIM ∧ -(2 ^ 63) ≤ (k : Int) ∧ (k : Int) < 2 ^ 63 then R.ok (PyData.list (List.replicate (k : Int).toNat [PyData.int 0]).flatten) else .bad) = _
  rw [Int.toNat_natCast, if_pos (by unfold LIM; omega)]
  congr 2
  clear h
  induction k with
  | zero => rfl
  | succ k ih => rw [List.replicate_succ', List.flatten_append, ih, rg_one]; rfl
theorem int_bool (b : Bool) : dInt (.bool b) = .ok (.int (if b = true then 1 else 0)) := by cases b <;> rfl
theorem call2_opt (o : Option Nat) (w : Bool) : call2 w (.ok (optD o)) = .ok (optD o) := by cases o <;> cases w <;> rfl
theorem flat_opt (o : Option Nat) : flatD (optD o) = true := by cases o <;> rfl
/-- the equations -/
def eqF (n m : Nat) (A : Nat → Col) (i j : Nat) : Int := if j < n then A j i else A (n + m) i
theorem zr0 (hu : ∀ k, k < m → ∀ q, q < m → A (n + k) q = unit k q) {j : Nat} (hj : j < n + m + 1) : zr m (gA n m) (S0 n A) j = if n ≤ j ∧ j < n + m then 0 else sumN m fun i => A j i := by
  unfold zr
  have e : (sumN m fun i => gA n m ((S0 n A).b i) * (S0 n A).T i j) = sumN m fun i => A j i := sumN_congr fun i hi => by
    show gA n m (n + i) * A j i = A j i
    rw [show gA n m (n + i) = 1 from if_pos (by omega), Int.one_mul]
  rw [e]
  show _ - gA n m j * 1 = _
  by_cases z : n ≤ j ∧ j < n + m
  · rw [if_pos z, show gA n m j = 1 from if_pos z]
    obtain ⟨k, rfl⟩ : ∃ k, j = n + k := ⟨j - n, by omega⟩
    rw [sumN_one (k := k) (by omega) fun i hi hne => by rw [hu k (by omega) i hi]; exact if_neg hne, hu k (by omega) k (by omega), show unit k k = 1 from if_pos rfl]
    omega
  · rw [if_neg z, show gA n m j = 0 from if_neg z]
    omega
/-- the solution read off the basis -/
def solv (S : Det.St) (R : Nat) : Nat → Nat → Int
  | 0, _ => 0
  | k + 1, j => if S.b k = j then S.T k R else solv S R k j
def solveD (m n : Nat) (S : Det.St) : D :=
  if zr m (gA n m) S (n + m) = 0 then .tuple [.tuple [rowD n (solv S (n + m) m), .int S.s], .none]
  else .tuple [.none, .list ((List.range m).map fun k => .int (zr m (gA n m) S (n + k) + S.s))]
theorem set_rg {α : Type} (f : Nat → α) {w j : Nat} (hj : j < w) (x : α) : ((List.range w).map f).set j x = (List.range w).map fun i => if j = i then x else f i := by
  refine List.ext_getElem? fun k => ?_
  rw [List.getElem?_set, List.length_map, List.length_range, List.getElem?_map, List.getElem?_map]
  by_cases h : j = k
  · subst h
    rw [if_pos rfl, if_pos hj, List.getElem?_range hj]
    simp
  · rw [if_neg h]
    by_cases hk : k < w
    · rw [List.getElem?_range hk]
      simp -implicitDefEqProofs only [Option.map_some]
      rw [if_neg h]
    · rw [List.getElem?_eq_none (by rw [List.length_range]; omega)]
      rfl
theorem solv_lt {S : Det.St} {R : Nat} {n : Nat} : ∀ k j, j < n → solv S R (k + 1) j = if S.b k < n then (if S.b k = j then S.T k R else solv S R k j) else solv S R k j := fun k j hj => by
  show (if S.b k = j then S.T k R else solv S R k j) = _
  by_cases h : S.b k < n
  · rw [if_pos h]
  · rw [if_neg h, if_neg (by omega)]
def sstep (S : Det.St) (n R : Nat) (f : Nat → Int) (i : Nat) : Nat → Int := if S.b i < n then fun j => if S.b i = j then S.T i R else f j else f
theorem sstep_fold {S : Det.St} {R n : Nat} {j : Nat} (hj : j < n) : ∀ k, ((List.range k).foldl (sstep S n R) fun _ => 0) j = solv S R k j
  | 0 => rfl
  | k + 1 => by
    rw [List.range_succ, List.foldl_append]
    show sstep S n R ((List.range k).foldl (sstep S n R) fun _ => 0) k j = _
    have ih := sstep_fold (S := S) (R := R) hj k
    rw [solv_lt k j hj]
    unfold sstep
    by_cases h : S.b k < n
    · rw [if_pos h, if_pos h]
      show (if S.b k = j then _ else _) = _
      rw [show (List.foldl (fun f i => if S.b i < n then fun j => if S.b i = j then S.T i R else f j else f) (fun _ => 0) (List.range k)) j = solv S R k j from ih]
    · rw [if_neg h, if_neg h]
      exact ih
theorem fuel_ok (hm : m ≤ 40) (hn : n ≤ 47) {t : Nat} (h : t ≤ (n + m) ^ m) : t < fuelW := by
  have h1 : (n + m) ^ m ≤ 88 ^ m := Nat.pow_le_pow_left (by omega) m
  have h2 : 88 ^ m ≤ 88 ^ 40 := Nat.pow_le_pow_right (by omega) hm
  have h3 : 88 ^ 40 < fuelW := by unfold fuelW; decide
  omega
theorem solve_ok {i i1 i2 i3 : Nat} (hF : fns[i]? = some (F_solve i1 i2 i3)) (h1 : fns[i1]? = some F_entering_column) (h2 : fns[i2]? = some F_leaving_row) (h3 : fns[i3]? = some F_pivot) (K : Ok m n p A) (hm : m ≤ 40) (hn : n ≤ 47) (hr : ∀ i, i < m → 0 ≤ A (n + m) i) :
    ∃ S, Good m n A S ∧ dec m n S = none ∧ zr m (gA n m) S (n + m) ≤ (sumN m fun i => A (n + m) i) * S.s ∧ At fns 2 i [tabD m (n + 1) (eqF n m A), .int (n : Int)] (.ok (solveD m n S)) := by
  have G0 := good0 K.hu hr
  obtain ⟨t, t1, t2⟩ := (alg K.hu).ends G0
  refine ⟨it (dec m n) t (S0 n A), (alg K.hu).good G0 t, t2, ?_, ?_⟩
  · have := it_fall K.hu G0 t
    rw [zr0 K.hu (by omega), if_neg (by omega)] at this
    rw [show (S0 n A).s = 1 from rfl, Int.mul_one] at this
    exact this
  refine At.mk hF rfl fun k hk => ?_
  simp_arith only [F_solve, List.map_cons, List.map_nil, List.length_cons, List.length_nil, List.replicate_succ, List.replicate_zero, List.append_nil, Nat.zero_add, Nat.reduceAdd, Nat.reduceSub, len_tab, enum_tab]
  obtain ⟨g, hL⟩ := loop_rows (enc := fun i : Nat => PyData.tuple [.int (i : Int), rowD (n + 1) (eqF n m A i)]) (tg := .many [4, 5]) (body := bodyOf (evFn fns k) (.cons (.app 3 (.bin .add (.bin .add (.cut (.var 5) .none (.some (.neg (.cst (.int 1))))) (.comp (.bi .int (.cons (.cmp .eq (.var 4) (.var 6)) .nil)) (.one 6) (.range1 (.var 2)) .none)) (.cut (.var 5) (.some (.neg (.cst (.int 1)))) .none))) .nil))
    (fun i => rowD (n + m + 1) fun j => A j i) (fun acc (g : Cell × Cell) => [.val (tabD m (n + 1) (eqF n m A)), .val (.int (n : Int)), .val (.int (m : Int)), .own acc, g.1, g.2, .un, .un, .un, .un, .un, .un, .un, .un, .un]) (l := List.range m) (acc := []) (g0 := (.un, .un)) (by rw [List.length_range]; unfold LIM; simp; omega) (fun i hi acc g hacc => by
      have hi' := List.mem_range.mp hi
      have hacc' : acc.length < 100000 := hacc
      refine ⟨_, (.val (.int (i : Int)), .val (rowD (n + 1) (eqF n m A i))), rfl, ?_⟩
      simp_arith [cut_lastD, cut_endD, it_rangeN (show m ≤ 1000 by omega)]
      rw [comp_map (enc := fun i : Nat => PyData.int (i : Int)) (fun o : Nat => PyData.int (unit o i)) fun o ho => by
        simp_arith [int_bool]
        unfold unit
        by_cases z : i = o
        · simp [z]
        · have : ¬ (i : Int) = (o : Int) := by omega
          simp [z, this]]
      simp_arith only [cut_endD, add_row n m _ _ (show n + m ≤ 10000 by omega), hacc', LIM]
      rw [add_list (by rw [List.length_append, rg_len, rg_len, List.length_singleton]; omega)]
      simp_arith only [hacc]
      have e : (List.range n).map (fun j => PyData.int (eqF n m A i j)) ++ (List.range m).map (fun o => PyData.int (unit o i)) ++ [PyData.int (eqF n m A i n)] = (List.range (n + m + 1)).map fun j => PyData.int (A j i) := by
        rw [rg_one, rg_add]
        congr 1
        · congr 1
          · exact List.map_congr_left fun j hj => by rw [show eqF n m A i j = A j i from if_pos (List.mem_range.mp hj)]
          · exact List.map_congr_left fun j hj => by rw [K.hu j (List.mem_range.mp hj) i hi']
        · rw [show eqF n m A i n = A (n + m) i from if_neg (by omega)]
      rw [e]
      rfl)
  rw [hL, List.nil_append]
  simp_arith only [it_rangeN (show n ≤ 1000 by omega)]
  rw [comp_map (enc := fun i : Nat => PyData.int (i : Int)) (fun c : Nat => PyData.int (sumN m fun i => A c i)) fun c hc => by
    have hc' := List.mem_range.mp hc
    simp_arith []
    rw [comp_map (enc := fun i : Nat => rowD (n + m + 1) fun j => A j i) (fun i => PyData.int (A c i)) fun i hi => by
      simp_arith [idx_row (w := n + m + 1) (f := fun j => A j i) (show c < n + m + 1 by omega)]]
    simp_arith only [sum_row]]
  simp_arith only [mul_zeros m (show m ≤ 1000 by omega)]
  rw [add_list (by rw [rg_len, rg_len]; omega)]
  simp_arith only []
  rw [comp_map (enc := fun i : Nat => rowD (n + m + 1) fun j => A j i) (fun i => PyData.int (A (n + m) i)) fun i hi => by
    simp_arith [idx_rowL]]
  simp_arith only [sum_row]
  rw [add_list (by rw [List.length_append, rg_len, rg_len, List.length_singleton]; omega)]
  simp_arith only [rg_len, LIM, show m < 100000 by omega, it_rangeN (show m ≤ 1000 by omega)]
  rw [comp_map (enc := fun i : Nat => PyData.int (i : Int)) (fun c : Nat => PyData.int ((n + c : Nat) : Int)) fun c hc => by
    simp_arith []
    rfl]
  have eT : (List.range m).map (fun i => rowD (n + m + 1) fun j => A j i) ++ [PyData.list ((List.range n).map (fun c => PyData.int (sumN m fun i => A c i)) ++ (List.range m).map (fun x => PyData.int 0) ++ [PyData.int (sumN m (A (n + m)))])] = (List.range (m + 1)).map fun i => rowD (n + m + 1) (ent m n (S0 n A) i) := by
    rw [rg_one]
    congr 1
    · refine List.map_congr_left fun i hi => ?_
      congr 1
      funext j
      exact (if_pos (List.mem_range.mp hi)).symm
    · congr 1
      unfold rowD
      congr 1
      rw [rg_one, rg_add, ent_last]
      congr 1
      · congr 1
        · exact List.map_congr_left fun j hj => by rw [zr0 K.hu (by have := List.mem_range.mp hj; omega), if_neg (by have := List.mem_range.mp hj; omega)]
        · exact List.map_congr_left fun j hj => by rw [zr0 K.hu (by have := List.mem_range.mp hj; omega), if_pos (by have := List.mem_range.mp hj; omega)]
      · rw [zr0 K.hu (by omega), if_neg (by omega)]
  rw [eT]
  have f1 := entering_ok h1 (m := m) (n := n) (w := n + m + 1) (ent m n (S0 n A)) (by omega) (by omega) k hk
  rw [ent_last] at f1
  have f1' : evFn fns k i1 [.list ((List.range (m + 1)).map fun i => rowD (n + m + 1) (ent m n (S0 n A) i)), .int (n : Int)] = .ok (optD (ecol (zr m (gA n m) (S0 n A)) n)) := f1
  simp_arith only []
  rw [f1', call2_opt]
  simp_arith only []
  obtain ⟨g', hW⟩ := while_ok h1 h2 h3 K hk (.val (tabD m (n + 1) (eqF n m A))) (.val (.list ((List.range n).map fun c => PyData.int (sumN m fun i => A c i)))) t (S0 n A) G0 t2 fuelW (fuel_ok hm hn t1) (g.1, g.2, .un, .un, .un)
  have G := (alg K.hu).good G0 t
  revert G t2 hW
  generalize it (dec m n) t (S0 n A) = S
  intro t2 hW G
  unfold envW bodyW at hW
  rw [show PyData.list ((List.range (m + 1)).map fun i => rowD (n + m + 1) (ent m n (S0 n A) i)) = tabD (m + 1) (n + m + 1) (ent m n (S0 n A)) from rfl]
  rw [show (fun c => PyData.int ((n + c : Nat) : Int)) = fun i => PyData.int ((S0 n A).b i : Int) from rfl]
  rw [show (Cell.val (PyData.int 1)) = Cell.val (PyData.int (S0 n A).s) from rfl, hW]
  simp_arith only [idx_tabL, idx_rowL, ent_last, it_rangeN (show m ≤ 1000 by omega)]
  unfold solveD
  by_cases hz : zr m (gA n m) S (n + m) = 0
  · simp_arith only [hz, decide_true, mul_zeros n (show n ≤ 1000 by omega), enum_rg]
    obtain ⟨_, gg, hL2⟩ := loop_inv (enc := fun i : Nat => PyData.tuple [PyData.int (i : Int), PyData.int (S.b i : Int)]) (tg := .many [8, 14]) (body := bodyOf (evFn fns k) (.cons (.ite (.cmp .lt (.var 14) (.var 1)) (.cons (.setIx 13 (.var 14) (.idx (.idx (.var 3) (.var 8)) (.neg (.cst (.int 1))))) .nil) .nil) .nil)) (fun _ : Nat → Int => True) (sstep S n (n + m))
      (fun f (q : Cell × Cell) => [.val (tabD m (n + 1) (eqF n m A)), .val (.int (n : Int)), .val (.int (m : Int)), .val (tabD (m + 1) (n + m + 1) (ent m n S)), g'.1, g'.2.1, g'.2.2.1, .val (.list ((List.range n).map fun c => PyData.int (sumN m fun i => A c i))), q.1, .val (optD (ecol (zr m (gA n m) S) n)), .val (.list ((List.range m).map fun i => PyData.int (S.b i : Int))), .val (.int S.s), g'.2.2.2.2, .own ((List.range n).map fun j => PyData.int (f j)), q.2]) (l := List.range m) (s0 := fun _ => 0) (g0 := (g'.2.2.2.1, .un)) trivial (fun i hi f q _ => by
        have hi' := List.mem_range.mp hi
        refine ⟨trivial, _, (.val (.int (i : Int)), .val (.int (S.b i : Int))), rfl, ?_⟩
        by_cases z : S.b i < n
        · have z' : (S.b i : Int) < (n : Int) := by omega
          simp_arith [z', decide_true, idx_tab (w := n + m + 1) (f := ent m n S) (show i < m + 1 by omega), idx_rowL, rg_len, ixN_nat z, set_rg _ z]
          rw [show ent m n S i (n + m) = S.T i (n + m) from if_pos hi']
          unfold sstep
          rw [if_pos z]
          rw [show (fun j => if S.b i = j then PyData.int (S.T i (n + m)) else PyData.int (f j)) = fun j => PyData.int (if S.b i = j then S.T i (n + m) else f j) by
            funext j
            by_cases y : S.b i = j
            · rw [if_pos y, if_pos y]
            · rw [if_neg y, if_neg y]]
        · have z' : ¬ (S.b i : Int) < (n : Int) := by omega
          simp_arith [z', decide_false]
          unfold sstep
          rw [if_neg z])
    rw [hL2]
    simp_arith only []
    rw [show rowD n (solv S (n + m) m) = .list ((List.range n).map fun j => PyData.int (((List.range m).foldl (sstep S n (n + m)) fun _ => 0) j)) by
      unfold rowD
      congr 1
      exact List.map_congr_left fun j hj => by rw [sstep_fold (List.mem_range.mp hj)]]
  · simp_arith only [hz, decide_false]
    rw [comp_map (enc := fun i : Nat => PyData.int (i : Int)) (fun c : Nat => PyData.int (zr m (gA n m) S (n + c) + S.s)) fun c hc => by
      have hc' := List.mem_range.mp hc
      simp_arith [idx_tabL, ent_last]
      rw [show (n : Int) + (c : Int) = ((n + c : Nat) : Int) from rfl, idx_row (show n + c < n + m + 1 by omega)]
      simp_arith only []]
    simp_arith only []
end
end Qw

set_option Elab.async false
set_option linter.all false
set_option maxRecDepth 100000
set_option maxHeartbeats 4000000
/-! separated, walked. By an AI agent. -/
namespace Qw
open PySem L2 Qw.Det
/-- the columns of the equations -/
def chi (c : Nat → List Int) (r j : Nat) : Int := if (j : Int) ∈ c r then 1 else 0
def sgR (k1 r : Nat) : Int := if r < k1 then 1 else -1
def colA (p k1 m : Nat) (c : Nat → List Int) (j r : Nat) : Int :=
  if j < p then sgR k1 r * chi c r j
  else if j = p then - sgR k1 r
  else if j < p + 1 + m then - unit (j - (p + 1)) r
  else if j < p + 1 + m + m then unit (j - (p + 1 + m)) r
  else if r < k1 then 0 else 1
theorem chi01 (c : Nat → List Int) (r j : Nat) : chi c r j = 0 ∨ chi c r j = 1 := by unfold chi; split <;> simp
section
variable {fns : List Fn} {p k1 k2 m : Nat} {c : Nat → List Int}
theorem sg01 (k1 m : Nat) : Sg m (sgR k1) := fun r _ => by unfold sgR; split <;> simp
theorem colA_unit {j : Nat} (h1 : p + 1 ≤ j) (h2 : j < p + 1 + m + m) : ∃ q, q < m ∧ ∃ e : Int, (e = 1 ∨ e = -1) ∧ ∀ r, r < m → colA p k1 m c j r = e * unit q r := by
  by_cases z : j < p + 1 + m
  · refine ⟨j - (p + 1), by omega, -1, .inr rfl, fun r hr => ?_⟩
    unfold colA
    rw [if_neg (by omega), if_neg (by omega), if_pos z]
    omega
  · refine ⟨j - (p + 1 + m), by omega, 1, .inl rfl, fun r hr => ?_⟩
    unfold colA
    rw [if_neg (by omega), if_neg (by omega), if_neg z, if_pos h2]
    omega
theorem colA_zo {j : Nat} (h : j < p) : Zo m (sgR k1) (colA p k1 m c j) := ⟨1, .inl rfl, fun r _ => by
  unfold colA
  rw [if_pos h]
  rcases chi01 c r j with z | z <;> rw [z]
  · left; omega
  · right; omega⟩
theorem colA_on : On m (sgR k1) (colA p k1 m c p) := ⟨-1, .inr rfl, fun r _ => by
  unfold colA
  rw [if_neg (by omega), if_pos rfl]
  omega⟩
theorem colA_rhs (r : Nat) : colA p k1 m c (p + 1 + m + m) r = if r < k1 then 0 else 1 := by
  unfold colA
  rw [if_neg (by omega), if_neg (by omega), if_neg (by omega), if_neg (by omega)]
theorem colA_rz : Zo m (sgR k1) (colA p k1 m c (p + 1 + m + m)) := ⟨-1, .inr rfl, fun r _ => by
  rw [colA_rhs]
  unfold sgR
  by_cases z : r < k1
  · left; rw [if_pos z]
  · right; rw [if_neg z, if_neg z]; rfl⟩
theorem colA_sep : Sep m (p + 1 + m) p (colA p k1 m c) (sgR k1) := ⟨sg01 k1 m, fun j hj => colA_zo hj, colA_on, colA_rz, fun j h1 h2 => colA_unit h1 h2⟩
theorem colA_art {k q : Nat} (hk : k < m) : colA p k1 m c (p + 1 + m + k) q = unit k q := by
  unfold colA
  rw [if_neg (by omega), if_neg (by omega), if_neg (by omega), if_pos (by omega), show p + 1 + m + k - (p + 1 + m) = k by omega]
theorem colA_ok (hp : p ≤ 6) (hm : m ≤ 40) : Ok m (p + 1 + m) (p + 1) (colA p k1 m c) where
  hu k hk q hq := colA_art hk
  shp := ⟨fun j hj r hr => by
    by_cases h : j < p
    · exact (colA_zo h).small (sg01 k1 m) hr
    · by_cases h2 : j = p
      · subst h2; exact colA_on.small (sg01 k1 m) hr
      · by_cases h3 : j = p + 1 + m + m
        · rw [h3]; exact colA_rz.small (sg01 k1 m) hr
        · obtain ⟨q, hq, e, he, hh⟩ := colA_unit (p := p) (k1 := k1) (m := m) (c := c) (j := j) (by omega) (by omega)
          rw [hh r hr]
          unfold unit
          rcases he with z | z <;> rw [z] <;> split <;> decide, fun j h1 h2 => colA_unit h1 h2⟩
  hp := by omega
  hm := by omega
  hn := by omega
def yv (m n : Nat) (S : Det.St) (k : Nat) : Int := zr m (gA n m) S (n + k) + S.s
/-- what separated answers -/
def sepD (p k1 k2 : Nat) (S : Det.St) : D :=
  if zr (k1 + k2) (gA (p + 1 + (k1 + k2)) (k1 + k2)) S (p + 1 + (k1 + k2) + (k1 + k2)) = 0 then
    .tuple [.tuple [.int (solv S (p + 1 + (k1 + k2) + (k1 + k2)) (k1 + k2) p), encK ((List.range p).map fun j => solv S (p + 1 + (k1 + k2) + (k1 + k2)) (k1 + k2) j)], .none]
  else .tuple [.none, .tuple [.list ((List.range k1).map fun k => .int (yv (k1 + k2) (p + 1 + (k1 + k2)) S k)), .list ((List.range k2).map fun k => .int (yv (k1 + k2) (p + 1 + (k1 + k2)) S (k1 + k)))]]
theorem cut_rgT {α : Type} (f : Nat → α) (a b : Nat) : cutL ((List.range (a + b)).map f) none (some (a : Int)) = (List.range a).map f := by
  rw [cut_take, rg_add, List.take_append_of_le_length (by rw [rg_len]; omega), List.take_of_length_le (by rw [rg_len]; omega)]
theorem cut_rgD {α : Type} (f : Nat → α) (a b : Nat) : cutL ((List.range (a + b)).map f) (some (a : Int)) none = (List.range b).map fun k => f (a + k) := by
  rw [cut_drop, rg_add, List.drop_append_of_le_length (by rw [rg_len]; omega), List.drop_of_length_le (by rw [rg_len]; omega)]
  rfl
theorem idx_T0 (x : D) (l : List D) : dIdx (.tuple (x :: l)) (.int 0) = .ok x := by
  show (match atI (x :: l) ((0 : Nat) : Int) with | some d => R.ok d | none => .bad) = _
  rw [atI_nat (v := x) rfl]
theorem cutR (l : List D) (a b : Option Int) : dCut (.list l) a b = .ok (.list (cutL l a b)) := rfl
theorem isin_chi (c : Nat → List Int) (r j : Nat) : dCmp .isin (.int (j : Int)) (encK (c r)) = .ok (.bool (decide ((j : Int) ∈ c r))) := by
  show (dIn (.int (j : Int)) (encK (c r))).bind _ = _
  rw [in_ints]
  rfl
theorem separated_ok {i i0 i1 i2 i3 : Nat} (hF : fns[i]? = some (F_separated i0)) (h0 : fns[i0]? = some (F_solve i1 i2 i3)) (h1 : fns[i1]? = some F_entering_column) (h2 : fns[i2]? = some F_leaving_row) (h3 : fns[i3]? = some F_pivot) (hp : p ≤ 6) (hm : k1 + k2 ≤ 40) :
    ∃ S, Good (k1 + k2) (p + 1 + (k1 + k2)) (colA p k1 (k1 + k2) c) S ∧ dec (k1 + k2) (p + 1 + (k1 + k2)) S = none ∧ zr (k1 + k2) (gA (p + 1 + (k1 + k2)) (k1 + k2)) S (p + 1 + (k1 + k2) + (k1 + k2)) ≤ (k2 : Int) * S.s ∧
      At fns 3 i [.int (p : Int), .list ((List.range k1).map fun r => encK (c r)), .list ((List.range k2).map fun r => encK (c (k1 + r)))] (.ok (sepD p k1 k2 S)) := by
  obtain ⟨S, G, hd, hb, hS⟩ := solve_ok (fns := fns) (i := i0) h0 h1 h2 h3 (colA_ok (p := p) (k1 := k1) (m := k1 + k2) (c := c) hp hm) hm (by omega) (fun r hr => by rw [colA_rhs]; split <;> omega)
  refine ⟨S, G, hd, ?_, ?_⟩
  · have e : (sumN (k1 + k2) fun r => colA p k1 (k1 + k2) c (p + 1 + (k1 + k2) + (k1 + k2)) r) = (k2 : Int) := by
      have : ∀ k, (sumN (k1 + k) fun r => if r < k1 then (0 : Int) else 1) = (k : Int) := by
        intro k
        induction k with
        | zero => exact sumN_zero fun i hi => if_pos hi
        | succ k ih =>
          show (sumN (k1 + k) _) + (if k1 + k < k1 then (0 : Int) else 1) = _
          rw [ih, if_neg (by omega)]
          rfl
      rw [← this k2]
      exact sumN_congr fun r _ => colA_rhs r
    rw [e] at hb
    exact hb
  refine At.mk hF rfl fun k hk => ?_
  have hS' := hS k hk
  simp_arith only [F_separated, List.map_cons, List.map_nil, List.length_cons, List.length_nil, List.replicate_succ, List.replicate_zero, List.append_nil, Nat.zero_add, Nat.reduceAdd, Nat.reduceSub, enum_rg, rg_len]
  obtain ⟨g, hL⟩ := loop_rows (enc := fun r : Nat => PyData.tuple [.int (r : Int), encK (c r)]) (tg := .many [5, 6]) (body := bodyOf (evFn fns k) (.cons (.asg 7 (.bin .add (.comp (.bi .int (.cons (.cmp .isin (.var 8) (.var 6)) .nil)) (.one 8) (.range1 (.var 0)) .none) (.lst (.cons (.neg (.cst (.int 1))) .nil)))) (.cons (.app 4 (.bin .add (.bin .add (.var 7) (.comp (.neg (.bi .int (.cons (.cmp .eq (.var 5) (.var 9)) .nil))) (.one 9) (.range1 (.var 3)) .none)) (.lst (.cons (.cst (.int 0)) .nil)))) .nil)))
    (fun r => rowD (p + 1 + (k1 + k2) + 1) (eqF (p + 1 + (k1 + k2)) (k1 + k2) (colA p k1 (k1 + k2) c) r)) (fun acc (g : Cell × Cell × Cell) => [.val (.int (p : Int)), .val (.list ((List.range k1).map fun r => encK (c r))), .val (.list ((List.range k2).map fun r => encK (c (k1 + r)))), .val (.int ((k1 : Int) + (k2 : Int))), .own acc, g.1, g.2.1, g.2.2, .un, .un, .un, .un, .un]) (l := List.range k1) (acc := []) (g0 := (.un, .un, .un)) (by rw [List.length_range]; unfold LIM; simp; omega) (fun r hr acc g hacc => by
      have hr' := List.mem_range.mp hr
      refine ⟨_, (.val (.int (r : Int)), .val (encK (c r)), .val (.list ((List.range p).map (fun j => PyData.int (chi c r j)) ++ [PyData.int (-1)]))), rfl, ?_⟩
      simp_arith [it_rangeN (show p ≤ 1000 by omega)]
      rw [comp_map (enc := fun i : Nat => PyData.int (i : Int)) (fun o : Nat => PyData.int (chi c r o)) fun o ho => by
        simp_arith [int_bool, in_ints]
        unfold chi
        by_cases z : (o : Int) ∈ c r
        · simp [z]
        · simp [z]]
      simp_arith only []
      rw [add_list (by rw [rg_len, List.length_singleton]; omega)]
      simp_arith only []
      rw [show (k1 : Int) + (k2 : Int) = ((k1 + k2 : Nat) : Int) from rfl]
      simp_arith only [it_rangeN (show k1 + k2 ≤ 1000 by omega)]
      rw [comp_map (enc := fun i : Nat => PyData.int (i : Int)) (fun o : Nat => PyData.int (- unit o r)) fun o ho => by
        simp_arith [int_bool]
        unfold unit
        by_cases z : r = o
        · simp [z]
        · have : ¬ (r : Int) = (o : Int) := by omega
          simp [z, this]]
      simp_arith only []
      rw [add_list (by rw [List.length_append, rg_len, rg_len, List.length_singleton]; omega)]
      simp_arith only []
      rw [add_list (by simp -implicitDefEqProofs only [List.length_append, rg_len, List.length_singleton]; omega)]
      simp_arith only [hacc]
      have e : (List.range p).map (fun j => PyData.int (chi c r j)) ++ [PyData.int (-1)] ++ (List.range (k1 + k2)).map (fun o => PyData.int (- unit o r)) ++ [PyData.int 0] = (List.range (p + 1 + (k1 + k2) + 1)).map fun j => PyData.int (eqF (p + 1 + (k1 + k2)) (k1 + k2) (colA p k1 (k1 + k2) c) r j) := by
        rw [rg_one, rg_add _ (p + 1) (k1 + k2), rg_one _ p]
        have q : ∀ j, j < p + 1 + (k1 + k2) → eqF (p + 1 + (k1 + k2)) (k1 + k2) (colA p k1 (k1 + k2) c) r j = colA p k1 (k1 + k2) c j r := fun j hj => if_pos hj
        congr 1
        · congr 1
          · congr 1
            · exact List.map_congr_left fun j hj => by
                have hj' := List.mem_range.mp hj
                rw [q j (by omega)]
                unfold colA sgR
                rw [if_pos hj', if_pos hr', Int.one_mul]
            · rw [q p (by omega)]
              unfold colA sgR
              rw [if_neg (by omega), if_pos rfl, if_pos hr']
          · exact List.map_congr_left fun j hj => by
              have hj' := List.mem_range.mp hj
              rw [q _ (by omega)]
              unfold colA
              rw [if_neg (by omega), if_neg (by omega), if_pos (by omega), show p + 1 + j - (p + 1) = j by omega]
        · rw [show eqF (p + 1 + (k1 + k2)) (k1 + k2) (colA p k1 (k1 + k2) c) r (p + 1 + (k1 + k2)) = colA p k1 (k1 + k2) c (p + 1 + (k1 + k2) + (k1 + k2)) r from if_neg (by omega), colA_rhs, if_pos hr']
      rw [e]
      rfl)
  rw [hL, List.nil_append]
  simp_arith only [enum_rg]
  obtain ⟨g2, hL2⟩ := loop_rows (enc := fun r : Nat => PyData.tuple [.int (r : Int), encK (c (k1 + r))]) (tg := .many [5, 6]) (body := bodyOf (evFn fns k) (.cons (.asg 7 (.bin .add (.comp (.neg (.bi .int (.cons (.cmp .isin (.var 8) (.var 6)) .nil))) (.one 8) (.range1 (.var 0)) .none) (.lst (.cons (.cst (.int 1)) .nil)))) (.cons (.asg 10 (.bin .add (.bi .len (.cons (.var 1) .nil)) (.var 5))) (.cons (.app 4 (.bin .add (.bin .add (.var 7) (.comp (.neg (.bi .int (.cons (.cmp .eq (.var 10) (.var 9)) .nil))) (.one 9) (.range1 (.var 3)) .none)) (.lst (.cons (.cst (.int 1)) .nil)))) .nil))))
    (fun r => rowD (p + 1 + (k1 + k2) + 1) (eqF (p + 1 + (k1 + k2)) (k1 + k2) (colA p k1 (k1 + k2) c) (k1 + r))) (fun acc (g : Cell × Cell × Cell × Cell) => [.val (.int (p : Int)), .val (.list ((List.range k1).map fun r => encK (c r))), .val (.list ((List.range k2).map fun r => encK (c (k1 + r)))), .val (.int ((k1 : Int) + (k2 : Int))), .own acc, g.1, g.2.1, g.2.2.1, .un, .un, g.2.2.2, .un, .un]) (l := List.range k2) (acc := (List.range k1).map fun r => rowD (p + 1 + (k1 + k2) + 1) (eqF (p + 1 + (k1 + k2)) (k1 + k2) (colA p k1 (k1 + k2) c) r)) (g0 := (g.1, g.2.1, g.2.2, .un)) (by rw [List.length_range, rg_len]; unfold LIM; omega) (fun r hr acc g hacc => by
      have hr' := List.mem_range.mp hr
      refine ⟨_, (.val (.int (r : Int)), .val (encK (c (k1 + r))), .val (.list ((List.range p).map (fun j => PyData.int (- chi c (k1 + r) j)) ++ [PyData.int 1])), .val (.int ((k1 + r : Nat) : Int))), rfl, ?_⟩
      simp_arith [it_rangeN (show p ≤ 1000 by omega)]
      rw [comp_map (enc := fun i : Nat => PyData.int (i : Int)) (fun o : Nat => PyData.int (- chi c (k1 + r) o)) fun o ho => by
        simp_arith [int_bool, in_ints]
        unfold chi
        by_cases z : (o : Int) ∈ c (k1 + r)
        · simp [z]
        · simp [z]]
      simp_arith only []
      rw [add_list (by rw [rg_len, List.length_singleton]; omega)]
      simp_arith only [rg_len]
      rw [show (k1 : Int) + (k2 : Int) = ((k1 + k2 : Nat) : Int) from rfl, show (k1 : Int) + (r : Int) = ((k1 + r : Nat) : Int) from rfl]
      simp_arith only [it_rangeN (show k1 + k2 ≤ 1000 by omega)]
      rw [comp_map (enc := fun i : Nat => PyData.int (i : Int)) (fun o : Nat => PyData.int (- unit o (k1 + r))) fun o ho => by
        simp_arith [int_bool]
        unfold unit
        by_cases z : k1 + r = o
        · simp [z]
        · have : ¬ ((k1 + r : Nat) : Int) = (o : Int) := by omega
          rw [if_neg z, if_neg (by simpa using this)]]
      simp_arith only []
      rw [add_list (by rw [List.length_append, rg_len, rg_len, List.length_singleton]; omega)]
      simp_arith only []
      rw [add_list (by simp -implicitDefEqProofs only [List.length_append, rg_len, List.length_singleton]; omega)]
      simp_arith only [hacc]
      have e : (List.range p).map (fun j => PyData.int (- chi c (k1 + r) j)) ++ [PyData.int 1] ++ (List.range (k1 + k2)).map (fun o => PyData.int (- unit o (k1 + r))) ++ [PyData.int 1] = (List.range (p + 1 + (k1 + k2) + 1)).map fun j => PyData.int (eqF (p + 1 + (k1 + k2)) (k1 + k2) (colA p k1 (k1 + k2) c) (k1 + r) j) := by
        rw [rg_one, rg_add _ (p + 1) (k1 + k2), rg_one _ p]
        have q : ∀ j, j < p + 1 + (k1 + k2) → eqF (p + 1 + (k1 + k2)) (k1 + k2) (colA p k1 (k1 + k2) c) (k1 + r) j = colA p k1 (k1 + k2) c j (k1 + r) := fun j hj => if_pos hj
        congr 1
        · congr 1
          · congr 1
            · exact List.map_congr_left fun j hj => by
                have hj' := List.mem_range.mp hj
                rw [q j (by omega)]
                unfold colA sgR
                rw [if_pos hj', if_neg (by omega)]
                congr 1
                omega
            · rw [q p (by omega)]
              unfold colA sgR
              rw [if_neg (by omega), if_pos rfl, if_neg (by omega)]
              rfl
          · exact List.map_congr_left fun j hj => by
              have hj' := List.mem_range.mp hj
              rw [q _ (by omega)]
              unfold colA
              rw [if_neg (by omega), if_neg (by omega), if_pos (by omega), show p + 1 + j - (p + 1) = j by omega]
        · rw [show eqF (p + 1 + (k1 + k2)) (k1 + k2) (colA p k1 (k1 + k2) c) (k1 + r) (p + 1 + (k1 + k2)) = colA p k1 (k1 + k2) c (p + 1 + (k1 + k2) + (k1 + k2)) (k1 + r) from if_neg (by omega), colA_rhs, if_neg (by omega)]
      rw [e]
      rfl)
  rw [hL2]
  have eT : (List.range k1).map (fun r => rowD (p + 1 + (k1 + k2) + 1) (eqF (p + 1 + (k1 + k2)) (k1 + k2) (colA p k1 (k1 + k2) c) r)) ++ (List.range k2).map (fun r => rowD (p + 1 + (k1 + k2) + 1) (eqF (p + 1 + (k1 + k2)) (k1 + k2) (colA p k1 (k1 + k2) c) (k1 + r))) = (List.range (k1 + k2)).map fun r => rowD (p + 1 + (k1 + k2) + 1) (eqF (p + 1 + (k1 + k2)) (k1 + k2) (colA p k1 (k1 + k2) c) r) := by
    rw [rg_add]
  rw [eT]
  simp_arith only []
  rw [show PyData.list ((List.range (k1 + k2)).map fun r => rowD (p + 1 + (k1 + k2) + 1) (eqF (p + 1 + (k1 + k2)) (k1 + k2) (colA p k1 (k1 + k2) c) r)) = tabD (k1 + k2) (p + 1 + (k1 + k2) + 1) (eqF (p + 1 + (k1 + k2)) (k1 + k2) (colA p k1 (k1 + k2) c)) from rfl]
  rw [show (p : Int) + 1 + ((k1 : Int) + (k2 : Int)) = ((p + 1 + (k1 + k2) : Nat) : Int) by omega, hS']
  unfold solveD sepD
  by_cases hz : zr (k1 + k2) (gA (p + 1 + (k1 + k2)) (k1 + k2)) S (p + 1 + (k1 + k2) + (k1 + k2)) = 0
  · rw [if_pos hz, if_pos hz]
    have e1 : dIdx (rowD (p + 1 + (k1 + k2)) (solv S (p + 1 + (k1 + k2) + (k1 + k2)) (k1 + k2))) (.int (p : Int)) = .ok (.int (solv S (p + 1 + (k1 + k2) + (k1 + k2)) (k1 + k2) p)) := idx_row (by omega)
    have e2 : dCut (rowD (p + 1 + (k1 + k2)) (solv S (p + 1 + (k1 + k2) + (k1 + k2)) (k1 + k2))) none (some (p : Int)) = .ok (.list ((List.range p).map fun j => PyData.int (solv S (p + 1 + (k1 + k2) + (k1 + k2)) (k1 + k2) j))) := by
      show R.ok (PyData.list (cutL ((List.range (p + 1 + (k1 + k2))).map _) none (some (p : Int)))) = _
      rw [show p + 1 + (k1 + k2) = p + (1 + (k1 + k2)) by omega, cut_rgT]
    simp_arith only [idx_T0, e1, e2]
    unfold encK
    rw [List.map_map]
    rfl
  · rw [if_neg hz, if_neg hz]
    simp_arith only [rg_len, cutR, cut_rgT, cut_rgD]
    rfl
end
end Qw

set_option Elab.async false
set_option linter.all false
set_option maxRecDepth 100000
set_option maxHeartbeats 4000000
/-! What separated's answer tells. By an AI agent. -/
namespace Qw
open PySem L2 Qw.Det
theorem sumN_cat (a b : Nat) (f : Nat → Int) : sumN (a + b) f = sumN a f + sumN b fun k => f (a + k) := by
  induction b with
  | zero => show sumN a f = sumN a f + 0; omega
  | succ b ih =>
    show sumN (a + b) f + f (a + b) = sumN a f + (sumN b (fun k => f (a + k)) + f (a + b))
    rw [ih]; omega
theorem sumN_mono {k : Nat} {f g : Nat → Int} (h : ∀ i, i < k → f i ≤ g i) : sumN k f ≤ sumN k g := by
  induction k with
  | zero => exact Int.le_refl _
  | succ k ih =>
    have := ih fun i hi => h i (by omega)
    have := h k (by omega)
    show sumN k f + f k ≤ sumN k g + g k
    omega
theorem sumN_neg (k : Nat) (f : Nat → Int) : sumN k (fun i => - f i) = - sumN k f := by
  have := sumN_mul k (-1) f
  rw [Int.neg_one_mul] at this
  rw [← this]
  exact sumN_congr fun i _ => by omega
section
variable {fns : List Fn} {p k1 k2 m n R : Nat} {c : Nat → List Int} {S : Det.St} {A : Nat → Col}
theorem solv_cases (S : Det.St) (R : Nat) : ∀ k j, (solv S R k j = 0 ∧ ∀ i, i < k → S.b i ≠ j) ∨ ∃ i, i < k ∧ S.b i = j ∧ solv S R k j = S.T i R
  | 0, j => .inl ⟨rfl, fun i hi => by omega⟩
  | k + 1, j => by
    show ((if S.b k = j then S.T k R else solv S R k j) = 0 ∧ _) ∨ ∃ i, i < k + 1 ∧ S.b i = j ∧ (if S.b k = j then S.T k R else solv S R k j) = S.T i R
    by_cases h : S.b k = j
    · exact .inr ⟨k, by omega, h, if_pos h⟩
    · rcases solv_cases S R k j with ⟨a, b⟩ | ⟨i, h1, h2, h3⟩
      · left
        rw [if_neg h]
        refine ⟨a, fun i hi => ?_⟩
        by_cases z : i = k
        · rw [z]; exact h
        · exact b i (by omega)
      · right; exact ⟨i, by omega, h2, by rw [if_neg h]; exact h3⟩
theorem solv_sum (hi : ∀ a b, a < m → b < m → S.b a = S.b b → a = b) (f : Nat → Int) : ∀ k, k ≤ m → (sumN n fun j => solv S R k j * f j) = sumN k fun i => if S.b i < n then S.T i R * f (S.b i) else 0
  | 0, _ => sumN_zero fun j _ => Int.zero_mul _
  | k + 1, hk => by
    have ih := solv_sum hi f k (by omega)
    have h0 : solv S R k (S.b k) = 0 := by
      rcases solv_cases S R k (S.b k) with ⟨a, b⟩ | ⟨i, h1, h2, h3⟩
      · exact a
      · have := hi i k (by omega) (by omega) h2
        omega
    show (sumN n fun j => (if S.b k = j then S.T k R else solv S R k j) * f j) = (sumN k _) + (if S.b k < n then S.T k R * f (S.b k) else 0)
    rw [← ih]
    have e : (sumN n fun j => (if S.b k = j then S.T k R else solv S R k j) * f j) = sumN n fun j => solv S R k j * f j + (if S.b k = j then S.T k R * f j else 0) := sumN_congr fun j _ => by
      by_cases z : S.b k = j
      · rw [if_pos z, if_pos z, ← z, h0, Int.zero_mul, Int.zero_add]
      · rw [if_neg z, if_neg z, Int.add_zero]
    rw [e, sumN_add]
    congr 1
    by_cases z : S.b k < n
    · rw [if_pos z, sumN_one z fun i _ hne => if_neg fun y => hne y.symm, if_pos rfl]
    · rw [if_neg z]
      exact sumN_zero fun j hj => if_neg (by omega)
/-- weights that separate -/
structure SepW (p k1 k2 : Nat) (c : Nat → List Int) (w : Nat → Int) (q : Int) : Prop where
  w0 : ∀ j, j < p → 0 ≤ w j
  q0 : 0 ≤ q
  ins : ∀ r, r < k1 → q ≤ sumN p fun j => w j * chi c r j
  out : ∀ r, r < k2 → (sumN p fun j => w j * chi c (k1 + r) j) < q
/-- multipliers that forbid it -/
structure SepY (p k1 k2 : Nat) (c : Nat → List Int) (y : Nat → Int) : Prop where
  y0 : ∀ r, r < k1 + k2 → 0 ≤ y r
  pl : ∀ j, j < p → (sumN k1 fun r => y r * chi c r j) ≤ sumN k2 fun r => y (k1 + r) * chi c (k1 + r) j
  len : (sumN k2 fun r => y (k1 + r)) ≤ sumN k1 y
  pos : 0 < sumN k2 fun r => y (k1 + r)
theorem sepWY {w : Nat → Int} {q : Int} {y : Nat → Int} (W : SepW p k1 k2 c w q) (Y : SepY p k1 k2 c y) : False := by
  have sw : ∀ (k : Nat) (y : Nat → Int) (c : Nat → List Int), (sumN k fun r => y r * sumN p fun j => w j * chi c r j) = sumN p fun j => w j * sumN k fun r => y r * chi c r j := fun k y c => by
    have e1 : (sumN k fun r => y r * sumN p fun j => w j * chi c r j) = sumN k fun r => sumN p fun j => y r * (w j * chi c r j) := sumN_congr fun r _ => (sumN_mul _ _ _).symm
    have e2 : (sumN p fun j => w j * sumN k fun r => y r * chi c r j) = sumN p fun j => sumN k fun r => y r * (w j * chi c r j) := sumN_congr fun j _ => by
      rw [← sumN_mul]
      exact sumN_congr fun r _ => Int.mul_left_comm _ _ _
    rw [e1, e2, sumN_swap]
  have a1 : (sumN k1 fun r => y r * q) ≤ sumN k1 fun r => y r * sumN p fun j => w j * chi c r j := sumN_mono fun r hr => Int.mul_le_mul_of_nonneg_left (W.ins r hr) (Y.y0 r (by omega))
  have a2 : (sumN k2 fun r => y (k1 + r) * sumN p fun j => w j * chi c (k1 + r) j) ≤ sumN k2 fun r => y (k1 + r) * (q - 1) := sumN_mono fun r hr => Int.mul_le_mul_of_nonneg_left (by have := W.out r hr; omega) (Y.y0 _ (by omega))
  have a3 : (sumN p fun j => w j * sumN k1 fun r => y r * chi c r j) ≤ sumN p fun j => w j * sumN k2 fun r => y (k1 + r) * chi c (k1 + r) j := sumN_mono fun j hj => Int.mul_le_mul_of_nonneg_left (Y.pl j hj) (W.w0 j hj)
  rw [sumN_mulr] at a1 a2
  rw [sw k1 y c] at a1
  have a4 := sw k2 (fun r => y (k1 + r)) fun r => c (k1 + r)
  have a5 : (sumN k2 fun r => y (k1 + r) * sumN p fun j => w j * chi c (k1 + r) j) = sumN p fun j => w j * sumN k2 fun r => y (k1 + r) * chi c (k1 + r) j := a4
  rw [a5] at a2
  have a6 : (sumN k2 fun r => y (k1 + r)) * q ≤ sumN k1 y * q := Int.mul_le_mul_of_nonneg_right Y.len W.q0
  rw [Int.mul_sub] at a2
  have := Y.pos
  omega
theorem solv_nonneg (G : Good m n A S) (j : Nat) : 0 ≤ solv S (n + m) m j := by
  rcases solv_cases S (n + m) m j with ⟨a, _⟩ | ⟨i, h1, h2, h3⟩
  · rw [a]; exact Int.le_refl _
  · rw [h3]; exact G.rhs i h1
theorem sep_row (G : Good m (p + 1 + m) (colA p k1 m c) S) (hz : zr m (gA (p + 1 + m) m) S (p + 1 + m + m) = 0) {r : Nat} (hr : r < m) :
    sgR k1 r * (sumN p fun j => solv S (p + 1 + m + m) m j * chi c r j) - sgR k1 r * solv S (p + 1 + m + m) m p - solv S (p + 1 + m + m) m (p + 1 + r) = S.s * (if r < k1 then 0 else 1) := by
  have h := sol_at G hz hr
  rw [colA_rhs] at h
  rw [← h, ← solv_sum (fun a b ha hb e => b_inj G.inv ha hb e) (fun j => colA p k1 m c j r) m (Nat.le_refl _), sumN_cat]
  show _ = sumN p (fun j => solv S (p + 1 + m + m) m j * colA p k1 m c j r) + solv S (p + 1 + m + m) m p * colA p k1 m c p r + _
  have e1 : (sumN p fun j => solv S (p + 1 + m + m) m j * colA p k1 m c j r) = sgR k1 r * sumN p fun j => solv S (p + 1 + m + m) m j * chi c r j := by
    rw [← sumN_mul]
    refine sumN_congr fun j hj => ?_
    unfold colA
    rw [if_pos hj]
    exact Int.mul_left_comm _ _ _
  have e2 : colA p k1 m c p r = - sgR k1 r := by unfold colA; rw [if_neg (by omega), if_pos rfl]
  have e3 : (sumN m fun k => solv S (p + 1 + m + m) m (p + 1 + k) * colA p k1 m c (p + 1 + k) r) = - solv S (p + 1 + m + m) m (p + 1 + r) := by
    rw [sumN_one hr fun k hk hne => by
      unfold colA
      rw [if_neg (by omega), if_neg (by omega), if_pos (by omega), show p + 1 + k - (p + 1) = k by omega, show unit k r = 0 from if_neg fun z => hne z.symm]
      omega]
    unfold colA
    rw [if_neg (by omega), if_neg (by omega), if_pos (by omega), show p + 1 + r - (p + 1) = r by omega, show unit r r = 1 from if_pos rfl]
    omega
  rw [e1, e2, e3, Int.mul_neg, Int.mul_comm (solv S (p + 1 + m + m) m p)]
  omega
theorem sepW_of (G : Good (k1 + k2) (p + 1 + (k1 + k2)) (colA p k1 (k1 + k2) c) S) (hz : zr (k1 + k2) (gA (p + 1 + (k1 + k2)) (k1 + k2)) S (p + 1 + (k1 + k2) + (k1 + k2)) = 0) :
    SepW p k1 k2 c (solv S (p + 1 + (k1 + k2) + (k1 + k2)) (k1 + k2)) (solv S (p + 1 + (k1 + k2) + (k1 + k2)) (k1 + k2) p) := by
  refine ⟨fun j _ => solv_nonneg G j, solv_nonneg G p, fun r hr => ?_, fun r hr => ?_⟩
  · have h := sep_row G hz (r := r) (by omega)
    have h2 := solv_nonneg G (p + 1 + r)
    rw [if_pos hr, show sgR k1 r = 1 from if_pos hr, Int.one_mul, Int.one_mul, Int.mul_zero] at h
    omega
  · have h := sep_row G hz (r := k1 + r) (by omega)
    have h2 := solv_nonneg G (p + 1 + (k1 + r))
    have h3 := G.inv.pos
    rw [if_neg (by omega), show sgR k1 (k1 + r) = -1 from if_neg (by omega), Int.mul_one] at h
    omega
theorem sep_bdw (G : Good m (p + 1 + m) (colA p k1 m c) S) {j : Nat} (hj : j < p) : solv S (p + 1 + m + m) m j ≤ half p := by
  rcases solv_cases S (p + 1 + m + m) m j with ⟨a, _⟩ | ⟨i, h1, h2, h3⟩
  · rw [a]; exact half_nonneg p
  · rw [h3]
    exact (ab_le (colA_sep.w_bd G.inv G.bR h1 (by omega))).2
theorem sep_bdq (G : Good m (p + 1 + m) (colA p k1 m c) S) : solv S (p + 1 + m + m) m p ≤ half (p + 1) := by
  rcases solv_cases S (p + 1 + m + m) m p with ⟨a, _⟩ | ⟨i, h1, h2, h3⟩
  · rw [a]; exact half_nonneg _
  · rw [h3]
    exact (ab_le (colA_sep.q_bd G.inv G.bR h1 h2)).2
theorem sepY_of (G : Good (k1 + k2) (p + 1 + (k1 + k2)) (colA p k1 (k1 + k2) c) S) (hd : dec (k1 + k2) (p + 1 + (k1 + k2)) S = none) (hz : zr (k1 + k2) (gA (p + 1 + (k1 + k2)) (k1 + k2)) S (p + 1 + (k1 + k2) + (k1 + k2)) ≠ 0) :
    SepY p k1 k2 c (yv (k1 + k2) (p + 1 + (k1 + k2)) S) ∧ (sumN k2 fun r => yv (k1 + k2) (p + 1 + (k1 + k2)) S (k1 + r)) = zr (k1 + k2) (gA (p + 1 + (k1 + k2)) (k1 + k2)) S (p + 1 + (k1 + k2) + (k1 + k2)) := by
  have hu : ∀ k, k < k1 + k2 → ∀ q, q < k1 + k2 → colA p k1 (k1 + k2) c (p + 1 + (k1 + k2) + k) q = unit k q := fun k hk q _ => colA_art hk
  have hy : ∀ k, k < k1 + k2 → yv (k1 + k2) (p + 1 + (k1 + k2)) S k = mult (k1 + k2) (p + 1 + (k1 + k2)) (gA (p + 1 + (k1 + k2)) (k1 + k2)) S k := fun k hk => mult_at hu G hk
  have col : ∀ j, j < p + 1 + (k1 + k2) → (sumN (k1 + k2) fun k => yv (k1 + k2) (p + 1 + (k1 + k2)) S k * colA p k1 (k1 + k2) c j k) ≤ 0 := fun j hj => by
    have := mult_col hu G hj
    have h2 := dec_none G hd j hj
    rw [← this] at h2
    refine Int.le_trans (Int.le_of_eq (sumN_congr fun k hk => ?_)) h2
    rw [hy k hk]
  have rhs : (sumN k2 fun r => yv (k1 + k2) (p + 1 + (k1 + k2)) S (k1 + r)) = zr (k1 + k2) (gA (p + 1 + (k1 + k2)) (k1 + k2)) S (p + 1 + (k1 + k2) + (k1 + k2)) := by
    rw [← mult_rhs hu G, sumN_cat, sumN_zero (n := k1) fun r hr => by rw [colA_rhs, if_pos hr, Int.mul_zero], Int.zero_add]
    refine sumN_congr fun r hr => ?_
    rw [colA_rhs, if_neg (by omega), Int.mul_one, hy _ (by omega)]
  refine ⟨⟨fun r hr => ?_, fun j hj => ?_, ?_, ?_⟩, rhs⟩
  · have h := col (p + 1 + r) (by omega)
    rw [sumN_one hr fun k hk hne => by
      unfold colA
      rw [if_neg (by omega), if_neg (by omega), if_pos (by omega), show p + 1 + r - (p + 1) = r by omega, show unit r k = 0 from if_neg hne]
      omega] at h
    unfold colA at h
    rw [if_neg (by omega), if_neg (by omega), if_pos (by omega), show p + 1 + r - (p + 1) = r by omega, show unit r r = 1 from if_pos rfl] at h
    omega
  · have h := col j (by omega)
    rw [sumN_cat] at h
    have e1 : (sumN k1 fun k => yv (k1 + k2) (p + 1 + (k1 + k2)) S k * colA p k1 (k1 + k2) c j k) = sumN k1 fun r => yv (k1 + k2) (p + 1 + (k1 + k2)) S r * chi c r j := sumN_congr fun r hr => by
      unfold colA
      rw [if_pos hj, show sgR k1 r = 1 from if_pos hr, Int.one_mul]
    have e2 : (sumN k2 fun k => yv (k1 + k2) (p + 1 + (k1 + k2)) S (k1 + k) * colA p k1 (k1 + k2) c j (k1 + k)) = - sumN k2 fun r => yv (k1 + k2) (p + 1 + (k1 + k2)) S (k1 + r) * chi c (k1 + r) j := by
      rw [← sumN_neg]
      refine sumN_congr fun r hr => ?_
      unfold colA
      rw [if_pos hj, show sgR k1 (k1 + r) = -1 from if_neg (by omega), Int.neg_one_mul, Int.mul_neg]
    rw [e1, e2] at h
    omega
  · have h := col p (by omega)
    rw [sumN_cat] at h
    have e1 : (sumN k1 fun k => yv (k1 + k2) (p + 1 + (k1 + k2)) S k * colA p k1 (k1 + k2) c p k) = - sumN k1 fun r => yv (k1 + k2) (p + 1 + (k1 + k2)) S r := by
      rw [← sumN_neg]
      refine sumN_congr fun r hr => ?_
      unfold colA
      rw [if_neg (by omega), if_pos rfl, show sgR k1 r = 1 from if_pos hr]
      omega
    have e2 : (sumN k2 fun k => yv (k1 + k2) (p + 1 + (k1 + k2)) S (k1 + k) * colA p k1 (k1 + k2) c p (k1 + k)) = sumN k2 fun r => yv (k1 + k2) (p + 1 + (k1 + k2)) S (k1 + r) := by
      refine sumN_congr fun r hr => ?_
      unfold colA
      rw [if_neg (by omega), if_pos rfl, show sgR k1 (k1 + r) = -1 from if_neg (by omega)]
      omega
    rw [e1, e2] at h
    have h' : - sumN k1 (yv (k1 + k2) (p + 1 + (k1 + k2)) S) + (sumN k2 fun r => yv (k1 + k2) (p + 1 + (k1 + k2)) S (k1 + r)) ≤ 0 := h
    clear e1 e2 h
    omega
  · rw [rhs]
    have := (z_rhs G).1
    omega
/-- separated answers with weights, or with multipliers -/
theorem separated_law {i i0 i1 i2 i3 : Nat} (hF : fns[i]? = some (F_separated i0)) (h0 : fns[i0]? = some (F_solve i1 i2 i3)) (h1 : fns[i1]? = some F_entering_column) (h2 : fns[i2]? = some F_leaving_row) (h3 : fns[i3]? = some F_pivot) (c : Nat → List Int) (hp : p ≤ 6) (hm : k1 + k2 ≤ 40) :
    (∃ w q, SepW p k1 k2 c w q ∧ (∀ j, j < p → w j ≤ 36) ∧ q ≤ 144 ∧ At fns 3 i [.int (p : Int), .list ((List.range k1).map fun r => encK (c r)), .list ((List.range k2).map fun r => encK (c (k1 + r)))] (.ok (.tuple [.tuple [.int q, encK ((List.range p).map w)], .none]))) ∨
    ∃ y, SepY p k1 k2 c y ∧ (sumN k2 fun r => y (k1 + r)) ≤ (k2 : Int) * 36 ∧ At fns 3 i [.int (p : Int), .list ((List.range k1).map fun r => encK (c r)), .list ((List.range k2).map fun r => encK (c (k1 + r)))] (.ok (.tuple [.none, .tuple [.list ((List.range k1).map fun k => .int (y k)), .list ((List.range k2).map fun k => .int (y (k1 + k)))]])) := by
  obtain ⟨S, G, hd, hb, hA⟩ := separated_ok (c := c) hF h0 h1 h2 h3 hp hm
  unfold sepD at hA
  have b1 : half p ≤ 36 := Int.le_trans (half_mono hp) (by decide)
  have b2 : half (p + 1) ≤ 144 := Int.le_trans (half_mono (show p + 1 ≤ 7 by omega)) (by decide)
  by_cases hz : zr (k1 + k2) (gA (p + 1 + (k1 + k2)) (k1 + k2)) S (p + 1 + (k1 + k2) + (k1 + k2)) = 0
  · rw [if_pos hz] at hA
    exact .inl ⟨_, _, sepW_of G hz, fun j hj => Int.le_trans (sep_bdw G hj) b1, Int.le_trans (sep_bdq G) b2, hA⟩
  · rw [if_neg hz] at hA
    obtain ⟨Y, e⟩ := sepY_of G hd hz
    refine .inr ⟨_, Y, ?_, hA⟩
    rw [e]
    refine Int.le_trans hb (Int.mul_le_mul_of_nonneg_left ?_ (by omega))
    exact Int.le_trans (ab_le (colA_sep.s_bd G.inv G.bR)).2 b1
end
end Qw

set_option Elab.async false
set_option linter.all false
set_option maxRecDepth 100000
/-! A game of six players has at most twenty minimal winning coalitions. By an AI agent. -/
namespace Qw
open PySem L2
def chains : List (List (List Int)) := [[[], [0], [0, 1], [0, 1, 2], [0, 1, 2, 3], [0, 1, 2, 3, 4], [0, 1, 2, 3, 4, 5]], [[5], [0, 5], [0, 1, 5], [0, 1, 2, 5], [0, 1, 2, 3, 5]], [[4], [0, 4], [0, 1, 4], [0, 1, 2, 4], [0, 1, 2, 4, 5]], [[4, 5], [0, 4, 5], [0, 1, 4, 5]], [[3], [0, 3], [0, 1, 3], [0, 1, 3, 4], [0, 1, 3, 4, 5]], [[3, 5], [0, 3, 5], [0, 1, 3, 5]], [[3, 4], [0, 3, 4], [0, 3, 4, 5]], [[3, 4, 5]], [[2], [0, 2], [0, 2, 3], [0, 2, 3, 4], [0, 2, 3, 4, 5]], [[2, 5], [0, 2, 5], [0, 2, 3, 5]], [[2, 4], [0, 2, 4], [0, 2, 4, 5]], [[2, 4, 5]], [[2, 3], [2, 3, 4], [2, 3, 4, 5]], [[2, 3, 5]], [[1], [1, 2], [1, 2, 3], [1, 2, 3, 4], [1, 2, 3, 4, 5]], [[1, 5], [1, 2, 5], [1, 2, 3, 5]], [[1, 4], [1, 2, 4], [1, 2, 4, 5]], [[1, 4, 5]], [[1, 3], [1, 3, 4], [1, 3, 4, 5]], [[1, 3, 5]]]
def chainB : Bool := (chains.all fun ch => ch.all fun a => ch.all fun b => subB a b || subB b a) && (subs 6).all fun c => chains.any fun ch => ch.any fun a => eqL a c
theorem chain_ok : chainB = true := by decide +kernel
theorem subs_mono {n m : Nat} (h : n ≤ m) {c : List Int} (hc : c ∈ subs n) : c ∈ subs m := mem_subs (subs_inc hc) fun x hx => by
  have := subs_lt hc x hx
  omega
theorem sperner {l : List (List Int)} {n : Nat} (hn : n ≤ 6) (nd : l.Nodup) (hs : ∀ c ∈ l, c ∈ subs n) (anti : ∀ a ∈ l, ∀ b ∈ l, a ≠ b → ¬ ∀ x ∈ a, x ∈ b) : l.length ≤ 20 := by
  have h := chain_ok
  unfold chainB at h
  rw [Bool.and_eq_true, List.all_eq_true, List.all_eq_true] at h
  obtain ⟨h1, h2⟩ := h
  let f : List Int → Nat := fun c => chains.findIdx fun ch => ch.any fun a => eqL a c
  have hf : ∀ c ∈ l, f c < chains.length := fun c hc => by
    refine List.findIdx_lt_length_of_exists ?_
    have := h2 c (subs_mono hn (hs c hc))
    rw [List.any_eq_true] at this
    exact this
  have nd2 : (l.map f).Nodup := by
    show List.Pairwise _ _
    rw [List.pairwise_map]
    refine List.Pairwise.imp_of_mem (fun {a b} ha hb hab e => ?_) nd
    have la := hf a ha
    have pa := List.findIdx_getElem (w := la)
    have lb := hf b hb
    have pb := List.findIdx_getElem (w := lb)
    have hch := List.getElem_mem la
    have e2 : chains[chains.findIdx fun ch => ch.any fun x => eqL x b] = chains[chains.findIdx fun ch => ch.any fun x => eqL x a] := by
      congr 1
      exact e.symm
    rw [e2] at pb
    rw [List.any_eq_true] at pa pb
    obtain ⟨a', ma, ea⟩ := pa
    obtain ⟨b', mb, eb⟩ := pb
    have ea := eqL_iff.mp ea
    have eb := eqL_iff.mp eb
    subst ea
    subst eb
    have := h1 _ hch
    rw [List.all_eq_true] at this
    have := this _ ma
    rw [List.all_eq_true] at this
    have := this _ mb
    rw [Bool.or_eq_true, subB_iff, subB_iff] at this
    rcases this with z | z
    · exact anti _ ha _ hb hab z
    · exact anti _ hb _ ha (fun e => hab e.symm) z
  have := Det.nodup_len (b := List.range 20) nd2 fun x hx => by
    obtain ⟨c, hc, rfl⟩ := List.mem_map.mp hx
    exact List.mem_range.mpr (hf c hc)
  rw [List.length_map, List.length_range] at this
  exact this
theorem Game.len {n : Nat} {ms : List (List Int)} (G : Game n ms) (hn : n ≤ 6) : ms.length ≤ 20 := sperner hn (G.inc.imp fun h e => by rw [e] at h; exact List.lt_irrefl _ h) (fun c hc => (G.mem c hc).1) G.anti
theorem maxL_anti {n : Nat} {ms : List (List Int)} {a b : List Int} (ha : a ∈ maxL n ms) (hb : b ∈ maxL n ms) (hne : a ≠ b) (h : ∀ x ∈ a, x ∈ b) : False := by
  obtain ⟨a1, a2, a3⟩ := maxL_mem.mp ha
  obtain ⟨b1, b2, b3⟩ := maxL_mem.mp hb
  by_cases z : ∃ p, p ∈ b ∧ p ∉ a
  · obtain ⟨p, p1, p2⟩ := z
    have := a3 p (rng_mem.mpr (subs_lt b1 p p1)) p2
    rw [winB_mono (a := a ++ [p]) (b := b) (fun x hx => by
      rcases List.mem_append.mp hx with y | y
      · exact h x y
      · rw [List.mem_singleton] at y; rw [y]; exact p1) this] at b2
    cases b2
  · refine hne (inc_ext (subs_inc a1) (subs_inc b1) fun x => ⟨h x, fun hx => ?_⟩)
    refine Classical.byContradiction fun hn => z ⟨x, hx, hn⟩
theorem maxL_len {n : Nat} (ms : List (List Int)) (hn : n ≤ 6) : (maxL n ms).length ≤ 20 := sperner hn (maxL_nodup n ms) (fun c hc => (maxL_mem.mp hc).1) fun a ha b hb hne h => maxL_anti ha hb hne h
end Qw

set_option Elab.async false
set_option linter.all false
set_option maxRecDepth 100000
set_option maxHeartbeats 4000000
/-! Weights of coalitions; separated over lists. By an AI agent. -/
namespace Qw
open PySem L2 Qw.Det
/-- a coalition's weight -/
def wsum (W : List Int) (c : List Int) : Int := (c.map fun x => wt W x).sum
theorem wsum_range (f : Nat → Int) {n : Nat} {j : Nat} (hj : j < n) : wt ((List.range n).map f) (j : Int) = f j := by
  unfold wt
  rw [Int.toNat_natCast, List.getD_eq_getElem?_getD, List.getElem?_map, List.getElem?_range hj]
  rfl
theorem sum_zero {α : Type} {l : List α} {f : α → Int} (h : ∀ a ∈ l, f a = 0) : (l.map f).sum = 0 := by
  induction l with
  | nil => rfl
  | cons a l ih =>
    rw [List.map_cons, List.sum_cons, h a List.mem_cons_self, ih fun b hb => h b (List.mem_cons_of_mem _ hb)]
    rfl
theorem sum_add {α : Type} (l : List α) (f g : α → Int) : (l.map fun a => f a + g a).sum = (l.map f).sum + (l.map g).sum := by
  induction l with
  | nil => rfl
  | cons a l ih => simp -implicitDefEqProofs only [List.map_cons, List.sum_cons, ih]; omega
theorem sum_mul {α : Type} (l : List α) (k : Int) (f : α → Int) : (l.map fun a => k * f a).sum = k * (l.map f).sum := by
  induction l with
  | nil => simp
  | cons a l ih => simp -implicitDefEqProofs only [List.map_cons, List.sum_cons, ih, Int.mul_add]
theorem sum_le {α : Type} {l : List α} {f g : α → Int} (h : ∀ a ∈ l, f a ≤ g a) : (l.map f).sum ≤ (l.map g).sum := by
  induction l with
  | nil => exact Int.le_refl _
  | cons a l ih =>
    have h1 := h a List.mem_cons_self
    have h2 := ih fun b hb => h b (List.mem_cons_of_mem _ hb)
    simp -implicitDefEqProofs only [List.map_cons, List.sum_cons]
    omega
theorem sum_swap {α β : Type} (l : List α) (l' : List β) (f : α → β → Int) : (l.map fun a => (l'.map fun b => f a b).sum).sum = (l'.map fun b => (l.map fun a => f a b).sum).sum := by
  induction l with
  | nil => simp -implicitDefEqProofs only [List.map_nil, List.sum_nil]; exact (sum_zero fun _ _ => rfl).symm
  | cons a l ih => simp -implicitDefEqProofs only [List.map_cons, List.sum_cons]; rw [ih, ← sum_add]
/-- a coalition's sum, over all players -/
theorem sum_filter {α : Type} (p : α → Bool) (f : α → Int) (l : List α) : ((l.filter p).map f).sum = (l.map fun a => if p a = true then f a else 0).sum := by
  induction l with
  | nil => rfl
  | cons a l ih =>
    cases e : p a with
    | true => rw [List.filter_cons_of_pos e]; simp -implicitDefEqProofs only [List.map_cons, List.sum_cons, ih, e, if_true]
    | false => rw [List.filter_cons_of_neg (by rw [e]; exact Bool.false_ne_true)]; simp -implicitDefEqProofs only [List.map_cons, List.sum_cons, ih, e]; simp
theorem subs_filter {n : Nat} {c : List Int} (hc : c ∈ subs n) : c = (rng n).filter fun x => decide (x ∈ c) := by
  refine inc_ext (subs_inc hc) ((rng_inc n).filter _) fun x => ?_
  rw [List.mem_filter, decide_eq_true_eq]
  exact ⟨fun h => ⟨rng_mem.mpr (subs_lt hc x h), h⟩, fun h => h.2⟩
theorem sum_rng (f : Int → Int) (n : Nat) : ((rng n).map f).sum = sumN n fun j => f (j : Int) := by
  unfold rng
  rw [List.map_map, ← sum_rg]
  rfl
theorem wsum_all {n : Nat} {c : List Int} (hc : c ∈ subs n) (f : Int → Int) : (c.map f).sum = ((rng n).map fun x => if x ∈ c then f x else 0).sum := by
  conv => lhs; rw [subs_filter hc]
  rw [sum_filter]
  congr 1
  refine List.map_congr_left fun x _ => ?_
  by_cases h : x ∈ c <;> simp [h]
theorem wsum_N {n : Nat} {c : List Int} (hc : c ∈ subs n) (W : List Int) : wsum W c = sumN n fun j => wt W (j : Int) * (if (j : Int) ∈ c then 1 else 0) := by
  unfold wsum
  rw [wsum_all hc, sum_rng]
  refine sumN_congr fun j _ => ?_
  by_cases h : (j : Int) ∈ c
  · rw [if_pos h, if_pos h, Int.mul_one]
  · rw [if_neg h, if_neg h, Int.mul_zero]
theorem wt_nonneg {W : List Int} (h : ∀ x ∈ W, 0 ≤ x) (p : Int) : 0 ≤ wt W p := by
  unfold wt
  rw [List.getD_eq_getElem?_getD]
  cases e : W[p.toNat]? with
  | none => exact Int.le_refl _
  | some x => exact h x (List.mem_of_getElem? e)
theorem wsum_nonneg {W : List Int} (h : ∀ x ∈ W, 0 ≤ x) (c : List Int) : 0 ≤ wsum W c := sum_nonneg fun x hx => by
  obtain ⟨y, _, rfl⟩ := List.mem_map.mp hx
  exact wt_nonneg h y
theorem wsum_mono {n : Nat} {W : List Int} (h : ∀ x ∈ W, 0 ≤ x) {a b : List Int} (ha : a ∈ subs n) (hb : b ∈ subs n) (hs : ∀ x ∈ a, x ∈ b) : wsum W a ≤ wsum W b := by
  unfold wsum
  rw [wsum_all ha, wsum_all hb]
  refine sum_le fun x _ => ?_
  by_cases z : x ∈ a
  · rw [if_pos z, if_pos (hs x z)]; exact Int.le_refl _
  · rw [if_neg z]
    split
    · exact wt_nonneg h x
    · exact Int.le_refl _
/-- weights and a quota that represent a game -/
structure Rep (n : Nat) (ms : List (List Int)) (W : List Int) (q : Int) : Prop where
  len : W.length = n
  pos : ∀ x ∈ W, 0 ≤ x
  win : ∀ c ∈ subs n, winB ms c = decide (q ≤ wsum W c)
/-- weights that keep two lists apart -/
structure Apart (n : Nat) (ins out : List (List Int)) (W : List Int) (q : Int) : Prop where
  len : W.length = n
  pos : ∀ x ∈ W, 0 ≤ x
  q0 : 0 ≤ q
  ins : ∀ c ∈ ins, q ≤ wsum W c
  out : ∀ c ∈ out, wsum W c < q
/-- multipliers against it -/
structure Mul (n : Nat) (ins out : List (List Int)) (y z : List Int) : Prop where
  yl : y.length = ins.length
  zl : z.length = out.length
  y0 : ∀ x ∈ y, 0 ≤ x
  z0 : ∀ x ∈ z, 0 ≤ x
  pl : ∀ p ∈ rng n, ((y.zip ins).map fun e => e.1 * (if p ∈ e.2 then 1 else 0)).sum ≤ ((z.zip out).map fun e => e.1 * (if p ∈ e.2 then 1 else 0)).sum
  tot : z.sum ≤ y.sum
  zp : 0 < z.sum
def Wtd (n : Nat) (ms : List (List Int)) : Prop := ∃ W q, Rep n ms W q
theorem Rep.q1 {n : Nat} {ms : List (List Int)} {W : List Int} {q : Int} (h : Rep n ms W q) (G : Game n ms) : 0 < q := by
  have := h.win [] (nil_subs n)
  rw [G.nil] at this
  have := of_decide_eq_false this.symm
  have e : wsum W [] = 0 := rfl
  omega
theorem Rep.qt {n : Nat} {ms : List (List Int)} {W : List Int} {q : Int} (h : Rep n ms W q) (G : Game n ms) : q ≤ wsum W (rng n) := by
  have := h.win (rng n) (rng_subs n)
  rw [G.full] at this
  exact of_decide_eq_true this.symm
theorem apart_rep {n : Nat} {ms : List (List Int)} {W : List Int} {q : Int} (G : Game n ms) : Apart n ms (maxL n ms) W q ↔ Rep n ms W q := by
  constructor
  · intro h
    refine ⟨h.len, h.pos, fun c hc => ?_⟩
    cases e : winB ms c with
    | true =>
      obtain ⟨m, m1, m2⟩ := winB_iff.mp e
      have := h.ins m m1
      have := wsum_mono h.pos (G.mem m m1).1 hc m2
      rw [decide_eq_true (by omega)]
    | false =>
      obtain ⟨L, l1, l2⟩ := max_above (n := n) (ms := ms) _ c (Nat.le_refl _) hc e
      have := h.out L l1
      have := wsum_mono h.pos hc (maxL_mem.mp l1).1 l2
      rw [decide_eq_false (by omega)]
  · intro h
    refine ⟨h.len, h.pos, Int.le_of_lt (h.q1 G), fun c hc => ?_, fun c hc => ?_⟩
    · have := h.win c (G.mem c hc).1
      rw [winB_iff.mpr ⟨c, hc, fun x hx => hx⟩] at this
      exact of_decide_eq_true this.symm
    · obtain ⟨c1, c2, _⟩ := maxL_mem.mp hc
      have := h.win c c1
      rw [c2] at this
      have := of_decide_eq_false this.symm
      omega
theorem list_rg {α : Type} (d : α) (l : List α) : l = (List.range l.length).map fun i => l.getD i d := by
  refine List.ext_getElem? fun k => ?_
  rw [List.getElem?_map]
  by_cases h : k < l.length
  · rw [List.getElem?_range h, List.getElem?_eq_getElem h]
    simp [List.getD_eq_getElem?_getD, List.getElem?_eq_getElem h]
  · rw [List.getElem?_eq_none (by omega), List.getElem?_eq_none (by rw [List.length_range]; omega)]
    rfl
theorem zip_sum {β : Type} (y : Nat → Int) (c : Nat → β) (f : Int → β → Int) (k : Nat) : ((((List.range k).map y).zip ((List.range k).map c)).map fun e => f e.1 e.2).sum = sumN k fun r => f (y r) (c r) := by
  rw [zip_rg, List.map_map, ← sum_rg]
  rfl
section
variable {fns : List Fn} {n : Nat}
theorem sep_lists {i i0 i1 i2 i3 : Nat} (hF : fns[i]? = some (F_separated i0)) (h0 : fns[i0]? = some (F_solve i1 i2 i3)) (h1 : fns[i1]? = some F_entering_column) (h2 : fns[i2]? = some F_leaving_row) (h3 : fns[i3]? = some F_pivot) (hp : n ≤ 6) {ins out : List (List Int)} (hi : ∀ c ∈ ins, c ∈ subs n) (ho : ∀ c ∈ out, c ∈ subs n) (hm : ins.length + out.length ≤ 40) :
    (∃ W q, Apart n ins out W q ∧ (∀ x ∈ W, x ≤ 36) ∧ q ≤ 144 ∧ At fns 3 i [.int (n : Int), .list (ins.map encK), .list (out.map encK)] (.ok (.tuple [.tuple [.int q, encK W], .none]))) ∨
    ((∀ W q, ¬ Apart n ins out W q) ∧ ∃ y z, Mul n ins out y z ∧ z.sum ≤ (out.length : Int) * 36 ∧ At fns 3 i [.int (n : Int), .list (ins.map encK), .list (out.map encK)] (.ok (.tuple [.none, .tuple [.list (y.map .int), .list (z.map .int)]]))) := by
  let c : Nat → List Int := fun r => (ins ++ out).getD r []
  have e1 : ins = (List.range ins.length).map c := by
    conv => lhs; rw [list_rg [] ins]
    refine List.map_congr_left fun r hr => ?_
    show ins.getD r [] = (ins ++ out).getD r []
    rw [List.getD_eq_getElem?_getD, List.getD_eq_getElem?_getD, List.getElem?_append_left (List.mem_range.mp hr)]
  have e2 : out = (List.range out.length).map fun r => c (ins.length + r) := by
    conv => lhs; rw [list_rg [] out]
    refine List.map_congr_left fun r hr => ?_
    show out.getD r [] = (ins ++ out).getD (ins.length + r) []
    rw [List.getD_eq_getElem?_getD, List.getD_eq_getElem?_getD, List.getElem?_append_right (by omega), show ins.length + r - ins.length = r by omega]
  have d1 : ins.map encK = (List.range ins.length).map fun r => encK (c r) := by
    conv => lhs; rw [e1]
    rw [List.map_map]; rfl
  have d2 : out.map encK = (List.range out.length).map fun r => encK (c (ins.length + r)) := by
    conv => lhs; rw [e2]
    rw [List.map_map]; rfl
  have m1 : ∀ r, r < ins.length → c r ∈ ins := fun r hr => by
    rw [e1]; exact List.mem_map.mpr ⟨r, List.mem_range.mpr hr, rfl⟩
  have m2 : ∀ r, r < out.length → c (ins.length + r) ∈ out := fun r hr => by
    have : c (ins.length + r) ∈ (List.range out.length).map fun r => c (ins.length + r) := List.mem_map.mpr ⟨r, List.mem_range.mpr hr, rfl⟩
    rw [← e2] at this
    exact this
  have ap : ∀ W q, Apart n ins out W q → SepW n ins.length out.length c (fun j => wt W (j : Int)) q := fun W q h => ⟨fun j _ => wt_nonneg h.pos _, h.q0, fun r hr => by
      have := h.ins _ (m1 r hr)
      rw [wsum_N (hi _ (m1 r hr))] at this
      exact this, fun r hr => by
      have := h.out _ (m2 r hr)
      rw [wsum_N (ho _ (m2 r hr))] at this
      exact this⟩
  rw [d1, d2]
  rcases separated_law hF h0 h1 h2 h3 (p := n) (k1 := ins.length) (k2 := out.length) c hp hm with ⟨w, q, W, b1, b2, hA⟩ | ⟨y, Y, b1, hA⟩
  · refine .inl ⟨(List.range n).map w, q, ⟨by rw [rg_len], fun x hx => ?_, W.q0, fun d hd => ?_, fun d hd => ?_⟩, fun x hx => ?_, b2, hA⟩
    · obtain ⟨j, hj, rfl⟩ := List.mem_map.mp hx
      exact W.w0 j (List.mem_range.mp hj)
    · have hd' := hd
      rw [e1] at hd'
      obtain ⟨r, hr, rfl⟩ := List.mem_map.mp hd'
      have := W.ins r (List.mem_range.mp hr)
      rw [wsum_N (hi _ hd)]
      refine Int.le_trans this (Int.le_of_eq (sumN_congr fun j hj => ?_))
      rw [wsum_range w hj]
      rfl
    · have hd' := hd
      rw [e2] at hd'
      obtain ⟨r, hr, rfl⟩ := List.mem_map.mp hd'
      have := W.out r (List.mem_range.mp hr)
      rw [wsum_N (ho _ hd)]
      refine Int.lt_of_le_of_lt (Int.le_of_eq (sumN_congr fun j hj => ?_)) this
      rw [wsum_range w hj]
      rfl
    · obtain ⟨j, hj, rfl⟩ := List.mem_map.mp hx
      exact b1 j (List.mem_range.mp hj)
  · refine .inr ⟨fun W q h => sepWY (ap W q h) Y, (List.range ins.length).map y, (List.range out.length).map fun k => y (ins.length + k), ⟨rg_len _ _, rg_len _ _, fun x hx => ?_, fun x hx => ?_, fun p hp => ?_, ?_, ?_⟩, ?_, ?_⟩
    · obtain ⟨j, hj, rfl⟩ := List.mem_map.mp hx
      exact Y.y0 j (by have := List.mem_range.mp hj; omega)
    · obtain ⟨j, hj, rfl⟩ := List.mem_map.mp hx
      exact Y.y0 _ (by have := List.mem_range.mp hj; omega)
    · have hp' := rng_mem.mp hp
      have := Y.pl p.toNat (by omega)
      have ep : ((p.toNat : Nat) : Int) = p := by omega
      have s1 : (((((List.range ins.length).map y).zip ins).map fun e => e.1 * (if p ∈ e.2 then 1 else 0)).sum : Int) = sumN ins.length fun r => y r * chi c r p.toNat := by
        have := zip_sum y c (fun a b => a * (if p ∈ b then 1 else 0)) ins.length
        rw [← e1] at this
        rw [this]
        refine sumN_congr fun r _ => ?_
        unfold chi
        rw [ep]
      have s2 : (((((List.range out.length).map fun k => y (ins.length + k)).zip out).map fun e => e.1 * (if p ∈ e.2 then 1 else 0)).sum : Int) = sumN out.length fun r => y (ins.length + r) * chi c (ins.length + r) p.toNat := by
        have := zip_sum (fun k => y (ins.length + k)) (fun k => c (ins.length + k)) (fun a b => a * (if p ∈ b then 1 else 0)) out.length
        rw [← e2] at this
        rw [this]
        refine sumN_congr fun r _ => ?_
        unfold chi
        rw [ep]
      rw [s1, s2]
      exact this
    · rw [sum_rg, sum_rg]; exact Y.len
    · rw [sum_rg]; exact Y.pos
    · rw [sum_rg]; exact b1
    · rw [List.map_map, List.map_map]; exact hA
end
end Qw

set_option Elab.async false
set_option linter.all false
set_option maxRecDepth 100000
set_option maxHeartbeats 4000000
/-! Systems: the defs of weights, walked. By an AI agent. -/
namespace Qw
open PySem L2 Qw.Det
/-- a system for n players -/
def isSysB (n : Nat) : D → Bool
  | .tuple [q, .tuple ws] => decide (ws.length = n) && (ws.all (inR 0 999) && inR 1 5994 q)
  | _ => false
def sysD (q : Int) (W : List Int) : D := .tuple [.int q, encK W]
theorem two_of {α : Type} {ds : List α} (h : ds.length = 2) : ∃ x y, ds = [x, y] := by
  match ds, h with
  | [x, y], _ => exact ⟨x, y, rfl⟩
theorem isSys_two (n : Nat) (q : D) (ws : List D) : isSysB n (.tuple [q, .tuple ws]) = (decide (ws.length = n) && (ws.all (inR 0 999) && inR 1 5994 q)) := rfl
theorem sys_len {n : Nat} {ds : List D} (h : ds.length ≠ 2) : isSysB n (.tuple ds) = false := by
  unfold isSysB
  split
  · rename_i e; cases e; exact absurd rfl h
  · rfl
theorem isSys_of {n : Nat} {v : D} (h : isSysB n v = true) : ∃ q W, v = sysD q W ∧ W.length = n ∧ (∀ x ∈ W, 0 ≤ x ∧ x ≤ 999) ∧ 1 ≤ q ∧ q ≤ 5994 := by
  unfold isSysB at h
  split at h
  · rename_i q ws
    rw [Bool.and_eq_true, Bool.and_eq_true, decide_eq_true_eq, List.all_eq_true] at h
    obtain ⟨x, rfl, hx⟩ := inR_of h.2.2
    obtain ⟨c, rfl, hc⟩ := ints_of_inR h.2.1
    refine ⟨x, c, rfl, ?_, hc, hx.1, hx.2⟩
    rw [← h.1, List.length_map]
  · cases h
theorem inR_int (lo hi x : Int) : inR lo hi (.int x) = decide (lo ≤ x ∧ x ≤ hi) := rfl
theorem isSys_mk {n : Nat} {q : Int} {W : List Int} (hl : W.length = n) (hw : ∀ x ∈ W, 0 ≤ x ∧ x ≤ 999) (h1 : 1 ≤ q) (h2 : q ≤ 5994) : isSysB n (sysD q W) = true := by
  show (decide ((W.map PyData.int).length = n) && ((W.map PyData.int).all (inR 0 999) && inR 1 5994 (.int q))) = true
  rw [List.length_map, decide_eq_true hl, Bool.true_and, List.all_map, Bool.and_eq_true, List.all_eq_true]
  exact ⟨fun x hx => decide_eq_true (hw x hx), decide_eq_true ⟨h1, h2⟩⟩
def sysOf : D → Option (Int × List Int)
  | .tuple [.int q, .tuple ws] => (intsOf ws).map fun W => (q, W)
  | _ => none
theorem sysOf_mk (q : Int) (W : List Int) : sysOf (sysD q W) = some (q, W) := by
  show (intsOf (W.map PyData.int)).map _ = _
  rw [intsOf_map]
  rfl
def repB (n : Nat) (ms : List (List Int)) (v : D) : Bool := isSysB n v && match sysOf v with
  | some (q, W) => (allC n).all fun c => decide (q ≤ wsum W c) == winB ms c
  | none => false
theorem rep_repB {n : Nat} {ms : List (List Int)} {q : Int} {W : List Int} (h : Rep n ms W q) (hw : ∀ x ∈ W, x ≤ 999) (h1 : 1 ≤ q) (h2 : q ≤ 5994) : repB n ms (sysD q W) = true := by
  unfold repB
  rw [isSys_mk h.len (fun x hx => ⟨h.pos x hx, hw x hx⟩) h1 h2, sysOf_mk, Bool.true_and]
  show ((allC n).all fun c => decide (q ≤ wsum W c) == winB ms c) = true
  rw [List.all_eq_true]
  intro c hc
  rw [h.win c (allC_mem.mp hc)]
  exact beq_self_eq_true _
theorem idx_W {W : List Int} {x : Int} (h0 : 0 ≤ x) (h1 : x < W.length) : dIdx (encK W) (.int x) = .ok (.int (wt W x)) := by
  have hx : ((x.toNat : Nat) : Int) = x := by omega
  have hl : x.toNat < W.length := by omega
  have := idx_T (enc := PyData.int) (l := W) (k := x.toNat) (x := W[x.toNat]) (List.getElem?_eq_getElem hl)
  rw [hx] at this
  rw [show wt W x = W[x.toNat] by unfold wt; rw [List.getD_eq_getElem?_getD, List.getElem?_eq_getElem hl]; rfl]
  exact this
section
variable {fns : List Fn} {i j a b c d e n : Nat} {ms : List (List Int)}
theorem mul5994 : dBin .mul (.int 999) (.int 6) = .ok (.int 5994) := by
  rw [bin_mul _ _ (mulOk_r _ _ (by omega))]
  rfl
theorem is_system_gen (h : fns[i]? = some (F_is_system j)) (hj : fns[j]? = some F_in_range) (n : Nat) {v : D} (hv : v.plain = true) : At fns 2 i [.int n, v] (.ok (.bool (isSysB n v))) := by
  refine At.mk h rfl fun m hm => ?_
  have c3 : ∀ {w : D}, w.plain = true → ∀ lo hi, evFn fns m j [w, .int lo, .int hi] = .ok (.bool (inR lo hi w)) := fun hw lo hi => in_range_gen hj (plain_nod hw) lo hi m hm
  cases v with
  | dict _ => cases hv
  | tuple ds =>
    by_cases h2 : ds.length = 2
    · obtain ⟨q, w, rfl⟩ := two_of h2
      have hp : q.plain = true ∧ w.plain = true := by simpa [PyData.plain, PyData.plainAll] using hv
      have ql : dLen (.tuple [q, w]) = .ok (.int 2) := rfl
      have q0 : dIdx (.tuple [q, w]) (.int 0) = .ok q := rfl
      have q1 : dIdx (.tuple [q, w]) (.int 1) = .ok w := rfl
      cases w with
      | dict _ => cases hp.2
      | tuple ws =>
        have hws : ∀ d ∈ ws, d.plain = true := plain_mem (by simpa [PyData.plain] using hp.2)
        by_cases hl : ws.length = n
        · have hl' : decide ((ws.length : Int) = (n : Int)) = true := decide_eq_true (by omega)
          simp_arith! only [F_is_system, List.map_cons, List.map_nil, List.length_cons, List.length_nil, List.replicate_succ, List.replicate_zero, List.append_nil, Nat.zero_add, Nat.reduceAdd, Nat.reduceSub, ql, q0, q1, len_T, hl', decide_true]
          rw [comp_fltD (fun d => !inR 0 999 d) fun d hd => by
            simp_arith [c3 (hws d hd)]]
          simp_arith! only [filter_none, mul5994, c3 hp.1, q0]
          rw [isSys_two, decide_eq_true hl]
          cases z : ws.all (inR 0 999) <;> simp_arith! only [z, c3 hp.1, mul5994, q0]
        · have hl' : decide ((ws.length : Int) = (n : Int)) = false := decide_eq_false (by omega)
          simp_arith! only [F_is_system, List.map_cons, List.map_nil, List.length_cons, List.length_nil, List.replicate_succ, List.replicate_zero, List.append_nil, Nat.zero_add, Nat.reduceAdd, Nat.reduceSub, ql, q0, q1, len_T, hl', decide_true]
          rw [isSys_two, decide_eq_false hl]
          rfl
      | _ => simp_arith! only [F_is_system, List.map_cons, List.map_nil, List.length_cons, List.length_nil, List.replicate_succ, List.replicate_zero, List.append_nil, Nat.zero_add, Nat.reduceAdd, Nat.reduceSub, ql, q0, q1, decide_true, isSysB]
    · have h2' : decide ((ds.length : Int) = 2) = false := decide_eq_false (by omega)
      simp_arith! only [F_is_system, List.map_cons, List.map_nil, List.length_cons, List.length_nil, List.replicate_succ, List.replicate_zero, List.append_nil, Nat.zero_add, Nat.reduceAdd, Nat.reduceSub, len_T, h2', sys_len h2]
  | _ => simp_arith! only [F_is_system, List.map_cons, List.map_nil, List.length_cons, List.length_nil, List.replicate_succ, List.replicate_zero, List.append_nil, Nat.zero_add, Nat.reduceAdd, Nat.reduceSub, isSysB]
theorem law_is_system_gen (h : fns[i]? = some (F__law_is_system j)) (hj : fns[j]? = some (F__law_in a)) (ha : fns[a]? = some F__law_whole) (n : Nat) {v : D} (hv : v.plain = true) : At fns 3 i [.int n, v] (.ok (.bool (isSysB n v))) := by
  refine At.mk h rfl fun m hm => ?_
  have c3 : ∀ {w : D}, w.plain = true → ∀ lo hi, evFn fns m j [w, .int lo, .int hi] = .ok (.bool (inR lo hi w)) := fun hw lo hi => law_in_gen hj ha (plain_nod hw) lo hi m hm
  cases v with
  | dict _ => cases hv
  | tuple ds =>
    by_cases h2 : ds.length = 2
    · obtain ⟨q, w, rfl⟩ := two_of h2
      have hp : q.plain = true ∧ w.plain = true := by simpa [PyData.plain, PyData.plainAll] using hv
      have ql : dLen (.tuple [q, w]) = .ok (.int 2) := rfl
      have q0 : dIdx (.tuple [q, w]) (.int 0) = .ok q := rfl
      have q1 : dIdx (.tuple [q, w]) (.int 1) = .ok w := rfl
      cases w with
      | dict _ => cases hp.2
      | tuple ws =>
        have hpa : PyData.plainAll ws = true := by simpa [PyData.plain] using hp.2
        have hws : ∀ d ∈ ws, d.plain = true := plain_mem hpa
        by_cases hl : ws.length = n
        · have hl' : decide ((ws.length : Int) = (n : Int)) = true := decide_eq_true (by omega)
          simp_arith! only [F__law_is_system, List.map_cons, List.map_nil, List.length_cons, List.length_nil, List.replicate_succ, List.replicate_zero, List.append_nil, Nat.zero_add, Nat.reduceAdd, Nat.reduceSub, ql, q0, q1, len_T, hl', decide_true]
          rw [comp_fltD (fun d => !inR 0 999 d) fun d hd => by
            simp_arith [c3 (hws d hd)]]
          have hpf : PyData.plainAll (ws.filter fun d => !inR 0 999 d) = true := plainAll_of fun d hd => hws d (List.mem_filter.mp hd).1
          simp_arith! only [cmp_nil _ hpf, filter_none, c3 hp.1, q0]
          rw [isSys_two, decide_eq_true hl]
          cases z : ws.all (inR 0 999) <;> simp_arith! only [z, c3 hp.1, q0]
        · have hl' : decide ((ws.length : Int) = (n : Int)) = false := decide_eq_false (by omega)
          simp_arith! only [F__law_is_system, List.map_cons, List.map_nil, List.length_cons, List.length_nil, List.replicate_succ, List.replicate_zero, List.append_nil, Nat.zero_add, Nat.reduceAdd, Nat.reduceSub, ql, q0, q1, len_T, hl', decide_true]
          rw [isSys_two, decide_eq_false hl]
          rfl
      | _ => simp_arith! only [F__law_is_system, List.map_cons, List.map_nil, List.length_cons, List.length_nil, List.replicate_succ, List.replicate_zero, List.append_nil, Nat.zero_add, Nat.reduceAdd, Nat.reduceSub, ql, q0, q1, decide_true, isSysB]
    · have h2' : decide ((ds.length : Int) = 2) = false := decide_eq_false (by omega)
      simp_arith! only [F__law_is_system, List.map_cons, List.map_nil, List.length_cons, List.length_nil, List.replicate_succ, List.replicate_zero, List.append_nil, Nat.zero_add, Nat.reduceAdd, Nat.reduceSub, len_T, h2', sys_len h2]
  | _ => simp_arith! only [F__law_is_system, List.map_cons, List.map_nil, List.length_cons, List.length_nil, List.replicate_succ, List.replicate_zero, List.append_nil, Nat.zero_add, Nat.reduceAdd, Nat.reduceSub, isSysB]
theorem weight_of_ok (h : fns[i]? = some F_weight_of) {W c : List Int} (hc : ∀ x ∈ c, 0 ≤ x ∧ x < W.length) : At fns 1 i [encK W, encK c] (.ok (.int (wsum W c))) := by
  refine At.mk h rfl fun m _ => ?_
  simp_arith! only [F_weight_of, List.map_cons, List.map_nil, List.length_cons, List.length_nil, List.replicate_succ, List.replicate_zero, List.append_nil, Nat.zero_add, Nat.reduceAdd, Nat.reduceSub]
  rw [comp_map (enc := PyData.int) (fun x => PyData.int (wt W x)) fun x hx => by
    simp_arith [idx_W (hc x hx).1 (hc x hx).2]]
  have := sum_L (c.map fun x => wt W x)
  rw [List.map_map] at this
  simp_arith! only []
  rw [show (c.map fun x => PyData.int (wt W x)) = c.map (PyData.int ∘ fun x => wt W x) from rfl, this]
  rfl
theorem law_reaches_ok (h : fns[i]? = some F__law_reaches) {W c : List Int} {q : Int} (hc : ∀ x ∈ c, 0 ≤ x ∧ x < W.length) : At fns 1 i [sysD q W, encK c] (.ok (.bool (decide (q ≤ wsum W c)))) := by
  refine At.mk h rfl fun m _ => ?_
  have q0 : dIdx (sysD q W) (.int 0) = .ok (.int q) := rfl
  have q1 : dIdx (sysD q W) (.int 1) = .ok (encK W) := rfl
  simp_arith! only [F__law_reaches, List.map_cons, List.map_nil, List.length_cons, List.length_nil, List.replicate_succ, List.replicate_zero, List.append_nil, Nat.zero_add, Nat.reduceAdd, Nat.reduceSub]
  rw [comp_map (enc := PyData.int) (fun x => PyData.int (wt W x)) fun x hx => by
    simp_arith [q1, idx_W (hc x hx).1 (hc x hx).2]]
  have := sum_L (c.map fun x => wt W x)
  rw [List.map_map] at this
  simp_arith! only [q0]
  rw [show (c.map fun x => PyData.int (wt W x)) = c.map (PyData.int ∘ fun x => wt W x) from rfl, this]
  simp_arith! only [q0]
  rfl
theorem subs_ix {W c : List Int} (hl : W.length = n) (hc : c ∈ subs n) : ∀ x ∈ c, 0 ≤ x ∧ x < W.length := fun x hx => by
  have := subs_lt hc x hx
  rw [hl]
  exact this
theorem all_first {α : Type} (p : α → Bool) (l : List α) : (match l.findSome? fun c => if p c = true then none else some (PyData.bool false) with | some d => R.ok d | none => .ok (.bool true)) = .ok (.bool (l.all p)) := by
  induction l with
  | nil => rfl
  | cons x l ih =>
    rw [List.findSome?_cons, List.all_cons]
    cases h : p x
    · rfl
    · exact ih
theorem represents_gen (h : fns[i]? = some (F_represents j a b c d)) (hj : Chk fns j) (ha : ∀ m, 2 ≤ m → ∀ v : D, v.plain = true → evFn fns m a [.int n, v] = .ok (.bool (isSysB n v))) (hb : fns[b]? = some F_all_coalitions) (hc : fns[c]? = some F_weight_of) (hd : fns[d]? = some (F_is_winning e)) (he : fns[e]? = some F_is_subset) (G : Game n ms) (h1 : 1 ≤ n) (hn : n ≤ 6) {v : D} (hv : v.plain = true) : At fns 5 i [gameD n ms, v] (.ok (.bool (repB n ms v))) := by
  refine At.mk h rfl fun m hm => ?_
  have c1 := hj m hm ms n G h1 hn
  have c2 := ha m (by omega) v hv
  have c3 := all_coalitions_ok hb n (by omega) m (by omega)
  have c4 : ∀ x, evFn fns m d [gameD n ms, encK x] = .ok (.bool (winB ms x)) := fun x => is_winning_ok hd he n ms x m (by omega)
  cases z : isSysB n v with
  | false =>
    rw [z] at c2
    simp_arith! only [F_represents, List.map_cons, List.map_nil, List.length_cons, List.length_nil, List.replicate_succ, List.replicate_zero, List.append_nil, Nat.zero_add, Nat.reduceAdd, Nat.reduceSub, c1, c2]
    unfold repB
    rw [z]
    rfl
  | true =>
    rw [z] at c2
    obtain ⟨q, W, rfl, hl, hw, hq1, hq2⟩ := isSys_of z
    simp_arith! only [F_represents, List.map_cons, List.map_nil, List.length_cons, List.length_nil, List.replicate_succ, List.replicate_zero, List.append_nil, Nat.zero_add, Nat.reduceAdd, Nat.reduceSub, c1, c2, c3]
    unfold sysD
    simp_arith! only [c3]
    rw [fin_first (enc := encK) (l := allC n) (r := .ok (.bool true)) (fun x : List Int => if (decide (q ≤ wsum W x) == winB ms x) = true then none else some (PyData.bool false)) (fun g : Cell => [.val (gameD n ms), .val (.tuple [.int q, encK W]), .val (.int q), .val (encK W), g]) (fun x hx g => ?_) fun g => by simp_arith! only []]
    · refine (all_first _ _).trans ?_
      unfold repB
      rw [show PyData.tuple [.int q, encK W] = sysD q W from rfl, z, sysOf_mk]
      rfl
    · refine ⟨_, .val (encK x), rfl, ?_⟩
      have k := weight_of_ok hc (subs_ix hl (allC_mem.mp hx)) m (by omega)
      simp_arith [k, c4, cmp_neB]
      cases y1 : decide (q ≤ wsum W x) <;> cases y2 : winB ms x <;> rfl
theorem law_represents_gen (h : fns[i]? = some (F__law_represents a b c d)) (ha : ∀ m, 3 ≤ m → ∀ v : D, v.plain = true → evFn fns m a [.int n, v] = .ok (.bool (isSysB n v))) (hb : fns[b]? = some F__law_coalitions) (hc : fns[c]? = some F__law_reaches) (hd : fns[d]? = some (F__law_wins e)) (he : fns[e]? = some F__law_within) (hn : n ≤ 6) {v : D} (hv : v.plain = true) : At fns 4 i [gameD n ms, v] (.ok (.bool (repB n ms v))) := by
  refine At.mk h rfl fun m hm => ?_
  have c2 := ha m (by omega) v hv
  have c3 := law_coalitions_ok hb n (by omega) m (by omega)
  have c4 : ∀ x, evFn fns m d [gameD n ms, encK x] = .ok (.bool (winB ms x)) := fun x => law_wins_ok hd he n ms x m (by omega)
  cases z : isSysB n v with
  | false =>
    rw [z] at c2
    simp_arith! only [F__law_represents, List.map_cons, List.map_nil, List.length_cons, List.length_nil, List.replicate_succ, List.replicate_zero, List.append_nil, Nat.zero_add, Nat.reduceAdd, Nat.reduceSub, c2]
    unfold repB
    rw [z]
    rfl
  | true =>
    rw [z] at c2
    obtain ⟨q, W, rfl, hl, hw, hq1, hq2⟩ := isSys_of z
    simp_arith! only [F__law_represents, List.map_cons, List.map_nil, List.length_cons, List.length_nil, List.replicate_succ, List.replicate_zero, List.append_nil, Nat.zero_add, Nat.reduceAdd, Nat.reduceSub, c2, c3]
    rw [comp_flt (enc := encK) (fun x => !(decide (q ≤ wsum W x) == winB ms x)) encK fun x hx => by
      have k := law_reaches_ok (q := q) hc (subs_ix hl (allC_mem.mp hx)) m (by omega)
      simp_arith [k, c4, cmp_neB]
      rfl]
    simp_arith! only [cmp_nil _ (plain_Ks _), List.isEmpty_map]
    unfold repB
    rw [z, sysOf_mk]
    congr 2
    rw [filter_none]
    rfl
end
end Qw

set_option Elab.async false
set_option linter.all false
set_option maxRecDepth 100000
set_option maxHeartbeats 4000000
/-! find_weights, is_weighted, game_of, walked. By an AI agent. -/
namespace Qw
open PySem L2 Qw.Det
def SepAt (fns : List Fn) (i : Nat) : Prop := ∃ i0 i1 i2 i3, fns[i]? = some (F_separated i0) ∧ fns[i0]? = some (F_solve i1 i2 i3) ∧ fns[i1]? = some F_entering_column ∧ fns[i2]? = some F_leaving_row ∧ fns[i3]? = some F_pivot
def MaxAt (fns : List Fn) (i : Nat) : Prop := ∀ m, 3 ≤ m → ∀ (n : Nat) ms, n ≤ 6 → evFn fns m i [gameD n ms] = .ok (.list ((maxL n ms).map encK))
section
variable {fns : List Fn} {i j a b c d e n : Nat} {ms : List (List Int)}
theorem sep_game (hS : SepAt fns i) (G : Game n ms) (hn : n ≤ 6) :
    (∃ W q, Rep n ms W q ∧ (∀ x ∈ W, x ≤ 36) ∧ q ≤ 144 ∧ At fns 3 i [.int (n : Int), .list (ms.map encK), .list ((maxL n ms).map encK)] (.ok (.tuple [sysD q W, .none]))) ∨
    (¬ Wtd n ms ∧ ∃ y z, Mul n ms (maxL n ms) y z ∧ z.sum ≤ 720 ∧ At fns 3 i [.int (n : Int), .list (ms.map encK), .list ((maxL n ms).map encK)] (.ok (.tuple [.none, .tuple [.list (y.map .int), .list (z.map .int)]]))) := by
  obtain ⟨i0, i1, i2, i3, f0, f1, f2, f3, f4⟩ := hS
  have l1 := G.len hn
  have l2 := maxL_len ms hn
  rcases sep_lists f0 f1 f2 f3 f4 hn (ins := ms) (out := maxL n ms) (fun c hc => (G.mem c hc).1) (fun c hc => (maxL_mem.mp hc).1) (by omega) with ⟨W, q, hA, b1, b2, h⟩ | ⟨hA, y, z, hM, b1, h⟩
  · exact .inl ⟨W, q, (apart_rep G).mp hA, b1, b2, h⟩
  · exact .inr ⟨fun ⟨W, q, hr⟩ => hA W q ((apart_rep G).mpr hr), y, z, hM, by omega, h⟩
theorem find_weights_ok (h : fns[i]? = some (F_find_weights j a b)) (hj : Chk fns j) (ha : SepAt fns a) (hb : MaxAt fns b) (G : Game n ms) (h1 : 1 ≤ n) (hn : n ≤ 6) :
    (∃ W q, Rep n ms W q ∧ (∀ x ∈ W, x ≤ 36) ∧ q ≤ 144 ∧ At fns 5 i [gameD n ms] (.ok (sysD q W))) ∨ (¬ Wtd n ms ∧ At fns 5 i [gameD n ms] (.err ⟨"NotWeighted", none⟩)) := by
  rcases sep_game ha G hn with ⟨W, q, hr, b1, b2, hA⟩ | ⟨hw, y, z, hM, b1, hA⟩
  · refine .inl ⟨W, q, hr, b1, b2, At.mk h rfl fun m hm => ?_⟩
    have c1 := hj m hm ms n G h1 hn
    have c2 := hb m (by omega) n ms hn
    have c3 := hA m (by omega)
    simp_arith! only [F_find_weights, List.map_cons, List.map_nil, List.length_cons, List.length_nil, List.replicate_succ, List.replicate_zero, List.append_nil, Nat.zero_add, Nat.reduceAdd, Nat.reduceSub, c1, c2, c3]
    unfold sysD
    simp_arith! only []
  · refine .inr ⟨hw, At.mk h rfl fun m hm => ?_⟩
    have c1 := hj m hm ms n G h1 hn
    have c2 := hb m (by omega) n ms hn
    have c3 := hA m (by omega)
    simp_arith! only [F_find_weights, List.map_cons, List.map_nil, List.length_cons, List.length_nil, List.replicate_succ, List.replicate_zero, List.append_nil, Nat.zero_add, Nat.reduceAdd, Nat.reduceSub, c1, c2, c3]
theorem is_weighted_ok (h : fns[i]? = some (F_is_weighted j a b)) (hj : Chk fns j) (ha : SepAt fns a) (hb : MaxAt fns b) (G : Game n ms) (h1 : 1 ≤ n) (hn : n ≤ 6) :
    (Wtd n ms ∧ At fns 5 i [gameD n ms] (.ok (.bool true))) ∨ (¬ Wtd n ms ∧ At fns 5 i [gameD n ms] (.ok (.bool false))) := by
  rcases sep_game ha G hn with ⟨W, q, hr, b1, b2, hA⟩ | ⟨hw, y, z, hM, b1, hA⟩
  · refine .inl ⟨⟨W, q, hr⟩, At.mk h rfl fun m hm => ?_⟩
    have c1 := hj m hm ms n G h1 hn
    have c2 := hb m (by omega) n ms hn
    have c3 := hA m (by omega)
    simp_arith! only [F_is_weighted, List.map_cons, List.map_nil, List.length_cons, List.length_nil, List.replicate_succ, List.replicate_zero, List.append_nil, Nat.zero_add, Nat.reduceAdd, Nat.reduceSub, c1, c2, c3, idx_T0]
    unfold sysD
    simp_arith! only []
  · refine .inr ⟨hw, At.mk h rfl fun m hm => ?_⟩
    have c1 := hj m hm ms n G h1 hn
    have c2 := hb m (by omega) n ms hn
    have c3 := hA m (by omega)
    simp_arith! only [F_is_weighted, List.map_cons, List.map_nil, List.length_cons, List.length_nil, List.replicate_succ, List.replicate_zero, List.append_nil, Nat.zero_add, Nat.reduceAdd, Nat.reduceSub, c1, c2, c3, idx_T0]
theorem law_weights_ok {xc : List Str} (h : fns[i]? = some (F__law_weights xc j)) (hx : xc.contains "NotWeighted" = true) {r : R D} (hj : ∀ m, 5 ≤ m → evFn fns m j [gameD n ms] = r) :
    (∀ x, r = .ok x → At fns 6 i [gameD n ms] (.ok x)) ∧ (r = .err ⟨"NotWeighted", none⟩ → At fns 6 i [gameD n ms] (.ok (.str "none"))) := by
  refine ⟨fun x hr => At.mk h rfl fun m hm => ?_, fun hr => At.mk h rfl fun m hm => ?_⟩
  · have c1 := hj m hm
    rw [hr] at c1
    simp_arith! only [F__law_weights, List.map_cons, List.map_nil, List.length_cons, List.length_nil, List.replicate_succ, List.replicate_zero, List.append_nil, Nat.zero_add, Nat.reduceAdd, Nat.reduceSub, c1]
  · have c1 := hj m hm
    rw [hr] at c1
    simp_arith! only [F__law_weights, List.map_cons, List.map_nil, List.length_cons, List.length_nil, List.replicate_succ, List.replicate_zero, List.append_nil, Nat.zero_add, Nat.reduceAdd, Nat.reduceSub, c1, Option.isNone_none, hx]
    rfl
/-! ### the game of a system -/
def gofK (n : Nat) (q : Int) (W : List Int) : List (List Int) := minK ((allC n).filter fun c => decide (q ≤ wsum W c))
theorem reach_len {n : Nat} {q : Int} {W : List Int} (hq : 1 ≤ q) (hn : n ≤ 6) : ((allC n).filter fun c => decide (q ≤ wsum W c)).length < 64 := by
  obtain ⟨r, hr, hnil⟩ := allC_head n
  have hl := allC_len n
  have hp : 2 ^ n ≤ 2 ^ 6 := Nat.pow_le_pow_right (by omega) hn
  rw [hr, List.length_cons] at hl
  rw [hr, List.filter_cons_of_neg (by rw [decide_eq_true_eq]; show ¬ q ≤ 0; omega)]
  have := List.length_filter_le (fun c => decide (q ≤ wsum W c)) r
  omega
theorem gof_win {n : Nat} {q : Int} {W : List Int} (hw : ∀ x ∈ W, 0 ≤ x) {c : List Int} (hc : c ∈ subs n) : winB (gofK n q W) c = decide (q ≤ wsum W c) := by
  have hs : ∀ d ∈ (allC n).filter (fun c => decide (q ≤ wsum W c)), d ∈ subs n := fun d hd => allC_mem.mp (List.mem_filter.mp hd).1
  rw [Bool.eq_iff_iff, winB_iff, decide_eq_true_eq]
  constructor
  · rintro ⟨m, hm, hsub⟩
    have h2 := (minK_mem.mp hm).1
    have h3 := of_decide_eq_true (List.mem_filter.mp h2).2
    have := wsum_mono hw (hs m h2) hc hsub
    omega
  · intro hq
    exact min_below hs _ c (Nat.le_refl _) (List.mem_filter.mpr ⟨allC_mem.mpr hc, decide_eq_true hq⟩)
theorem gof_game {n : Nat} {q : Int} {W : List Int} (hq : 1 ≤ q) (hl : W.length = n) (ht : q ≤ wsum W (rng n)) : Game n (gofK n q W) := by
  have hs : ∀ d ∈ (allC n).filter (fun c => decide (q ≤ wsum W c)), d ∈ subs n := fun d hd => allC_mem.mp (List.mem_filter.mp hd).1
  refine ⟨fun m hm => ?_, ?_, minK_inc _, fun a ha b hb hab => isMin_iff.mp (minK_mem.mp hb).2 a (minK_mem.mp ha).1 hab⟩
  · have h2 := (minK_mem.mp hm).1
    refine ⟨hs m h2, fun e => ?_⟩
    have h3 := of_decide_eq_true (List.mem_filter.mp h2).2
    rw [e] at h3
    have h3 : q ≤ 0 := h3
    omega
  · obtain ⟨m, h1, _⟩ := min_below hs _ (rng n) (Nat.le_refl _) (List.mem_filter.mpr ⟨allC_mem.mpr (rng_subs n), decide_eq_true ht⟩)
    exact List.ne_nil_of_mem h1
theorem wt_full (W : List Int) : wsum W (rng W.length) = W.sum := by
  unfold wsum rng
  rw [List.map_map]
  congr 1
  refine List.ext_getElem? fun k => ?_
  rw [List.getElem?_map]
  by_cases h : k < W.length
  · rw [List.getElem?_range h]
    show some (wt W (k : Int)) = _
    unfold wt
    rw [Int.toNat_natCast, List.getD_eq_getElem?_getD, List.getElem?_eq_getElem h]
    rfl
  · rw [List.getElem?_eq_none (by rw [List.length_range]; omega), List.getElem?_eq_none (by omega)]
    rfl
theorem sum_T (W : List Int) : dSum (encK W) = .ok (.int W.sum) := by
  show (match intsOf (W.map PyData.int) with | some ns => R.ok (PyData.int ns.sum) | none => .bad) = _
  rw [intsOf_map]
def gofB (v : D) : Bool := match v with
  | .tuple [_, .tuple ws] => decide (1 ≤ ws.length) && (decide (ws.length ≤ 6) && (isSysB ws.length v && match sysOf v with
    | some (q, W) => decide (q ≤ W.sum)
    | none => false))
  | _ => false
theorem gofB_two (q : D) (ws : List D) : gofB (.tuple [q, .tuple ws]) = (decide (1 ≤ ws.length) && (decide (ws.length ≤ 6) && (isSysB ws.length (.tuple [q, .tuple ws]) && match sysOf (.tuple [q, .tuple ws]) with
    | some (q, W) => decide (q ≤ W.sum)
    | none => false))) := rfl
theorem gof_len {ds : List D} (h : ds.length ≠ 2) : gofB (.tuple ds) = false := by
  unfold gofB
  split
  · rename_i e; cases e; exact absurd rfl h
  · rfl
theorem game_of_bad (h : fns[i]? = some (F_game_of a b c d)) (ha : ∀ m, 2 ≤ m → ∀ (n : Nat) (v : D), v.plain = true → evFn fns m a [.int n, v] = .ok (.bool (isSysB n v))) {v : D} (hv : v.plain = true) (hg : gofB v = false) : At fns 4 i [v] (.err ⟨"InvalidWeights", none⟩) := by
  refine At.mk h rfl fun m hm => ?_
  cases v with
  | dict _ => cases hv
  | tuple ds =>
    by_cases h2 : ds.length = 2
    · obtain ⟨q, w, rfl⟩ := two_of h2
      have hp : q.plain = true ∧ w.plain = true := by simpa [PyData.plain, PyData.plainAll] using hv
      have ql : dLen (.tuple [q, w]) = .ok (.int 2) := rfl
      have q0 : dIdx (.tuple [q, w]) (.int 0) = .ok q := rfl
      have q1 : dIdx (.tuple [q, w]) (.int 1) = .ok w := rfl
      cases w with
      | dict _ => cases hp.2
      | tuple ws =>
        have c1 := ha m (by omega) ws.length _ hv
        by_cases z1 : 1 ≤ ws.length
        · by_cases z2 : ws.length ≤ 6
          · have z1' : (1 : Int) ≤ (ws.length : Int) := by omega
            have z2' : (ws.length : Int) ≤ 6 := by omega
            cases z3 : isSysB ws.length (.tuple [q, .tuple ws]) with
            | false =>
              rw [z3] at c1
              simp_arith! only [F_game_of, List.map_cons, List.map_nil, List.length_cons, List.length_nil, List.replicate_succ, List.replicate_zero, List.append_nil, Nat.zero_add, Nat.reduceAdd, Nat.reduceSub, ql, q0, q1, len_T, decide_true, z1', z2', c1]
            | true =>
              obtain ⟨q', W, e, hl, hw, hq1, hq2⟩ := isSys_of z3
              rw [z3] at c1
              rw [gofB_two, decide_eq_true z1, decide_eq_true z2, z3, e, sysOf_mk, Bool.true_and, Bool.true_and, Bool.true_and] at hg
              have hg : decide (q' ≤ W.sum) = false := hg
              have hg' : W.sum < q' := by have := of_decide_eq_false hg; omega
              have e2 : q = .int q' ∧ PyData.tuple ws = encK W := by
                unfold sysD at e
                injection e with e
                injection e with e1 e
                injection e with e2 _
                exact ⟨e1, e2⟩
              simp_arith! only [F_game_of, List.map_cons, List.map_nil, List.length_cons, List.length_nil, List.replicate_succ, List.replicate_zero, List.append_nil, Nat.zero_add, Nat.reduceAdd, Nat.reduceSub, ql, q0, q1, len_T, decide_true, z1', z2', c1]
              rw [e2.1, e2.2, sum_T]
              have q0' : dIdx (.tuple [.int q', encK W]) (.int 0) = .ok (.int q') := rfl
              simp_arith! only [q0', hg', decide_true]
          · have z1' : (1 : Int) ≤ (ws.length : Int) := by omega
            have z2' : ¬ (ws.length : Int) ≤ 6 := by omega
            simp_arith! only [F_game_of, List.map_cons, List.map_nil, List.length_cons, List.length_nil, List.replicate_succ, List.replicate_zero, List.append_nil, Nat.zero_add, Nat.reduceAdd, Nat.reduceSub, ql, q0, q1, len_T, decide_true, z1', z2', decide_false]
        · have z1' : ¬ (1 : Int) ≤ (ws.length : Int) := by omega
          simp_arith! only [F_game_of, List.map_cons, List.map_nil, List.length_cons, List.length_nil, List.replicate_succ, List.replicate_zero, List.append_nil, Nat.zero_add, Nat.reduceAdd, Nat.reduceSub, ql, q0, q1, len_T, decide_true, z1']
      | _ => simp_arith! only [F_game_of, List.map_cons, List.map_nil, List.length_cons, List.length_nil, List.replicate_succ, List.replicate_zero, List.append_nil, Nat.zero_add, Nat.reduceAdd, Nat.reduceSub, ql, q0, q1, decide_true]
    · have h2' : decide ((ds.length : Int) = 2) = false := decide_eq_false (by omega)
      simp_arith! only [F_game_of, List.map_cons, List.map_nil, List.length_cons, List.length_nil, List.replicate_succ, List.replicate_zero, List.append_nil, Nat.zero_add, Nat.reduceAdd, Nat.reduceSub, len_T, h2']
  | _ => simp_arith! only [F_game_of, List.map_cons, List.map_nil, List.length_cons, List.length_nil, List.replicate_succ, List.replicate_zero, List.append_nil, Nat.zero_add, Nat.reduceAdd, Nat.reduceSub]
theorem gofB_mk {n : Nat} {q : Int} {W : List Int} (h1 : 1 ≤ n) (hn : n ≤ 6) (hl : W.length = n) (hs : isSysB n (sysD q W) = true) : gofB (sysD q W) = decide (q ≤ W.sum) := by
  show (decide (1 ≤ (W.map PyData.int).length) && (decide ((W.map PyData.int).length ≤ 6) && (isSysB (W.map PyData.int).length (sysD q W) && match sysOf (sysD q W) with
    | some (q, W) => decide (q ≤ W.sum)
    | none => false))) = _
  rw [List.length_map, hl, decide_eq_true h1, decide_eq_true hn, hs, sysOf_mk]
  simp
theorem game_of_good (h : fns[i]? = some (F_game_of a b c d)) (ha : ∀ m, 2 ≤ m → ∀ (n : Nat) (v : D), v.plain = true → evFn fns m a [.int n, v] = .ok (.bool (isSysB n v))) (hb : fns[b]? = some F_all_coalitions) (hc : fns[c]? = some F_weight_of) (hd : fns[d]? = some (F_minimal_members e)) (he : fns[e]? = some F_is_subset)
    {q : Int} {W : List Int} (h1 : 1 ≤ n) (hn : n ≤ 6) (hl : W.length = n) (hs : isSysB n (sysD q W) = true) (hq : 1 ≤ q) (ht : q ≤ W.sum) : At fns 4 i [sysD q W] (.ok (gameD n (gofK n q W))) := by
  refine At.mk h rfl fun m hm => ?_
  have ql : dLen (sysD q W) = .ok (.int 2) := rfl
  have q0 : dIdx (sysD q W) (.int 0) = .ok (.int q) := rfl
  have q1 : dIdx (sysD q W) (.int 1) = .ok (encK W) := rfl
  have qi : isiD .tuple (sysD q W) = .ok true := rfl
  have c1 := ha m (by omega) n (sysD q W) (by unfold sysD; simp [PyData.plain, PyData.plainAll, plain_K])
  rw [hs] at c1
  have c2 := all_coalitions_ok hb n (by omega) m (by omega)
  have z1' : (1 : Int) ≤ (n : Int) := by omega
  have z2' : (n : Int) ≤ 6 := by omega
  have z3' : ¬ W.sum < q := by omega
  simp_arith! only [F_game_of, List.map_cons, List.map_nil, List.length_cons, List.length_nil, List.replicate_succ, List.replicate_zero, List.append_nil, Nat.zero_add, Nat.reduceAdd, Nat.reduceSub, ql, q0, q1, qi, hl, decide_true, z1', z2', c1, c2, sum_T, z3', decide_false]
  rw [comp_flt (enc := encK) (fun x => decide (q ≤ wsum W x)) encK fun x hx => by
    have k := weight_of_ok hc (subs_ix hl (allC_mem.mp hx)) m (by omega)
    simp_arith [k, q0, q1]]
  have c3 := minimal_members_ok hd he ((allC n).filter fun x => decide (q ≤ wsum W x)) (reach_len hq hn) m (by omega)
  simp_arith! only [c3]
  rfl
theorem law_game_of_ok {xc : List Str} (h : fns[i]? = some (F__law_game_of xc j)) (hx : xc.contains "InvalidWeights" = true) {v : D} {r : R D} (hj : ∀ m, 4 ≤ m → evFn fns m j [v] = r) :
    (∀ x, r = .ok x → At fns 5 i [v] (.ok x)) ∧ (r = .err ⟨"InvalidWeights", none⟩ → At fns 5 i [v] (.ok (.str "weights"))) := by
  refine ⟨fun x hr => At.mk h rfl fun m hm => ?_, fun hr => At.mk h rfl fun m hm => ?_⟩
  · have c1 := hj m hm
    rw [hr] at c1
    simp_arith! only [F__law_game_of, List.map_cons, List.map_nil, List.length_cons, List.length_nil, List.replicate_succ, List.replicate_zero, List.append_nil, Nat.zero_add, Nat.reduceAdd, Nat.reduceSub, c1]
  · have c1 := hj m hm
    rw [hr] at c1
    simp_arith! only [F__law_game_of, List.map_cons, List.map_nil, List.length_cons, List.length_nil, List.replicate_succ, List.replicate_zero, List.append_nil, Nat.zero_add, Nat.reduceAdd, Nat.reduceSub, c1, Option.isNone_none, hx]
    rfl
end
end Qw

set_option Elab.async false
set_option linter.all false
set_option maxRecDepth 100000
set_option maxHeartbeats 4000000
/-! expand, gcd_of, balanced, trade, walked. By an AI agent. -/
namespace Qw
open PySem L2 Qw.Det
section
variable {fns : List Fn} {i j a b c d e n : Nat} {ms : List (List Int)}
/-! ### gcd -/
def gcdL (l : List Nat) : Nat := l.foldl (fun r k => Nat.gcd k r) 0
theorem gcd_while {call : Nat → List D → R D} (c0 : Cell) : ∀ (k r fuel : Nat), k < fuel → whileLoop (testOf call (.cmp .ne (.var 2) (.cst (.int 0)))) (bodyOf call (.cons (.par 1 2 (.var 2) (.bin .mod (.var 1) (.var 2))) .nil)) fuel [c0, .val (.int (r : Int)), .val (.int (k : Int))] = .next [c0, .val (.int (Nat.gcd k r : Nat)), .val (.int 0)] := by
  intro k
  induction k using Nat.strongRecOn with
  | ind k ih =>
    intro r fuel hf
    obtain ⟨fuel, rfl⟩ : ∃ f, fuel = f + 1 := ⟨fuel - 1, by omega⟩
    unfold whileLoop
    by_cases hk : k = 0
    · subst hk
      have e : ((0 : Nat) : Int) = 0 := rfl
      simp_arith [e, decide_true, Nat.gcd_zero_left]
    · have hk' : ¬ (k : Int) = 0 := by omega
      have mm := bin_mod (r : Int) (k : Int) (by omega)
      rw [show (r : Int) % (k : Int) = ((r % k : Nat) : Int) from rfl] at mm
      simp_arith [hk', decide_false, mm]
      rw [ih (r % k) (Nat.mod_lt _ (by omega)) k fuel (by have := Nat.mod_lt r (show 0 < k by omega); omega)]
      rw [Nat.gcd_rec k r]
theorem gcd_of_ok (h : fns[i]? = some F_gcd_of) {l : List Nat} (hl : ∀ k ∈ l, k < 10000000) : At fns 1 i [.list (l.map fun k : Nat => .int (k : Int))] (.ok (.int (gcdL l : Nat))) := by
  refine At.mk h rfl fun m _ => ?_
  simp_arith! only [F_gcd_of, List.map_cons, List.map_nil, List.length_cons, List.length_nil, List.replicate_succ, List.replicate_zero, List.append_nil, Nat.zero_add, Nat.reduceAdd, Nat.reduceSub]
  obtain ⟨g, hL⟩ := loop_fold (enc := fun k : Nat => PyData.int (k : Int)) (tg := .one 2) (body := bodyOf (evFn fns m) (.cons (.whileS (.cmp .ne (.var 2) (.cst (.int 0))) (.cons (.par 1 2 (.var 2) (.bin .mod (.var 1) (.var 2))) .nil)) .nil))
    (fun (r : Nat) k => Nat.gcd k r) (fun r (g : Cell) => [.val (.list (l.map fun k : Nat => .int (k : Int))), .val (.int (r : Int)), g]) (l := l) (s0 := 0) (g0 := .un) (fun k hk r g => by
      refine ⟨_, .val (.int 0), rfl, ?_⟩
      rw [bodyOf]
      simp_arith! only []
      rw [gcd_while _ k r fuelW (Nat.lt_trans (hl k hk) (by unfold fuelW; decide))]
      simp_arith! only [])
  have e : ((0 : Nat) : Int) = 0 := rfl
  rw [e] at hL
  rw [hL]
  simp_arith! only []
  rfl
theorem gcd_fold_dvd : ∀ (l : List Nat) (r : Nat), (l.foldl (fun r k => Nat.gcd k r) r) ∣ r ∧ ∀ k ∈ l, (l.foldl (fun r k => Nat.gcd k r) r) ∣ k
  | [], r => ⟨Nat.dvd_refl r, fun k hk => by cases hk⟩
  | x :: l, r => by
    obtain ⟨h1, h2⟩ := gcd_fold_dvd l (Nat.gcd x r)
    refine ⟨Nat.dvd_trans h1 (Nat.gcd_dvd_right x r), fun k hk => ?_⟩
    rcases List.mem_cons.mp hk with z | z
    · subst z; exact Nat.dvd_trans h1 (Nat.gcd_dvd_left _ _)
    · exact h2 k z
theorem gcdL_dvd {l : List Nat} {k : Nat} (hk : k ∈ l) : gcdL l ∣ k := (gcd_fold_dvd l 0).2 k hk
/-! ### expand -/
def expK (cs : List (List Int)) (ts : List Nat) : List (List Int) := (cs.zip ts).flatMap fun e => List.replicate e.2 e.1
theorem mul_one (c : List Int) {t : Nat} (h : t ≤ 100000) : dBin .mul (.list [encK c]) (.int (t : Int)) = .ok (.list ((List.replicate t c).map encK)) := by
  show (if 1 * (t : Int).toNat ≤ LIM ∧ -(2 ^ 63) ≤ (t : Int) ∧ (t : Int) < 2 ^ 63 then R.ok (PyData.list (List.replicate (t : Int).toNat [encK c]).flatten) else .bad) = _
  rw [Int.toNat_natCast, if_pos (by unfold LIM; omega)]
  congr 2
  clear h
  induction t with
  | zero => rfl
  | succ k ih => rw [List.replicate_succ, List.flatten_cons, ih, List.replicate_succ, List.map_cons]; rfl
theorem expand_loop {call : Nat → List D → R D} {c0 c1 : Cell} : ∀ (ts : List Nat) (cs acc : List (List Int)) (g : Cell × Cell), acc.length + ts.sum ≤ 100000 → ∃ g' : Cell × Cell, forLoop (.many [3, 4]) (bodyOf call (.cons (.ext 2 (.bin .mul (.lst (.cons (.var 3) .nil)) (.var 4))) .nil)) ((cs.zip ts).map fun e => .tuple [encK e.1, .int (e.2 : Int)]) [c0, c1, .own (acc.map encK), g.1, g.2] = .next [c0, c1, .own ((acc ++ expK cs ts).map encK), g'.1, g'.2] := by
  intro ts
  induction ts with
  | nil =>
    intro cs acc g h
    refine ⟨g, ?_⟩
    unfold expK
    rw [List.zip_nil_right]
    simp [forLoop]
  | cons t ts ih =>
    intro cs acc g h
    cases cs with
    | nil => exact ⟨g, by unfold expK; simp [forLoop]⟩
    | cons c cs =>
      rw [List.sum_cons] at h
      obtain ⟨g', hL⟩ := ih cs (acc ++ List.replicate t c) (.val (encK c), .val (.int (t : Int))) (by rw [List.length_append, List.length_replicate]; omega)
      refine ⟨g', ?_⟩
      rw [List.zip_cons_cons, List.map_cons]
      unfold forLoop
      have lim : (acc.map encK).length + ((List.replicate t c).map encK).length ≤ LIM := by
        rw [List.length_map, List.length_map, List.length_replicate]
        unfold LIM
        omega
      simp_arith [mul_one c (show t ≤ 100000 by omega), lim]
      rw [← List.map_append]
      rw [hL, List.append_assoc]
      unfold expK
      rw [List.zip_cons_cons, List.flatMap_cons]
theorem expand_ok (h : fns[i]? = some F_expand) (cs : List (List Int)) (ts : List Nat) (hs : ts.sum ≤ 100000) : At fns 1 i [.list (cs.map encK), .list (ts.map fun k : Nat => .int (k : Int))] (.ok (.list ((expK cs ts).map encK))) := by
  refine At.mk h rfl fun m _ => ?_
  have hz : dZip (.list (cs.map encK)) (.list (ts.map fun k : Nat => .int (k : Int))) = .ok ((cs.zip ts).map fun e => .tuple [encK e.1, .int (e.2 : Int)]) := by
    show R.ok (((cs.map encK).zip (ts.map fun k : Nat => PyData.int (k : Int))).map fun p => PyData.tuple [p.1, p.2]) = _
    rw [List.zip_map, List.map_map]
    rfl
  simp_arith! only [F_expand, List.map_cons, List.map_nil, List.length_cons, List.length_nil, List.replicate_succ, List.replicate_zero, List.append_nil, Nat.zero_add, Nat.reduceAdd, Nat.reduceSub, hz]
  obtain ⟨g, hL⟩ := expand_loop (call := evFn fns m) (c0 := .val (.list (cs.map encK))) (c1 := .val (.list (ts.map fun k : Nat => .int (k : Int)))) ts cs [] (.un, .un) (by simpa using hs)
  rw [List.map_nil] at hL
  rw [hL]
  simp_arith! only []
/-! ### balanced -/
def cntP (p : Int) (l : List (List Int)) : Nat := (l.filter fun c => decide (p ∈ c)).length
def addP (p : Int) : Int → List (List Int) → List (List Int)
  | _, [] => []
  | k, c :: l => if 0 < k ∧ p ∉ c then sortI (c ++ [p]) :: addP p (k - 1) l else c :: addP p k l
def balS (losers : List (List Int)) (r : List (List Int)) (p : Int) : List (List Int) := addP p ((cntP p losers : Int) - (cntP p r : Int)) r
def balK (n : Nat) (winners losers : List (List Int)) : List (List Int) := (rng n).foldl (balS losers) winners
theorem addP_len (p : Int) : ∀ (l : List (List Int)) (k : Int), (addP p k l).length = l.length
  | [], _ => rfl
  | c :: l, k => by
    unfold addP
    split
    · rw [List.length_cons, List.length_cons, addP_len p l]
    · rw [List.length_cons, List.length_cons, addP_len p l]
theorem len_cnt {call : Nat → List D → R D} (l : List (List Int)) (p : Int) : dLen (.list ((l.filter fun c => decide (p ∈ c)).map fun _ => PyData.int 1)) = .ok (.int (cntP p l)) := by
  rw [len_L, List.length_map]
  rfl
theorem add_loop {k0 : Nat} (hk : ∀ (x : List Int) (p : Int), x.length < 1000 → evFn fns k0 a [encK x, .int p] = .ok (encK (sortI (x ++ [p])))) (p : Int) {c0 c1 c2 c3 c6 : Cell} : ∀ (l acc : List (List Int)) (k : Int) (g : Cell), (∀ x ∈ l, x.length < 1000) → acc.length + l.length < 100000 → ∃ g' k', forLoop (.one 8) (bodyOf (evFn fns k0) (.cons (.ite (.and (.cmp .gt (.var 5) (.cst (.int 0))) (.cmp .notin (.var 4) (.var 8))) (.cons (.app 7 (.call a (.cons (.var 8) (.cons (.var 4) .nil)))) (.cons (.aug 5 .sub (.cst (.int 1))) .nil)) (.cons (.app 7 (.var 8)) .nil)) .nil)) (l.map encK) [c0, c1, c2, c3, .val (.int p), .val (.int k), c6, .own (acc.map encK), g] = .next [c0, c1, c2, c3, .val (.int p), .val (.int k'), c6, .own ((acc ++ addP p k l).map encK), g']
  | [], acc, k, g, _, _ => ⟨g, k, by unfold addP; simp [forLoop]⟩
  | x :: l, acc, k, g, hx, hl => by
    rw [List.length_cons] at hl
    have hx0 := hx x List.mem_cons_self
    have lim : (acc.map encK).length < LIM := by rw [List.length_map]; unfold LIM; omega
    by_cases z : 0 < k
    · by_cases y : p ∈ x
      · obtain ⟨g', k', hL⟩ := add_loop hk p l (acc ++ [x]) k (.val (encK x)) (fun w hw => hx w (List.mem_cons_of_mem _ hw)) (by rw [List.length_append, List.length_singleton]; omega)
        refine ⟨g', k', ?_⟩
        rw [List.map_cons]
        unfold forLoop addP
        rw [if_neg (by simp [y])]
        simp_arith [z, y, decide_true, lim]
        rw [List.map_append, List.map_cons, List.map_nil] at hL
        rw [hL, List.append_assoc]
        rfl
      · obtain ⟨g', k', hL⟩ := add_loop hk p l (acc ++ [sortI (x ++ [p])]) (k - 1) (.val (encK x)) (fun w hw => hx w (List.mem_cons_of_mem _ hw)) (by rw [List.length_append, List.length_singleton]; omega)
        refine ⟨g', k', ?_⟩
        rw [List.map_cons]
        unfold forLoop addP
        rw [if_pos ⟨z, y⟩]
        simp_arith [z, y, decide_true, decide_false, lim, hk x p hx0]
        rw [List.map_append, List.map_cons, List.map_nil] at hL
        rw [hL, List.append_assoc]
        rfl
    · obtain ⟨g', k', hL⟩ := add_loop hk p l (acc ++ [x]) k (.val (encK x)) (fun w hw => hx w (List.mem_cons_of_mem _ hw)) (by rw [List.length_append, List.length_singleton]; omega)
      refine ⟨g', k', ?_⟩
      rw [List.map_cons]
      unfold forLoop addP
      rw [if_neg (by simp [z])]
      simp_arith [z, decide_false, lim]
      rw [List.map_append, List.map_cons, List.map_nil] at hL
      rw [hL, List.append_assoc]
      rfl
theorem addP_mem {p : Int} {n : Nat} (hp : p ∈ rng n) : ∀ {l : List (List Int)} {k : Int}, (∀ x ∈ l, x ∈ subs n) → ∀ x ∈ addP p k l, x ∈ subs n
  | [], _, _, x, hx => by cases hx
  | c :: l, k, h, x, hx => by
    unfold addP at hx
    split at hx
    · rename_i z
      rcases List.mem_cons.mp hx with e | e
      · subst e; exact with_subs (h c List.mem_cons_self) hp z.2
      · exact addP_mem hp (fun y hy => h y (List.mem_cons_of_mem _ hy)) x e
    · rcases List.mem_cons.mp hx with e | e
      · subst e; exact h _ List.mem_cons_self
      · exact addP_mem hp (fun y hy => h y (List.mem_cons_of_mem _ hy)) x e
theorem balanced_ok (h : fns[i]? = some (F_balanced a)) (ha : fns[a]? = some F_with_player) (hn : n ≤ 6) {W Ls : List (List Int)} (hW : ∀ x ∈ W, x ∈ subs n) (hl : W.length < 10000) : At fns 2 i [.int n, .list (W.map encK), .list (Ls.map encK)] (.ok (.list ((balK n W Ls).map encK))) := by
  refine At.mk h rfl fun m hm => ?_
  have hk : ∀ (x : List Int) (p : Int), x.length < 1000 → evFn fns m a [encK x, .int p] = .ok (encK (sortI (x ++ [p]))) := fun x p hx => with_player_ok ha x p hx m hm
  simp_arith! only [F_balanced, List.map_cons, List.map_nil, List.length_cons, List.length_nil, List.replicate_succ, List.replicate_zero, List.append_nil, Nat.zero_add, Nat.reduceAdd, Nat.reduceSub, it_range (show n ≤ 1000 by omega)]
  obtain ⟨_, g, hL⟩ := loop_inv (enc := PyData.int) (tg := .one 4) (body := bodyOf (evFn fns m) (.cons (.asg 5 (.bin .sub (.bi .len (.cons (.comp (.cst (.int 1)) (.one 6) (.seq (.var 2)) (.some (.cmp .isin (.var 4) (.var 6)))) .nil)) (.bi .len (.cons (.comp (.cst (.int 1)) (.one 6) (.seq (.var 3)) (.some (.cmp .isin (.var 4) (.var 6)))) .nil)))) (.cons (.asgOwn 7 (.lst .nil)) (.cons (.forS (.one 8) (.seq (.var 3)) (.cons (.ite (.and (.cmp .gt (.var 5) (.cst (.int 0))) (.cmp .notin (.var 4) (.var 8))) (.cons (.app 7 (.call a (.cons (.var 8) (.cons (.var 4) .nil)))) (.cons (.aug 5 .sub (.cst (.int 1))) .nil)) (.cons (.app 7 (.var 8)) .nil)) .nil)) (.rel 7 (.cons (.asg 3 (.var 7)) .nil))))))
    (fun r : List (List Int) => (∀ x ∈ r, x ∈ subs n) ∧ r.length = W.length) (balS Ls) (fun r (g : Cell × Cell × Cell × Cell) => [.val (.int n), .val (.list (W.map encK)), .val (.list (Ls.map encK)), .val (.list (r.map encK)), g.1, g.2.1, .un, g.2.2.1, g.2.2.2]) (l := rng n) (s0 := W) (g0 := (.un, .un, .un, .un)) ⟨hW, rfl⟩ (fun p hp r g hr => by
      refine ⟨⟨addP_mem hp hr.1, by unfold balS; rw [addP_len]; exact hr.2⟩, ?_⟩
      obtain ⟨g', k', hA⟩ := add_loop (a := a) hk p (c0 := .val (.int n)) (c1 := .val (.list (W.map encK))) (c2 := .val (.list (Ls.map encK))) (c3 := .val (.list (r.map encK))) (c6 := .un) r [] ((cntP p Ls : Int) - (cntP p r : Int)) g.2.2.2 (fun x hx => by have := subs_small (hr.1 x hx); omega) (by rw [hr.2]; simp; omega)
      refine ⟨_, (.val (.int p), .val (.int k'), .val (.list ((balS Ls r p).map encK)), g'), rfl, ?_⟩
      simp_arith []
      rw [comp_flt (enc := encK) (fun x => decide (p ∈ x)) (fun _ => PyData.int 1) fun x hx => by simp_arith []]
      simp_arith! only [List.length_map, len_L]
      rw [comp_flt (enc := encK) (fun x => decide (p ∈ x)) (fun _ => PyData.int 1) fun x hx => by simp_arith []]
      simp_arith! only [List.length_map, len_L]
      rw [List.map_nil] at hA
      unfold cntP at hA
      rw [hA, List.nil_append]
      simp_arith! only []
      unfold balS cntP
      rfl)
  rw [hL]
  simp_arith! only []
  rfl
end
end Qw

set_option Elab.async false
set_option linter.all false
set_option maxRecDepth 100000
set_option maxHeartbeats 4000000
/-! trade returns a trade. By an AI agent. -/
namespace Qw
open PySem L2 Qw.Det
theorem cntP_cons (p : Int) (c : List Int) (l : List (List Int)) : cntP p (c :: l) = (if p ∈ c then 1 else 0) + cntP p l := by
  unfold cntP
  by_cases h : p ∈ c
  · rw [List.filter_cons_of_pos (by simp [h]), List.length_cons, if_pos h]; omega
  · rw [List.filter_cons_of_neg (by simp [h]), if_neg h]; omega
theorem cntP_append (p : Int) (a b : List (List Int)) : cntP p (a ++ b) = cntP p a + cntP p b := by
  unfold cntP
  rw [List.filter_append, List.length_append]
theorem cntP_rep (p : Int) (c : List Int) : ∀ t, cntP p (List.replicate t c) = t * (if p ∈ c then 1 else 0)
  | 0 => by unfold cntP; simp
  | t + 1 => by rw [List.replicate_succ, cntP_cons, cntP_rep p c t, Nat.add_mul]; omega
theorem cntP_le (p : Int) (l : List (List Int)) : cntP p l ≤ l.length := List.length_filter_le _ _
theorem cntP_take (p : Int) (l : List (List Int)) (k : Nat) : cntP p (l.take k) ≤ cntP p l := by
  have := cntP_append p (l.take k) (l.drop k)
  rw [List.take_append_drop] at this
  omega
theorem cntP_perm (p : Int) {a b : List (List Int)} (h : a.Perm b) : cntP p a = cntP p b := (h.filter _).length_eq
theorem cnt_exp (p : Int) : ∀ (cs : List (List Int)) (ts : List Nat), ((cntP p (expK cs ts) : Nat) : Int) = ((ts.zip cs).map fun e => (e.1 : Int) * (if p ∈ e.2 then 1 else 0)).sum
  | [], ts => by
    unfold expK
    rw [List.zip_nil_right, List.zip_nil_left]
    rfl
  | c :: cs, [] => by
    unfold expK
    rw [List.zip_nil_right, List.zip_nil_left]
    rfl
  | c :: cs, t :: ts => by
    have ih := cnt_exp p cs ts
    rw [List.zip_cons_cons, List.map_cons, List.sum_cons, ← ih]
    unfold expK
    rw [List.zip_cons_cons, List.flatMap_cons, cntP_append, cntP_rep]
    by_cases h : p ∈ c
    · simp [h]
    · simp [h]
theorem len_exp : ∀ (cs : List (List Int)) (ts : List Nat), ts.length = cs.length → (expK cs ts).length = ts.sum
  | [], [], _ => rfl
  | c :: cs, t :: ts, h => by
    unfold expK
    rw [List.zip_cons_cons, List.flatMap_cons, List.length_append, List.length_replicate, List.sum_cons]
    have := len_exp cs ts (by simpa using h)
    unfold expK at this
    rw [this]
  | [], _ :: _, h => by simp at h
  | _ :: _, [], h => by simp at h
theorem exp_mem {cs : List (List Int)} {ts : List Nat} {x : List Int} (h : x ∈ expK cs ts) : x ∈ cs := by
  unfold expK at h
  obtain ⟨e, he, hx⟩ := List.mem_flatMap.mp h
  rw [List.eq_of_mem_replicate hx]
  exact (List.of_mem_zip he).1
theorem mem_sortI' {c : List Int} {p q : Int} : q ∈ sortI (c ++ [p]) ↔ q ∈ c ∨ q = p := by
  rw [mem_sortI, List.mem_append, List.mem_singleton]
theorem addP_ne {p q : Int} (h : q ≠ p) : ∀ (l : List (List Int)) (k : Int), cntP q (addP p k l) = cntP q l
  | [], _ => rfl
  | c :: l, k => by
    unfold addP
    split
    · rw [cntP_cons, cntP_cons, addP_ne h l]
      congr 1
      simp -implicitDefEqProofs only [mem_sortI', h, or_false]
    · rw [cntP_cons, cntP_cons, addP_ne h l]
theorem addP_cnt {p : Int} : ∀ (l : List (List Int)) (k : Int), 0 ≤ k → k + (cntP p l : Int) ≤ (l.length : Int) → ((cntP p (addP p k l) : Nat) : Int) = (cntP p l : Int) + k
  | [], k, h0, h1 => by
    have : k ≤ 0 := by simpa [cntP] using h1
    have : k = 0 := by omega
    subst this
    rfl
  | c :: l, k, h0, h1 => by
    rw [cntP_cons, List.length_cons] at h1
    unfold addP
    by_cases hp : p ∈ c
    · rw [if_neg (by simp [hp]), cntP_cons, cntP_cons, if_pos hp]
      rw [if_pos hp] at h1
      have := addP_cnt (p := p) l k h0 (by omega)
      omega
    · rw [if_neg hp] at h1
      by_cases hk : 0 < k
      · rw [if_pos ⟨hk, hp⟩, cntP_cons, cntP_cons, if_neg hp, if_pos (mem_sortI'.mpr (.inr rfl))]
        have := addP_cnt (p := p) l (k - 1) (by omega) (by omega)
        omega
      · rw [if_neg (by simp [hk]), cntP_cons, cntP_cons, if_neg hp]
        have := addP_cnt (p := p) l k h0 (by have := cntP_le p l; omega)
        omega
theorem addP_win {ms : List (List Int)} {p : Int} : ∀ {l : List (List Int)} {k : Int}, (∀ x ∈ l, winB ms x = true) → ∀ x ∈ addP p k l, winB ms x = true
  | [], _, _, x, hx => by cases hx
  | c :: l, k, h, x, hx => by
    unfold addP at hx
    split at hx
    · rcases List.mem_cons.mp hx with e | e
      · subst e; exact winB_mono (fun y hy => mem_sortI'.mpr (.inl hy)) (h c List.mem_cons_self)
      · exact addP_win (fun y hy => h y (List.mem_cons_of_mem _ hy)) x e
    · rcases List.mem_cons.mp hx with e | e
      · subst e; exact h _ List.mem_cons_self
      · exact addP_win (fun y hy => h y (List.mem_cons_of_mem _ hy)) x e
theorem bal_fold {ms Ls : List (List Int)} {n : Nat} : ∀ (ps : List Int) (r : List (List Int)), ps.Nodup → (∀ p ∈ ps, p ∈ rng n) → (∀ p ∈ ps, cntP p r ≤ cntP p Ls) → r.length = Ls.length → (∀ x ∈ r, winB ms x = true ∧ x ∈ subs n) →
    (∀ p ∈ ps, cntP p (ps.foldl (balS Ls) r) = cntP p Ls) ∧ (∀ q, q ∉ ps → cntP q (ps.foldl (balS Ls) r) = cntP q r) ∧ (ps.foldl (balS Ls) r).length = r.length ∧ ∀ x ∈ ps.foldl (balS Ls) r, winB ms x = true ∧ x ∈ subs n
  | [], r, _, _, _, _, hw => ⟨(fun p hp => by cases hp), fun q _ => rfl, rfl, hw⟩
  | p :: ps, r, nd, hr, hc, hl, hw => by
    obtain ⟨n1, n2⟩ := List.nodup_cons.mp nd
    have hp := hc p List.mem_cons_self
    have hpl := cntP_le p Ls
    have hcp : ((cntP p (balS Ls r p) : Nat) : Int) = (cntP p Ls : Int) := by
      have := addP_cnt (p := p) r ((cntP p Ls : Int) - (cntP p r : Int)) (by omega) (by omega)
      unfold balS
      rw [this]
      omega
    have hne : ∀ q, q ≠ p → cntP q (balS Ls r p) = cntP q r := fun q hq => addP_ne hq r _
    have hlen : (balS Ls r p).length = r.length := addP_len p r _
    obtain ⟨i1, i2, i3, i4⟩ := bal_fold (ms := ms) (Ls := Ls) (n := n) ps (balS Ls r p) n2 (fun q hq => hr q (List.mem_cons_of_mem _ hq)) (fun q hq => by
      rw [hne q (fun e => n1 (by rw [← e]; exact hq))]
      exact hc q (List.mem_cons_of_mem _ hq)) (by rw [hlen, hl]) (fun x hx => ⟨addP_win (fun y hy => (hw y hy).1) x hx, addP_mem (hr p List.mem_cons_self) (fun y hy => (hw y hy).2) x hx⟩)
    refine ⟨fun q hq => ?_, fun q hq => ?_, ?_, i4⟩
    · rcases List.mem_cons.mp hq with e | e
      · subst e
        rw [List.foldl_cons, i2 _ n1]
        omega
      · exact i1 q e
    · rw [List.foldl_cons, i2 q (fun z => hq (List.mem_cons_of_mem _ z)), hne q (fun z => hq (by rw [z]; exact List.mem_cons_self))]
    · rw [List.foldl_cons, i3, hlen]
/-- a trade -/
structure Trd (n : Nat) (ms A B : List (List Int)) : Prop where
  l1 : 1 ≤ A.length
  l2 : A.length ≤ 999
  len : A.length = B.length
  sa : ∀ x ∈ A, x ∈ subs n
  sb : ∀ x ∈ B, x ∈ subs n
  wa : ∀ x ∈ A, winB ms x = true
  wb : ∀ x ∈ B, winB ms x = false
  cnt : ∀ p ∈ rng n, cntP p A = cntP p B
theorem rng_nodup (n : Nat) : (rng n).Nodup := (rng_inc n).imp fun h e => by omega
theorem zip_mulL (g : Nat) (p : Int) : ∀ (ts : List Nat) (cs : List (List Int)), (((ts.map fun t => ((g * t : Nat) : Int)).zip cs).map fun e => e.1 * (if p ∈ e.2 then 1 else 0)).sum = (g : Int) * ((ts.zip cs).map fun e => (e.1 : Int) * (if p ∈ e.2 then 1 else 0)).sum
  | [], cs => by simp
  | t :: ts, [] => by simp
  | t :: ts, c :: cs => by
    have ih := zip_mulL g p ts cs
    rw [List.map_cons, List.zip_cons_cons, List.zip_cons_cons, List.map_cons, List.map_cons, List.sum_cons, List.sum_cons, ih, Int.mul_add]
    congr 1
    show ((g * t : Nat) : Int) * _ = (g : Int) * ((t : Int) * _)
    rw [Int.natCast_mul, Int.mul_assoc]
theorem sum_mulL (g : Nat) : ∀ (ts : List Nat), (ts.map fun t => ((g * t : Nat) : Int)).sum = (g : Int) * (ts.sum : Nat)
  | [] => by simp
  | t :: ts => by
    rw [List.map_cons, List.sum_cons, sum_mulL g ts, List.sum_cons, Int.natCast_add, Int.mul_add, Int.natCast_mul]
theorem quot_map {y : List Int} {g : Nat} (h0 : ∀ x ∈ y, 0 ≤ x) (hd : ∀ x ∈ y, g ∣ x.toNat) : y = ((y.map fun x => x.toNat / g).map fun t => ((g * t : Nat) : Int)) := by
  rw [List.map_map]
  conv => lhs; rw [← List.map_id y]
  refine List.map_congr_left fun x hx => ?_
  show x = ((g * (x.toNat / g) : Nat) : Int)
  rw [Nat.mul_div_cancel' (hd x hx)]
  have := h0 x hx
  omega
theorem sum_pos {l : List Int} (h : 0 < l.sum) (h0 : ∀ x ∈ l, 0 ≤ x) : ∃ x ∈ l, 0 < x := by
  induction l with
  | nil => simp at h
  | cons a l ih =>
    by_cases z : 0 < a
    · exact ⟨a, List.mem_cons_self, z⟩
    · rw [List.sum_cons] at h
      obtain ⟨x, hx, hp⟩ := ih (by omega) fun x hx => h0 x (List.mem_cons_of_mem _ hx)
      exact ⟨x, List.mem_cons_of_mem _ hx, hp⟩
theorem le_sum {l : List Int} (h0 : ∀ x ∈ l, 0 ≤ x) : ∀ x ∈ l, x ≤ l.sum := by
  induction l with
  | nil => intro x hx; cases hx
  | cons a l ih =>
    intro x hx
    rw [List.sum_cons]
    have hs := sum_nonneg fun x hx => h0 x (List.mem_cons_of_mem a hx)
    rcases List.mem_cons.mp hx with e | e
    · subst e; omega
    · have := ih (fun x hx => h0 x (List.mem_cons_of_mem _ hx)) x e
      have := h0 a List.mem_cons_self
      omega
/-- each multiplier's coalition has a player -/
theorem mul_ybd {n : Nat} {ms out : List (List Int)} {y z : List Int} (M : Mul n ms out y z) (hn : ∀ c ∈ ms, c ∈ subs n ∧ c ≠ []) (hz : z.sum ≤ 720) (h6 : n ≤ 6) : y.sum ≤ 4320 := by
  have a1 : y.sum ≤ ((rng n).map fun p => ((y.zip ms).map fun e => e.1 * (if p ∈ e.2 then 1 else 0)).sum).sum := by
    rw [sum_swap]
    have : y = (y.zip ms).map fun e => e.1 := by
      rw [show (fun e : Int × List Int => e.1) = Prod.fst from rfl, List.map_fst_zip (by rw [M.yl]; exact Nat.le_refl _)]
    conv => lhs; rw [this]
    refine sum_le fun e he => ?_
    rw [sum_mul]
    have h1 := List.of_mem_zip he
    obtain ⟨h2, h3⟩ := hn e.2 h1.2
    obtain ⟨q, hq⟩ := List.exists_mem_of_ne_nil _ h3
    have hq' := subs_lt h2 q hq
    have : (1 : Int) ≤ ((rng n).map fun p => if p ∈ e.2 then (1 : Int) else 0).sum := by
      have := le_sum (l := (rng n).map fun p => if p ∈ e.2 then (1 : Int) else 0) (fun x hx => by
        obtain ⟨p, _, rfl⟩ := List.mem_map.mp hx
        split <;> omega) 1 (List.mem_map.mpr ⟨q, rng_mem.mpr hq', if_pos hq⟩)
      exact this
    have := Int.mul_le_mul_of_nonneg_left this (M.y0 e.1 h1.1)
    omega
  have a2 : ((rng n).map fun p => ((y.zip ms).map fun e => e.1 * (if p ∈ e.2 then 1 else 0)).sum).sum ≤ ((rng n).map fun _ => (720 : Int)).sum := by
    refine sum_le fun p hp => ?_
    refine Int.le_trans (M.pl p hp) (Int.le_trans ?_ hz)
    have : z = (z.zip out).map fun e => e.1 := by
      rw [show (fun e : Int × List Int => e.1) = Prod.fst from rfl, List.map_fst_zip (by rw [M.zl]; exact Nat.le_refl _)]
    conv => rhs; rw [this]
    refine sum_le fun e he => ?_
    have := M.z0 e.1 (List.of_mem_zip he).1
    split <;> omega
  have a3 : ∀ l : List Int, (l.map fun _ => (720 : Int)).sum = 720 * (l.length : Int) := fun l => by
    induction l with
    | nil => rfl
    | cons a l ih => rw [List.map_cons, List.sum_cons, ih, List.length_cons]; omega
  rw [a3, rng_len] at a2
  omega
section
variable {fns : List Fn} {i j a b c d e f n : Nat} {ms : List (List Int)}
theorem map_toNat {y : List Int} (h : ∀ x ∈ y, 0 ≤ x) : y.map PyData.int = (y.map Int.toNat).map fun k : Nat => PyData.int (k : Int) := by
  rw [List.map_map]
  refine List.map_congr_left fun x hx => ?_
  show PyData.int x = PyData.int ((x.toNat : Nat) : Int)
  rw [Int.toNat_of_nonneg (h x hx)]
theorem trade_ok (h : fns[i]? = some (F_trade j a b c d e)) (hj : Chk fns j) (ha : MaxAt fns a) (hb : SepAt fns b) (hc : fns[c]? = some F_gcd_of) (hd : fns[d]? = some F_expand) (he : fns[e]? = some (F_balanced f)) (hf : fns[f]? = some F_with_player) (G : Game n ms) (h1 : 1 ≤ n) (hn : n ≤ 6) :
    (Wtd n ms ∧ At fns 5 i [gameD n ms] (.err ⟨"IsWeighted", none⟩)) ∨ (¬ Wtd n ms ∧ ∃ A B, Trd n ms A B ∧ At fns 5 i [gameD n ms] (.ok (.tuple [.list (A.map encK), .list (B.map encK)]))) := by
  rcases sep_game hb G hn with ⟨W, q, hr, b1, b2, hA⟩ | ⟨hw, y, z, M, b1, hA⟩
  · refine .inl ⟨⟨W, q, hr⟩, At.mk h rfl fun m hm => ?_⟩
    have c1 := hj m hm ms n G h1 hn
    have c2 := ha m (by omega) n ms hn
    have c3 := hA m (by omega)
    simp_arith! only [F_trade, List.map_cons, List.map_nil, List.length_cons, List.length_nil, List.replicate_succ, List.replicate_zero, List.append_nil, Nat.zero_add, Nat.reduceAdd, Nat.reduceSub, c1, c2, c3]
    unfold sysD
    simp_arith! only []
  · have yb := mul_ybd M G.mem b1 hn
    let yn := y.map Int.toNat
    let zn := z.map Int.toNat
    let g := gcdL (yn ++ zn)
    let yq := y.map fun x => x.toNat / g
    let zq := z.map fun x => x.toNat / g
    have dy : ∀ x ∈ y, g ∣ x.toNat := fun x hx => gcdL_dvd (List.mem_append_left _ (List.mem_map.mpr ⟨x, hx, rfl⟩))
    have dz : ∀ x ∈ z, g ∣ x.toNat := fun x hx => gcdL_dvd (List.mem_append_right _ (List.mem_map.mpr ⟨x, hx, rfl⟩))
    obtain ⟨x0, m0, p0⟩ := sum_pos M.zp M.z0
    have lz := le_sum M.z0
    have ly := le_sum M.y0
    have hg0 : 0 < g := Nat.pos_of_dvd_of_pos (dz x0 m0) (by omega)
    have hg1 : g ≤ 720 := by
      have := Nat.le_of_dvd (by omega) (dz x0 m0)
      have := lz x0 m0
      omega
    have ey : y = yq.map fun t => ((g * t : Nat) : Int) := quot_map M.y0 dy
    have ez : z = zq.map fun t => ((g * t : Nat) : Int) := quot_map M.z0 dz
    have sy : y.sum = (g : Int) * (yq.sum : Nat) := by conv => lhs; rw [ey]
                                                       exact sum_mulL g yq
    have sz : z.sum = (g : Int) * (zq.sum : Nat) := by conv => lhs; rw [ez]
                                                       exact sum_mulL g zq
    have gp : (0 : Int) < (g : Int) := by omega
    have zq1 : 1 ≤ zq.sum := by
      have := M.zp
      rw [sz] at this
      have := Int.pos_of_mul_pos_right this gp
      omega
    have leq : ∀ (k : Nat) (B : Int), (g : Int) * (k : Int) ≤ B → (k : Int) ≤ B := fun k B hB => by
      have : 1 * (k : Int) ≤ (g : Int) * (k : Int) := Int.mul_le_mul_of_nonneg_right (by omega) (by omega)
      omega
    have zq2 : (zq.sum : Int) ≤ 720 := leq zq.sum 720 (by rw [← sz]; exact b1)
    have yq2 : (yq.sum : Int) ≤ 4320 := leq yq.sum 4320 (by rw [← sy]; exact yb)
    have tot : zq.sum ≤ yq.sum := by
      have := M.tot
      rw [sy, sz] at this
      have := Int.le_of_mul_le_mul_left this gp
      omega
    let Ls := expK (maxL n ms) zq
    let Ws := (expK ms yq).take Ls.length
    have lLs : Ls.length = zq.sum := len_exp _ _ (by show (z.map _).length = _; rw [List.length_map]; exact M.zl)
    have lEx : (expK ms yq).length = yq.sum := len_exp _ _ (by show (y.map _).length = _; rw [List.length_map]; exact M.yl)
    have lWs : Ws.length = Ls.length := by
      show ((expK ms yq).take Ls.length).length = _
      rw [List.length_take]
      omega
    have cW : ∀ p ∈ rng n, cntP p Ws ≤ cntP p Ls := fun p hp => by
      have h1 := cntP_take p (expK ms yq) Ls.length
      have h2 := cnt_exp p ms yq
      have h3 := cnt_exp p (maxL n ms) zq
      have h4 := M.pl p hp
      rw [ey, ez, zip_mulL, zip_mulL, ← h2, ← h3] at h4
      have := Int.le_of_mul_le_mul_left h4 gp
      show cntP p ((expK ms yq).take Ls.length) ≤ cntP p (expK (maxL n ms) zq)
      omega
    have mW : ∀ x ∈ Ws, winB ms x = true ∧ x ∈ subs n := fun x hx => by
      have := exp_mem (List.mem_of_mem_take hx)
      exact ⟨winB_iff.mpr ⟨x, this, fun y hy => hy⟩, (G.mem x this).1⟩
    have mL : ∀ x ∈ Ls, winB ms x = false ∧ x ∈ subs n := fun x hx => by
      have := maxL_mem.mp (exp_mem hx)
      exact ⟨this.2.1, this.1⟩
    obtain ⟨f1, f2, f3, f4⟩ := bal_fold (ms := ms) (Ls := Ls) (n := n) (rng n) Ws (rng_nodup n) (fun p hp => hp) cW lWs mW
    have eb : (rng n).foldl (balS Ls) Ws = balK n Ws Ls := rfl
    rw [eb] at f1 f2 f3 f4
    refine .inr ⟨hw, sortK (balK n Ws Ls), sortK Ls, ⟨?_, ?_, ?_, fun x hx => ?_, fun x hx => ?_, fun x hx => ?_, fun x hx => ?_, fun p hp => ?_⟩, At.mk h rfl fun m hm => ?_⟩
    · rw [(sortK_perm _).length_eq, f3, lWs, lLs]; exact zq1
    · rw [(sortK_perm _).length_eq, f3, lWs, lLs]; omega
    · rw [(sortK_perm _).length_eq, (sortK_perm _).length_eq, f3, lWs]
    · exact (f4 x ((sortK_perm _).mem_iff.mp hx)).2
    · exact (mL x ((sortK_perm _).mem_iff.mp hx)).2
    · exact (f4 x ((sortK_perm _).mem_iff.mp hx)).1
    · exact (mL x ((sortK_perm _).mem_iff.mp hx)).1
    · rw [cntP_perm p (sortK_perm _), cntP_perm p (sortK_perm _), f1 p hp]
    · have c1 := hj m hm ms n G h1 hn
      have c2 := ha m (by omega) n ms hn
      have c3 := hA m (by omega)
      have q0 : dIdx (.tuple [.list (y.map .int), .list (z.map .int)]) (.int 0) = .ok (.list (y.map .int)) := rfl
      have q1 : dIdx (.tuple [.list (y.map .int), .list (z.map .int)]) (.int 1) = .ok (.list (z.map .int)) := rfl
      have cg := gcd_of_ok hc (l := yn ++ zn) (fun k hk => by
        rcases List.mem_append.mp hk with e | e
        · obtain ⟨x, hx, rfl⟩ := List.mem_map.mp e
          have := ly x hx
          omega
        · obtain ⟨x, hx, rfl⟩ := List.mem_map.mp e
          have := lz x hx
          omega) m (by omega)
      have em : (yn ++ zn).map (fun k : Nat => PyData.int (k : Int)) = y.map .int ++ z.map .int := by
        rw [List.map_append, map_toNat M.y0, map_toNat M.z0]
      rw [em] at cg
      change _ = R.ok (PyData.int ((g : Nat) : Int)) at cg
      have l1 := G.len hn
      have l2 := maxL_len ms hn
      have al : dBin .add (.list (y.map .int)) (.list (z.map .int)) = .ok (.list (y.map .int ++ z.map .int)) := add_list (by
        rw [List.length_map, List.length_map, M.yl, M.zl]; omega)
      have x1 := expand_ok hd (maxL n ms) zq (by omega) m (by omega)
      have x2 := expand_ok hd ms yq (by omega) m (by omega)
      have x3 := balanced_ok (n := n) (W := Ws) (Ls := Ls) he hf hn (fun x hx => (mW x hx).2) (by rw [lWs, lLs]; omega) m (by omega)
      have dv : ∀ (l : List Int), (∀ x ∈ l, 0 ≤ x) → l.map (fun x => PyData.int (x / (g : Int))) = (l.map fun x => x.toNat / g).map fun k : Nat => PyData.int (k : Int) := fun l hl => by
        rw [List.map_map]
        refine List.map_congr_left fun x hx => ?_
        show PyData.int _ = PyData.int ((x.toNat / g : Nat) : Int)
        congr 1
        conv => lhs; rw [← Int.toNat_of_nonneg (hl x hx)]
        rfl
      simp_arith! only [F_trade, List.map_cons, List.map_nil, List.length_cons, List.length_nil, List.replicate_succ, List.replicate_zero, List.append_nil, Nat.zero_add, Nat.reduceAdd, Nat.reduceSub, c1, c2, c3, q0, q1, al, cg]
      rw [comp_map (enc := PyData.int) (fun x => PyData.int (x / (g : Int))) fun x hx => by
        simp_arith [bin_div x (g : Int) (by omega)], dv z M.z0]
      have x1' : evFn fns m d [.list ((maxL n ms).map encK), .list ((z.map fun x => x.toNat / g).map fun k : Nat => PyData.int (k : Int))] = .ok (.list (Ls.map encK)) := x1
      simp_arith! only [x1', q0]
      rw [comp_map (enc := PyData.int) (fun x => PyData.int (x / (g : Int))) fun x hx => by
        simp_arith [bin_div x (g : Int) (by omega)], dv y M.y0]
      have x2' : evFn fns m d [.list (ms.map encK), .list ((y.map fun x => x.toNat / g).map fun k : Nat => PyData.int (k : Int))] = .ok (.list ((expK ms yq).map encK)) := x2
      have ct : dCut (.list ((expK ms yq).map encK)) none (some ((Ls.length : Nat) : Int)) = .ok (.list (Ws.map encK)) := by
        show R.ok (PyData.list (cutL ((expK ms yq).map encK) none (some ((Ls.length : Nat) : Int)))) = _
        rw [cut_take, ← List.map_take]
      simp_arith! only [x2', len_L, List.length_map, ct, x3, sorted_Ks]
end
end Qw

set_option Elab.async false
set_option linter.all false
set_option maxRecDepth 100000
set_option maxHeartbeats 4000000
/-! is_trade, walked. By an AI agent. -/
namespace Qw
open PySem L2 Qw.Det
def sideB (n : Nat) : D → Bool
  | .list ds => decide (1 ≤ ds.length) && (decide (ds.length ≤ 999) && ds.all (isC n))
  | _ => false
def coalsOf : D → List (List Int)
  | .list ds => (tupsK ds).getD []
  | _ => []
def trQ (n : Nat) (ms a b : List (List Int)) : Bool := decide (a.length = b.length) && (a.all (winB ms) && (b.all (fun c => !winB ms c) && (rng n).all fun p => decide (cntP p a = cntP p b)))
def isTrB (n : Nat) (ms : List (List Int)) : D → Bool
  | .tuple [x, y] => sideB n x && (sideB n y && trQ n ms (coalsOf x) (coalsOf y))
  | _ => false
theorem isTr_two (n : Nat) (ms : List (List Int)) (x y : D) : isTrB n ms (.tuple [x, y]) = (sideB n x && (sideB n y && trQ n ms (coalsOf x) (coalsOf y))) := rfl
theorem isTr_len {n : Nat} {ms : List (List Int)} {ds : List D} (h : ds.length ≠ 2) : isTrB n ms (.tuple ds) = false := by
  unfold isTrB
  split
  · rename_i e; cases e; exact absurd rfl h
  · rfl
theorem coals_mk (a : List (List Int)) : coalsOf (.list (a.map encK)) = a := by
  show (tupsK (a.map encK)).getD [] = a
  rw [tupsK_map]
  rfl
theorem side_mk (n : Nat) (a : List (List Int)) : sideB n (.list (a.map encK)) = (decide (1 ≤ a.length) && (decide (a.length ≤ 999) && a.all fun c => decide (c ∈ subs n))) := by
  show (decide (1 ≤ (a.map encK).length) && (decide ((a.map encK).length ≤ 999) && (a.map encK).all (isC n))) = _
  rw [List.length_map, List.all_map]
  congr 2
  exact congrArg (fun f => a.all f) (funext fun c => isC_enc)
theorem coals_of {n : Nat} : ∀ {ds : List D}, (∀ d ∈ ds, isC n d = true) → ∃ a : List (List Int), ds = a.map encK ∧ ∀ c ∈ a, c ∈ subs n
  | [], _ => ⟨[], rfl, fun c hc => by cases hc⟩
  | d :: ds, h => by
    obtain ⟨c, rfl, hc⟩ := isC_of (h d List.mem_cons_self)
    obtain ⟨a, rfl, ha⟩ := coals_of fun e he => h e (List.mem_cons_of_mem _ he)
    refine ⟨c :: a, rfl, fun x hx => ?_⟩
    rcases List.mem_cons.mp hx with e | e
    · subst e; exact hc
    · exact ha x e
theorem side_of {n : Nat} {x : D} (h : sideB n x = true) : ∃ a : List (List Int), x = .list (a.map encK) ∧ (∀ c ∈ a, c ∈ subs n) ∧ 1 ≤ a.length ∧ a.length ≤ 999 := by
  cases x with
  | list ds =>
    have h : (decide (1 ≤ ds.length) && (decide (ds.length ≤ 999) && ds.all (isC n))) = true := h
    rw [Bool.and_eq_true, Bool.and_eq_true, decide_eq_true_eq, decide_eq_true_eq, List.all_eq_true] at h
    obtain ⟨a, rfl, ha⟩ := coals_of h.2.2
    rw [List.length_map] at h
    exact ⟨a, rfl, ha, h.1, h.2.1⟩
  | _ => cases h
theorem Trd.isTr {n : Nat} {ms A B : List (List Int)} (T : Trd n ms A B) : isTrB n ms (.tuple [.list (A.map encK), .list (B.map encK)]) = true := by
  rw [isTr_two, side_mk, side_mk, coals_mk, coals_mk]
  have h1 := T.l1
  have h2 := T.l2
  have h3 := T.len
  rw [decide_eq_true h1, decide_eq_true h2, decide_eq_true (show 1 ≤ B.length by omega), decide_eq_true (show B.length ≤ 999 by omega)]
  unfold trQ
  rw [decide_eq_true h3]
  simp -implicitDefEqProofs only [Bool.true_and, Bool.and_eq_true, List.all_eq_true, decide_eq_true_eq]
  exact ⟨T.sa, T.sb, T.wa, fun x hx => by rw [T.wb x hx]; rfl, T.cnt⟩
theorem forTwo (i : Nat) (body : Env → Res) (x y : D) (ρ : Env) : forLoop (.one i) body [x, y] ρ = seqR (body (ρ.set i (.val x))) fun ρ2 => seqR (body (ρ2.set i (.val y))) fun ρ3 => .next ρ3 := rfl
theorem map_all {α : Type} (f g : α → Int) (l : List α) : decide (l.map f = l.map g) = l.all fun p => decide (f p = g p) := by
  induction l with
  | nil => rfl
  | cons x l ih =>
    rw [List.map_cons, List.map_cons, List.all_cons, ← ih]
    by_cases h1 : f x = g x <;> by_cases h2 : l.map f = l.map g <;> simp [h1, h2]
section
variable {fns : List Fn} {i j a b c d e n : Nat} {ms : List (List Int)}
theorem is_trade_gen (h : fns[i]? = some (F_is_trade j a b)) (hj : Chk fns j) (ha : fns[a]? = some (F_is_coalition d)) (hd : fns[d]? = some F_in_range) (hb : fns[b]? = some (F_is_winning e)) (he : fns[e]? = some F_is_subset) (G : Game n ms) (h1 : 1 ≤ n) (hn : n ≤ 6) {v : D} (hv : v.plain = true) : At fns 5 i [gameD n ms, v] (.ok (.bool (isTrB n ms v))) := by
  refine At.mk h rfl fun m hm => ?_
  have c1 := hj m hm ms n G h1 hn
  have c2 : ∀ {w : D}, w.plain = true → evFn fns m a [.int n, w] = .ok (.bool (isC n w)) := fun hw => is_coalition_gen ha hd n hw m (by omega)
  have c4 : ∀ x, evFn fns m b [gameD n ms, encK x] = .ok (.bool (winB ms x)) := fun x => is_winning_ok hb he n ms x m (by omega)
  cases v with
  | dict _ => cases hv
  | tuple ds =>
    by_cases h2 : ds.length = 2
    · obtain ⟨x, y, rfl⟩ := two_of h2
      have hp : x.plain = true ∧ y.plain = true := by simpa [PyData.plain, PyData.plainAll] using hv
      have ql : dLen (.tuple [x, y]) = .ok (.int 2) := rfl
      have q0 : dIdx (.tuple [x, y]) (.int 0) = .ok x := rfl
      have q1 : dIdx (.tuple [x, y]) (.int 1) = .ok y := rfl
      have step : ∀ (w : D), w.plain = true → bodyOf (evFn fns m) (.cons (.ite (.or (.not (.bi (.isi .list) (.cons (.var 2) .nil))) (.not (.chain (.cst (.int 1)) (.bi .len (.cons (.var 2) .nil)) (.cst (.int 999))))) (.cons (.ret (.cst (.bool false))) .nil) .nil) (.cons (.ite (.comp (.var 3) (.one 3) (.seq (.var 2)) (.some (.not (.call a (.cons (.idx (.var 0) (.cst (.int 0))) (.cons (.var 3) .nil)))))) (.cons (.ret (.cst (.bool false))) .nil) .nil) .nil)) [.val (gameD n ms), .val (.tuple [x, y]), .val w, .un, .un, .un] = if sideB n w = true then .next [.val (gameD n ms), .val (.tuple [x, y]), .val w, .un, .un, .un] else .ret (.bool false) := by
        intro w hw
        cases w with
        | dict _ => cases hw
        | list ws =>
          have hws : ∀ d ∈ ws, d.plain = true := plain_mem (by simpa [PyData.plain] using hw)
          have e0 : sideB n (.list ws) = (decide (1 ≤ ws.length) && (decide (ws.length ≤ 999) && ws.all (isC n))) := rfl
          rw [e0]
          by_cases z1 : 1 ≤ ws.length
          · have z1' : (1 : Int) ≤ (ws.length : Int) := by omega
            by_cases z2 : ws.length ≤ 999
            · have z2' : (ws.length : Int) ≤ 999 := by omega
              simp_arith [z1', z2', z1, z2, decide_true]
              rw [comp_fltD (fun d => !isC n d) fun d hd => by simp_arith [c2 (hws d hd)]]
              simp_arith! only [filter_none]
              cases ws.all (isC n) <;> rfl
            · have z2' : ¬ (ws.length : Int) ≤ 999 := by omega
              simp_arith [z1', z2', z1, z2, decide_true, decide_false]
          · have z1' : ¬ (1 : Int) ≤ (ws.length : Int) := by omega
            simp_arith [z1', z1, decide_false]
        | _ => simp_arith [sideB]
      simp_arith! only [F_is_trade, List.map_cons, List.map_nil, List.length_cons, List.length_nil, List.replicate_succ, List.replicate_zero, List.append_nil, Nat.zero_add, Nat.reduceAdd, Nat.reduceSub, c1, ql, decide_true, forTwo]
      rw [step x hp.1, isTr_two]
      cases z1 : sideB n x with
      | false => simp_arith! only []
      | true =>
        simp_arith! only []
        rw [step y hp.2]
        cases z2 : sideB n y with
        | false => simp_arith! only []
        | true =>
          obtain ⟨A, rfl, hA, la1, la2⟩ := side_of z1
          obtain ⟨B, rfl, hB, lb1, lb2⟩ := side_of z2
          simp_arith! only [q0, q1, len_L, List.length_map]
          rw [coals_mk, coals_mk]
          unfold trQ
          by_cases z3 : A.length = B.length
          · have z3' : (A.length : Int) = (B.length : Int) := by omega
            simp_arith! only [z3', z3, decide_true, q0, q1]
            rw [comp_flt (enc := encK) (fun x => !winB ms x) encK fun x hx => by simp_arith [c4]]
            simp_arith! only [List.isEmpty_map, filter_none]
            cases z4 : A.all (winB ms) with
            | false => simp_arith! only []
            | true =>
              simp_arith! only [q1]
              rw [comp_flt (enc := encK) (fun x => winB ms x) encK fun x hx => by simp_arith [c4]]
              simp_arith! only [List.isEmpty_map]
              have e5 : (B.filter fun x => winB ms x).isEmpty = B.all fun c => !winB ms c := by
                have := filter_none (fun x => !winB ms x) B
                simp -implicitDefEqProofs only [Bool.not_not] at this
                exact this
              rw [e5]
              cases z5 : B.all fun c => !winB ms c with
              | false => simp_arith! only []
              | true =>
                simp_arith! only [it_range (show n ≤ 1000 by omega)]
                rw [show [PyData.list (A.map encK), PyData.list (B.map encK)] = [A, B].map (fun s => PyData.list (s.map encK)) from rfl]
                rw [comp_map (enc := fun s : List (List Int) => PyData.list (s.map encK)) (fun s => PyData.list (((rng n).map fun p => ((cntP p s : Nat) : Int)).map .int)) fun s hs => by
                  simp_arith [it_range (show n ≤ 1000 by omega)]
                  rw [comp_map (enc := PyData.int) (fun p => PyData.int ((cntP p s : Nat) : Int)) fun p hp => by
                    simp_arith []
                    rw [comp_flt (enc := encK) (fun x => decide (p ∈ x)) (fun _ => PyData.int 1) fun x hx => by simp_arith []]
                    simp_arith! only [len_L, List.length_map]
                    rfl]
                  simp_arith! only [List.map_map]
                  rfl]
                have i0 : dIdx (.list ([A, B].map fun s => PyData.list (((rng n).map fun p => ((cntP p s : Nat) : Int)).map .int))) (.int 0) = .ok (.list (((rng n).map fun p => ((cntP p A : Nat) : Int)).map .int)) := rfl
                have i1 : dIdx (.list ([A, B].map fun s => PyData.list (((rng n).map fun p => ((cntP p s : Nat) : Int)).map .int))) (.int 1) = .ok (.list (((rng n).map fun p => ((cntP p B : Nat) : Int)).map .int)) := rfl
                simp_arith! only [i0, i1, cmp_eqLI, map_all]
                congr 3
                funext p
                rw [Bool.eq_iff_iff, decide_eq_true_eq, decide_eq_true_eq]
                omega
          · have z3' : ¬ (A.length : Int) = (B.length : Int) := by omega
            simp_arith! only [z3', z3, decide_false]
    · have h2' : decide ((ds.length : Int) = 2) = false := decide_eq_false (by omega)
      simp_arith! only [F_is_trade, List.map_cons, List.map_nil, List.length_cons, List.length_nil, List.replicate_succ, List.replicate_zero, List.append_nil, Nat.zero_add, Nat.reduceAdd, Nat.reduceSub, c1, len_T, h2', isTr_len h2]
  | _ => simp_arith! only [F_is_trade, List.map_cons, List.map_nil, List.length_cons, List.length_nil, List.replicate_succ, List.replicate_zero, List.append_nil, Nat.zero_add, Nat.reduceAdd, Nat.reduceSub, c1, isTrB]
/-- the lists' items are short tuples, or no tuples -/
def okSide : D → Bool
  | .list ds => ds.all shortT
  | _ => true
theorem law_is_trade_gen (h : fns[i]? = some (F__law_is_trade a b)) (ha : fns[a]? = some (F__law_is_coalition c)) (hc : fns[c]? = some (F__law_in d)) (hd : fns[d]? = some F__law_whole) (hb : fns[b]? = some (F__law_wins e)) (he : fns[e]? = some F__law_within) (hn : n ≤ 6) {v : D} (hv : v.plain = true) (hs : ∀ ds, v = .tuple ds → ∀ x ∈ ds, okSide x = true) : At fns 4 i [gameD n ms, v] (.ok (.bool (isTrB n ms v))) := by
  refine At.mk h rfl fun m hm => ?_
  have c2 : ∀ {w : D}, w.plain = true → shortT w = true → evFn fns m a [.int n, w] = .ok (.bool (isC n w)) := fun {w} hw hz => law_coal_gen ha hc hd n hw (fun ds e => by subst e; exact of_decide_eq_true hz) m (by omega)
  have c4 : ∀ x, evFn fns m b [gameD n ms, encK x] = .ok (.bool (winB ms x)) := fun x => law_wins_ok hb he n ms x m (by omega)
  cases v with
  | dict _ => cases hv
  | tuple ds =>
    by_cases h2 : ds.length = 2
    · obtain ⟨x, y, rfl⟩ := two_of h2
      have hp : x.plain = true ∧ y.plain = true := by simpa [PyData.plain, PyData.plainAll] using hv
      have ql : dLen (.tuple [x, y]) = .ok (.int 2) := rfl
      have q0 : dIdx (.tuple [x, y]) (.int 0) = .ok x := rfl
      have q1 : dIdx (.tuple [x, y]) (.int 1) = .ok y := rfl
      have step : ∀ (w : D), w.plain = true → okSide w = true → bodyOf (evFn fns m) (.cons (.ite (.or (.not (.bi (.isi .list) (.cons (.var 2) .nil))) (.not (.chain (.cst (.int 1)) (.bi .len (.cons (.var 2) .nil)) (.cst (.int 999))))) (.cons (.ret (.cst (.bool false))) .nil) .nil) (.cons (.ite (.cmp .ne (.comp (.var 3) (.one 3) (.seq (.var 2)) (.some (.not (.call a (.cons (.idx (.var 0) (.cst (.int 0))) (.cons (.var 3) .nil)))))) (.lst .nil)) (.cons (.ret (.cst (.bool false))) .nil) .nil) .nil)) [.val (gameD n ms), .val (.tuple [x, y]), .val w, .un, .un] = if sideB n w = true then .next [.val (gameD n ms), .val (.tuple [x, y]), .val w, .un, .un] else .ret (.bool false) := by
        intro w hw hok
        cases w with
        | dict _ => cases hw
        | list ws =>
          have hpa : PyData.plainAll ws = true := by simpa [PyData.plain] using hw
          have hws : ∀ d ∈ ws, d.plain = true := plain_mem hpa
          have hsh : ∀ d ∈ ws, shortT d = true := List.all_eq_true.mp hok
          have e0 : sideB n (.list ws) = (decide (1 ≤ ws.length) && (decide (ws.length ≤ 999) && ws.all (isC n))) := rfl
          rw [e0]
          by_cases z1 : 1 ≤ ws.length
          · have z1' : (1 : Int) ≤ (ws.length : Int) := by omega
            by_cases z2 : ws.length ≤ 999
            · have z2' : (ws.length : Int) ≤ 999 := by omega
              simp_arith [z1', z2', z1, z2, decide_true]
              rw [comp_fltD (fun d => !isC n d) fun d hd => by simp_arith [c2 (hws d hd) (hsh d hd)]]
              have hpf : PyData.plainAll (ws.filter fun d => !isC n d) = true := plainAll_of fun d hd => hws d (List.mem_filter.mp hd).1
              simp_arith! only [ncmp_nil _ hpf, filter_none]
              cases ws.all (isC n) <;> rfl
            · have z2' : ¬ (ws.length : Int) ≤ 999 := by omega
              simp_arith [z1', z2', z1, z2, decide_true, decide_false]
          · have z1' : ¬ (1 : Int) ≤ (ws.length : Int) := by omega
            simp_arith [z1', z1, decide_false]
        | _ => simp_arith [sideB]
      simp_arith! only [F__law_is_trade, List.map_cons, List.map_nil, List.length_cons, List.length_nil, List.replicate_succ, List.replicate_zero, List.append_nil, Nat.zero_add, Nat.reduceAdd, Nat.reduceSub, ql, decide_true, forTwo]
      rw [step x hp.1 (hs _ rfl x (by simp)), isTr_two]
      cases z1 : sideB n x with
      | false => simp_arith! only []
      | true =>
        simp_arith! only []
        rw [step y hp.2 (hs _ rfl y (by simp))]
        cases z2 : sideB n y with
        | false => simp_arith! only []
        | true =>
          obtain ⟨A, rfl, hA, la1, la2⟩ := side_of z1
          obtain ⟨B, rfl, hB, lb1, lb2⟩ := side_of z2
          simp_arith! only [q0, q1, len_L, List.length_map]
          rw [coals_mk, coals_mk]
          unfold trQ
          by_cases z3 : A.length = B.length
          · have z3' : (A.length : Int) = (B.length : Int) := by omega
            simp_arith! only [z3', z3, decide_true, q0, q1]
            rw [comp_flt (enc := encK) (fun x => !winB ms x) encK fun x hx => by simp_arith [c4]]
            simp_arith! only [ncmp_nil _ (plain_Ks _), List.isEmpty_map, filter_none]
            cases z4 : A.all (winB ms) with
            | false => simp_arith! only []
            | true =>
              simp_arith! only [q1]
              rw [comp_flt (enc := encK) (fun x => winB ms x) encK fun x hx => by simp_arith [c4]]
              simp_arith! only [ncmp_nil _ (plain_Ks _), List.isEmpty_map]
              have e5 : (B.filter fun x => winB ms x).isEmpty = B.all fun c => !winB ms c := by
                have := filter_none (fun x => !winB ms x) B
                simp -implicitDefEqProofs only [Bool.not_not] at this
                exact this
              rw [e5]
              cases z5 : B.all fun c => !winB ms c with
              | false => simp_arith! only []
              | true =>
                simp_arith! only [it_range (show n ≤ 1000 by omega)]
                rw [fin_first (enc := PyData.int) (l := rng n) (r := .ok (.bool true)) (fun p => if decide (cntP p A = cntP p B) = true then none else some (PyData.bool false)) (fun g : Cell => [.val (gameD n ms), .val (.tuple [.list (A.map encK), .list (B.map encK)]), .val (.list (B.map encK)), .un, g]) (fun p hp g => ?_) fun g => by simp_arith! only []]
                · refine (all_first _ _).trans ?_
                  simp_arith! only []
                · refine ⟨_, .val (.int p), rfl, ?_⟩
                  simp_arith [q0]
                  rw [comp_flt (enc := encK) (fun x => decide (p ∈ x)) (fun _ => PyData.int 1) fun x hx => by simp_arith []]
                  simp_arith! only [q1, len_L, List.length_map]
                  rw [comp_flt (enc := encK) (fun x => decide (p ∈ x)) (fun _ => PyData.int 1) fun x hx => by simp_arith []]
                  simp_arith! only [len_L, List.length_map]
                  unfold cntP
                  by_cases z6 : (A.filter fun c => decide (p ∈ c)).length = (B.filter fun c => decide (p ∈ c)).length
                  · have z6' : (((A.filter fun c => decide (p ∈ c)).length : Nat) : Int) = (((B.filter fun c => decide (p ∈ c)).length : Nat) : Int) := by omega
                    simp_arith! only [z6', z6, decide_true]
                  · have z6' : ¬ (((A.filter fun c => decide (p ∈ c)).length : Nat) : Int) = (((B.filter fun c => decide (p ∈ c)).length : Nat) : Int) := by omega
                    simp_arith! only [z6', z6, decide_false]
          · have z3' : ¬ (A.length : Int) = (B.length : Int) := by omega
            simp_arith! only [z3', z3, decide_false]
    · have h2' : decide ((ds.length : Int) = 2) = false := decide_eq_false (by omega)
      simp_arith! only [F__law_is_trade, List.map_cons, List.map_nil, List.length_cons, List.length_nil, List.replicate_succ, List.replicate_zero, List.append_nil, Nat.zero_add, Nat.reduceAdd, Nat.reduceSub, len_T, h2', isTr_len h2]
  | _ => simp_arith! only [F__law_is_trade, List.map_cons, List.map_nil, List.length_cons, List.length_nil, List.replicate_succ, List.replicate_zero, List.append_nil, Nat.zero_add, Nat.reduceAdd, Nat.reduceSub, isTrB]
theorem law_trade_ok {xc : List Str} (h : fns[i]? = some (F__law_trade xc j)) (hx : xc.contains "IsWeighted" = true) {r : R D} (hj : ∀ m, 5 ≤ m → evFn fns m j [gameD n ms] = r) :
    (∀ x, r = .ok x → At fns 6 i [gameD n ms] (.ok x)) ∧ (r = .err ⟨"IsWeighted", none⟩ → At fns 6 i [gameD n ms] (.ok (.str "none"))) := by
  refine ⟨fun x hr => At.mk h rfl fun m hm => ?_, fun hr => At.mk h rfl fun m hm => ?_⟩
  · have c1 := hj m hm
    rw [hr] at c1
    simp_arith! only [F__law_trade, List.map_cons, List.map_nil, List.length_cons, List.length_nil, List.replicate_succ, List.replicate_zero, List.append_nil, Nat.zero_add, Nat.reduceAdd, Nat.reduceSub, c1]
  · have c1 := hj m hm
    rw [hr] at c1
    simp_arith! only [F__law_trade, List.map_cons, List.map_nil, List.length_cons, List.length_nil, List.replicate_succ, List.replicate_zero, List.append_nil, Nat.zero_add, Nat.reduceAdd, Nat.reduceSub, c1, Option.isNone_none, hx]
    rfl
end
end Qw

set_option Elab.async false
set_option linter.all false
set_option maxRecDepth 100000
set_option maxHeartbeats 4000000
/-! Small things for the laws of weights. By an AI agent. -/
namespace Qw
open PySem L2 Qw.Det
theorem b_ft : (false == true) = false := rfl
theorem b_tf : (true == false) = false := rfl
theorem n_ft : (false != true) = true := rfl
theorem n_tf : (true != false) = true := rfl
theorem plain_sys (q : Int) (W : List Int) : (sysD q W).plain = true := by unfold sysD; simp [PyData.plain, PyData.plainAll, plain_K]
theorem plain_tr (A B : List (List Int)) : (PyData.tuple [.list (A.map encK), .list (B.map encK)]).plain = true := by simp [PyData.plain, PyData.plainAll, plain_Ks]
theorem sys_none (q : Int) (W : List Int) : dCmp .eq (sysD q W) (.str "none") = .ok (.bool false) := by
  rw [eq_of (okEq_of (plain_sys q W) rfl (.inr (by simp [PyData.depth])))]
  unfold sysD
  simp [PyData.eqv]
theorem sys_nn (q : Int) (W : List Int) : dCmp .ne (sysD q W) (.str "none") = .ok (.bool true) := by
  rw [ne_of (okEq_of (plain_sys q W) rfl (.inr (by simp [PyData.depth])))]
  unfold sysD
  simp [PyData.eqv]
theorem tr_none (A B : List (List Int)) : dCmp .eq (.tuple [.list (A.map encK), .list (B.map encK)]) (.str "none") = .ok (.bool false) := by
  rw [eq_of (okEq_of (plain_tr A B) rfl (.inr (by simp [PyData.depth])))]
  simp [PyData.eqv]
theorem cut_K (W : List Int) (lo hi : Option Int) : dCut (encK W) lo hi = .ok (encK (cutL W lo hi)) := by
  show R.ok (PyData.tuple (cutL (W.map PyData.int) lo hi)) = _
  unfold cutL encK
  rw [List.length_map, List.map_take, List.map_drop]
theorem cut_Ks (l : List (List Int)) (lo hi : Option Int) : dCut (.list (l.map encK)) lo hi = .ok (.list ((cutL l lo hi).map encK)) := by
  show R.ok (PyData.list (cutL (l.map encK) lo hi)) = _
  unfold cutL
  rw [List.length_map, List.map_take, List.map_drop]
theorem cutL_mem {α : Type} {l : List α} {lo hi : Option Int} {x : α} (h : x ∈ cutL l lo hi) : x ∈ l := List.mem_of_mem_drop (List.mem_of_mem_take h)
theorem cutL_len {α : Type} (l : List α) (lo hi : Option Int) : (cutL l lo hi).length ≤ l.length := by
  unfold cutL
  rw [List.length_take, List.length_drop]
  omega
theorem mul_T (d : D) {n : Nat} (h1 : 1 ≤ n) (hn : n ≤ 6) : dBin .mul (.tuple [d]) (.int (n : Int)) = .ok (.tuple (List.replicate n d)) := by
  show (if [d] ≠ [] ∧ 1 ≤ (n : Int) ∧ (n : Int) ≤ 1000 ∧ [d].length ≤ 1000 then R.ok (PyData.tuple (List.replicate (n : Int).toNat [d]).flatten) else .bad) = _
  rw [if_pos ⟨by simp, by omega, by omega, by simp⟩, Int.toNat_natCast]
  congr 2
  clear h1 hn
  induction n with
  | zero => rfl
  | succ n ih => rw [List.replicate_succ, List.flatten_cons, ih]; rfl
theorem mul_K1 (x : Int) {n : Nat} (h1 : 1 ≤ n) (hn : n ≤ 6) : dBin .mul (encK [x]) (.int (n : Int)) = .ok (.tuple (List.replicate n (.int x))) := mul_T _ h1 hn
theorem plain_rep (d : D) (h : d.plain = true) : ∀ n, PyData.plainAll (List.replicate n d) = true
  | 0 => rfl
  | n + 1 => by rw [List.replicate_succ, plainAll_cons, h, plain_rep d h n]; rfl
theorem mul_2 (x : Int) : dBin .mul (.int 2) (.int x) = .ok (.int (2 * x)) := bin_mul _ _ (mulOk_l _ _ (by omega))
end Qw

set_option Elab.async false
set_option linter.all false
set_option maxRecDepth 100000
set_option maxHeartbeats 4000000
/-! law_k06. By an AI agent. -/
namespace Qw.K06
open PySem L2 Qw
def exs : List Str := ["GameError", "InvalidGame", "NotWeighted", "IsWeighted"]
def fns : List Fn := [F_in_range, F_is_coalition 0, F_is_subset, F_is_game 0 1 2, F_check_game 3, F_all_coalitions, F_is_winning 2, F_with_player, F_outsiders, F_maximal_losing_of 5 6 7 8, F_entering_column, F_leaving_row, F_pivot, F_solve 10 11 12, F_is_system 0, F_weight_of, F_represents 4 14 5 15 6, F_separated 13, F_find_weights 4 17 9, F_is_weighted 4 17 9, F_expand, F_gcd_of, F_balanced 7, F_trade 4 9 17 21 20 22, F_is_trade 4 1 6, F__law_cell, F__law_whole, F__law_row 25, F__law_in 26, F__law_coalitions, F__law_within, F__law_wins 30, F__law_minimal 30, F__law_game 27 29 32, F__law_is_coalition 28, F__law_reaches, F__law_is_system 28, F__law_represents 36 29 35 31, F__law_weights exs 18, F__law_trade exs 23, F__law_is_trade 34 31, F_law_k06 33 38 39 19 16 37 24 40]
def consts : List (Str × D) := [(("MAX_PLAYERS" : Str), (.int 6)), (("MAX_WEIGHT" : Str), (.int 999)), (("MAX_LENGTH" : Str), (.int 999)), (("GameError" : Str), .dict []), (("InvalidGame" : Str), .dict []), (("NotWeighted" : Str), .dict []), (("IsWeighted" : Str), .dict [])]
def places : List (Str × Nat) := [(("in_range" : Str), 7), (("is_coalition" : Str), 8), (("is_subset" : Str), 9), (("is_game" : Str), 10), (("check_game" : Str), 11), (("all_coalitions" : Str), 12), (("is_winning" : Str), 13), (("with_player" : Str), 14), (("outsiders" : Str), 15), (("maximal_losing_of" : Str), 16), (("entering_column" : Str), 18), (("leaving_row" : Str), 19), (("pivot" : Str), 20), (("solve" : Str), 21), (("is_system" : Str), 24), (("weight_of" : Str), 25), (("represents" : Str), 26), (("separated" : Str), 27), (("find_weights" : Str), 28), (("is_weighted" : Str), 29), (("expand" : Str), 32), (("gcd_of" : Str), 33), (("balanced" : Str), 34), (("trade" : Str), 35), (("is_trade" : Str), 36), (("_law_cell" : Str), 38), (("_law_whole" : Str), 39), (("_law_row" : Str), 40), (("_law_in" : Str), 41), (("_law_coalitions" : Str), 42), (("_law_within" : Str), 43), (("_law_wins" : Str), 44), (("_law_minimal" : Str), 45), (("_law_game" : Str), 46), (("_law_is_coalition" : Str), 47), (("_law_reaches" : Str), 48), (("_law_is_system" : Str), 49), (("_law_represents" : Str), 50), (("_law_weights" : Str), 51), (("_law_trade" : Str), 52), (("_law_is_trade" : Str), 53), (("law" : Str), 54)]
def others : List Str := ["MAX_PLAYERS", "MAX_WEIGHT", "MAX_LENGTH", "GameError", "InvalidGame", "NotWeighted", "IsWeighted"]
def lawAt : Nat := 41
theorem chk : Chk fns 4 := chk_of (i := 4) (j := 3) (i1 := 0) (i2 := 1) (i3 := 2) rfl rfl rfl rfl rfl
theorem g_ok (ns : List Int) (at_ most : Nat) (hm1 : 1 ≤ most) (hm6 : most ≤ 6) : ∃ n ms, 1 ≤ n ∧ n ≤ most ∧ Game n ms ∧ ∀ m, 10 ≤ m → evFn fns m 33 [scr ns, .int (at_ : Int), .int (most : Int)] = .ok (gameD n ms) := by
  obtain ⟨n, ms, h1, h2, h3, h4⟩ := game_ok (fns := fns) (i := 33) (i1 := 27) (i2 := 29) (i3 := 32) (q := 25) (w := 30) rfl rfl rfl rfl rfl rfl ns at_ most hm1 hm6
  exact ⟨n, ms, h1, h2, h3.game, fun m hm => h4 m (by omega)⟩
theorem row_at (ns : List Int) (at_ : Nat) {m : Nat} (hm : 10 ≤ m) : evFn fns m 27 [scr ns, .int (at_ : Int)] = .ok (.list ((rowL ns at_).map .int)) := row_ok (fns := fns) (i := 27) (j := 25) rfl rfl ns at_ m (by omega)
theorem sepAt : SepAt fns 17 := ⟨13, 10, 11, 12, rfl, rfl, rfl, rfl, rfl⟩
theorem maxAt : MaxAt fns 9 := fun m hm n ms hn => maximal_losing_ok (fns := fns) (i := 9) (a := 5) (b := 6) (c := 7) (d := 2) (e := 8) rfl rfl rfl rfl rfl rfl ms hn m hm
theorem sysAt : ∀ m, 2 ≤ m → ∀ (n : Nat) (v : D), v.plain = true → evFn fns m 14 [.int n, v] = .ok (.bool (isSysB n v)) := fun m hm n v hv => is_system_gen (fns := fns) (i := 14) (j := 0) rfl rfl n hv m hm
theorem lsysAt : ∀ m, 3 ≤ m → ∀ (n : Nat) (v : D), v.plain = true → evFn fns m 36 [.int n, v] = .ok (.bool (isSysB n v)) := fun m hm n v hv => law_is_system_gen (fns := fns) (i := 36) (j := 28) (a := 26) rfl rfl rfl n hv m hm
theorem lall {n m : Nat} (hn : n ≤ 6) (hm : 10 ≤ m) : evFn fns m 29 [.int n] = .ok (.list ((allC n).map encK)) := law_coalitions_ok (fns := fns) (i := 29) rfl n (by omega) m (by omega)
theorem lwin {n m : Nat} {ms : List (List Int)} (hm : 10 ≤ m) (c : List Int) : evFn fns m 31 [gameD n ms, encK c] = .ok (.bool (winB ms c)) := law_wins_ok (fns := fns) (i := 31) (j := 30) rfl rfl n ms c m (by omega)
theorem lmin {m : Nat} (hm : 10 ≤ m) (cs : List (List Int)) (hl : cs.length < 64) : evFn fns m 32 [.list (cs.map encK)] = .ok (.tuple ((minK cs).map encK)) := minimal_ok (fns := fns) (i := 32) (j := 30) rfl rfl cs hl m (by omega)
theorem repAt {n : Nat} {ms : List (List Int)} (G : Game n ms) (h1 : 1 ≤ n) (hn : n ≤ 6) {v : D} (hv : v.plain = true) : At fns 10 16 [gameD n ms, v] (.ok (.bool (repB n ms v))) := fun m hm => represents_gen (fns := fns) (i := 16) (j := 4) (a := 14) (b := 5) (c := 15) (d := 6) (e := 2) rfl chk (fun m hm v hv => sysAt m hm n v hv) rfl rfl rfl rfl G h1 hn hv m (by omega)
theorem lrepAt {n : Nat} {ms : List (List Int)} (hn : n ≤ 6) {v : D} (hv : v.plain = true) : At fns 10 37 [gameD n ms, v] (.ok (.bool (repB n ms v))) := fun m hm => law_represents_gen (fns := fns) (i := 37) (a := 36) (b := 29) (c := 35) (d := 31) (e := 30) (ms := ms) rfl (fun m hm v hv => lsysAt m hm n v hv) rfl rfl rfl rfl hn hv m (by omega)
theorem iswAt {n : Nat} {ms : List (List Int)} (G : Game n ms) (h1 : 1 ≤ n) (hn : n ≤ 6) : (Wtd n ms ∧ At fns 10 19 [gameD n ms] (.ok (.bool true))) ∨ (¬ Wtd n ms ∧ At fns 10 19 [gameD n ms] (.ok (.bool false))) := by
  rcases is_weighted_ok (fns := fns) (i := 19) (j := 4) (a := 17) (b := 9) rfl chk sepAt maxAt G h1 hn with ⟨h, hA⟩ | ⟨h, hA⟩
  · exact .inl ⟨h, fun m hm => hA m (by omega)⟩
  · exact .inr ⟨h, fun m hm => hA m (by omega)⟩
theorem fwAt {n : Nat} {ms : List (List Int)} (G : Game n ms) (h1 : 1 ≤ n) (hn : n ≤ 6) : (∃ W q, Rep n ms W q ∧ (∀ x ∈ W, x ≤ 36) ∧ q ≤ 144 ∧ At fns 5 18 [gameD n ms] (.ok (sysD q W))) ∨ (¬ Wtd n ms ∧ At fns 5 18 [gameD n ms] (.err ⟨"NotWeighted", none⟩)) := find_weights_ok (fns := fns) (i := 18) (j := 4) (a := 17) (b := 9) rfl chk sepAt maxAt G h1 hn
theorem lfwAt {n : Nat} {ms : List (List Int)} (G : Game n ms) (h1 : 1 ≤ n) (hn : n ≤ 6) : (∃ W q, Rep n ms W q ∧ (∀ x ∈ W, x ≤ 36) ∧ q ≤ 144 ∧ At fns 10 38 [gameD n ms] (.ok (sysD q W))) ∨ (¬ Wtd n ms ∧ At fns 10 38 [gameD n ms] (.ok (.str "none"))) := by
  rcases fwAt G h1 hn with ⟨W, q, hr, b1, b2, hA⟩ | ⟨hw, hA⟩
  · exact .inl ⟨W, q, hr, b1, b2, fun m hm => (law_weights_ok (fns := fns) (i := 38) (xc := exs) (j := 18) rfl (by decide +kernel) hA).1 _ rfl m (by omega)⟩
  · exact .inr ⟨hw, fun m hm => (law_weights_ok (fns := fns) (i := 38) (xc := exs) (j := 18) rfl (by decide +kernel) hA).2 rfl m (by omega)⟩
theorem trAt {n : Nat} {ms : List (List Int)} (G : Game n ms) (h1 : 1 ≤ n) (hn : n ≤ 6) : (Wtd n ms ∧ At fns 5 23 [gameD n ms] (.err ⟨"IsWeighted", none⟩)) ∨ (¬ Wtd n ms ∧ ∃ A B, Trd n ms A B ∧ At fns 5 23 [gameD n ms] (.ok (.tuple [.list (A.map encK), .list (B.map encK)]))) := trade_ok (fns := fns) (i := 23) (j := 4) (a := 9) (b := 17) (c := 21) (d := 20) (e := 22) (f := 7) rfl chk maxAt sepAt rfl rfl rfl rfl G h1 hn
theorem ltrAt {n : Nat} {ms : List (List Int)} (G : Game n ms) (h1 : 1 ≤ n) (hn : n ≤ 6) : (Wtd n ms ∧ At fns 10 39 [gameD n ms] (.ok (.str "none"))) ∨ (¬ Wtd n ms ∧ ∃ A B, Trd n ms A B ∧ At fns 10 39 [gameD n ms] (.ok (.tuple [.list (A.map encK), .list (B.map encK)]))) := by
  rcases trAt G h1 hn with ⟨hw, hA⟩ | ⟨hw, A, B, T, hA⟩
  · exact .inl ⟨hw, fun m hm => (law_trade_ok (fns := fns) (i := 39) (xc := exs) (j := 23) rfl (by decide +kernel) hA).2 rfl m (by omega)⟩
  · exact .inr ⟨hw, A, B, T, fun m hm => (law_trade_ok (fns := fns) (i := 39) (xc := exs) (j := 23) rfl (by decide +kernel) hA).1 _ rfl m (by omega)⟩
theorem itAt {n : Nat} {ms : List (List Int)} (G : Game n ms) (h1 : 1 ≤ n) (hn : n ≤ 6) {v : D} (hv : v.plain = true) : At fns 10 24 [gameD n ms, v] (.ok (.bool (isTrB n ms v))) := fun m hm => is_trade_gen (fns := fns) (i := 24) (j := 4) (a := 1) (b := 6) (d := 0) (e := 2) rfl chk rfl rfl rfl rfl G h1 hn hv m (by omega)
theorem litAt {n : Nat} {ms : List (List Int)} (hn : n ≤ 6) {v : D} (hv : v.plain = true) (hs : ∀ ds, v = .tuple ds → ∀ x ∈ ds, okSide x = true) : At fns 10 40 [gameD n ms, v] (.ok (.bool (isTrB n ms v))) := fun m hm => law_is_trade_gen (fns := fns) (i := 40) (a := 34) (b := 31) (c := 28) (d := 26) (e := 30) rfl rfl rfl rfl rfl rfl hn hv hs m (by omega)
theorem main (ns : List Int) : evFn fns 20 lawAt [scr ns] = .ok (.bool true) := by
  obtain ⟨n, ms, h1, h6, G, hg⟩ := g_ok ns 2 6 (by omega) (by omega)
  refine At.mk (fns := fns) (k := 19) (i := 41) (F := F_law_k06 33 38 39 19 16 37 24 40) rfl rfl (fun m hm => ?_) 20 (Nat.le_refl _)
  have c0 : evFn fns m 33 [scr ns, .int 2, .int 6] = .ok (gameD n ms) := hg m (by omega)
  rcases lfwAt G h1 h6 with ⟨W, q, hr, b1, b2, hA⟩ | ⟨hw, hA⟩
  · have hw : Wtd n ms := ⟨W, q, hr⟩
    rcases ltrAt G h1 h6 with ⟨_, hB⟩ | ⟨hw2, _⟩
    · rcases iswAt G h1 h6 with ⟨_, hC⟩ | ⟨hw2, _⟩
      · have k1 := hA m (by omega)
        have k2 := hB m (by omega)
        have k3 := hC m (by omega)
        have k4 := repAt G h1 h6 (plain_sys q W) m (by omega)
        have k5 := lrepAt (ms := ms) h6 (plain_sys q W) m (by omega)
        have k6 : repB n ms (sysD q W) = true := rep_repB hr (fun x hx => by have := b1 x hx; omega) (hr.q1 G) (by omega)
        rw [k6] at k4 k5
        simp_arith only [F_law_k06, List.map_cons, List.map_nil, List.length_cons, List.length_nil, List.replicate_succ, List.replicate_zero, List.append_nil, Nat.zero_add, Nat.reduceAdd, Nat.reduceSub, c0, k1, k2, k3, k4, k5, sys_none, sys_nn, cmp_eqS, cmp_neB, cmp_eqB, beq_self_eq_true, bne_self_eq_false, b_ft, b_tf, n_ft, n_tf]
      · exact absurd hw hw2
    · exact absurd hw hw2
  · rcases ltrAt G h1 h6 with ⟨hw2, _⟩ | ⟨_, A, B, T, hB⟩
    · exact absurd hw2 hw
    · rcases iswAt G h1 h6 with ⟨hw2, _⟩ | ⟨_, hC⟩
      · exact absurd hw2 hw
      · have k1 := hA m (by omega)
        have k2 := hB m (by omega)
        have k3 := hC m (by omega)
        have k4 := itAt G h1 h6 (plain_tr A B) m (by omega)
        have k5 := litAt (ms := ms) h6 (plain_tr A B) (fun ds e x hx => by
          cases e
          rcases List.mem_cons.mp hx with z | z
          · subst z
            show (A.map encK).all shortT = true
            rw [List.all_map, List.all_eq_true]
            intro c hc
            exact shortK (by have := subs_small (T.sa c hc); omega)
          · have z : x = .list (B.map encK) := by simpa using z
            subst z
            show (B.map encK).all shortT = true
            rw [List.all_map, List.all_eq_true]
            intro c hc
            exact shortK (by have := subs_small (T.sb c hc); omega)) m (by omega)
        rw [T.isTr] at k4 k5
        simp_arith only [F_law_k06, List.map_cons, List.map_nil, List.length_cons, List.length_nil, List.replicate_succ, List.replicate_zero, List.append_nil, Nat.zero_add, Nat.reduceAdd, Nat.reduceSub, c0, k1, k2, k3, k4, k5, tr_none, cmp_eqS, cmp_neS, cmp_neB, cmp_eqB, beq_self_eq_true, bne_self_eq_false, b_ft, b_tf, n_ft, n_tf]

end Qw.K06

set_option maxHeartbeats 0
namespace Qw.K06
open PySem PySem.Spec PyProof.Rows L2
abbrev P : Program := PySem.Challenge.pw_quotaweights_k06_whole_weights_or_a_trad
def top (i : Nat) : Stmt := P.main.body.getD i (.Pass ⟨0, 0, 0, 0⟩)
def mkD (p : Str × Nat) : He.DefD := ⟨(p.1, none), p.1, p.1, defArgs (top p.2), defBody (top p.2), defScope (top p.2), [], []⟩
def defs : List He.DefD := places.map mkD
theorem tab : tabOk fns consts defs = true := by decide +kernel
abbrev R : PySem.W.OpenRow := PySem.W.OpenLaw.row PySem.Challenge.rw_quotaweights_k06_whole_weights_or_a_trad
abbrev hk : PySem.W.Hook := hookQ 4 (faOf fns consts) defs (exNames consts)
def ob (s : PySem.W.SharedT) : Bool × He.AlD := obsQ 4 (faOf fns consts) defs (exNames consts) (HandSHeadRun.getT s)
theorem ob_eq (s : PySem.W.SharedT) : ob s = hk.obs s.abs := obsQ_eq (HandSHeadRun.getT_eq s)
def loose : List PySem.Str := (others : List PySem.Str) ++ ((places.map (fun p => p.1)).filter fun x => !(x == ("law" : PySem.Str)))
theorem run (w : World) : HandSHeadRun.RunEq R (PySem.W.view R.prog [54]) hk ob 4000 loose w := by
  intro os
  kernel_rfl
end Qw.K06
open PySem PySem.W PySem.Calls PyProof.Rows
theorem PySem.Challenge.cw_quotaweights_k06_whole_weights_or_a_trad_holds : PySem.Challenge.rw_quotaweights_k06_whole_weights_or_a_trad.Holds := by
  w_on; o_law
  refine HandSHeadRun.head_any (r := Qw.K06.R) (q := view Qw.K06.R.prog [54]) (H := Qw.K06.hk) (ob := Qw.K06.ob) (M := 4000) (loose := Qw.K06.loose) (d := HandSHeadRun.topDef Qw.K06.R.prog 54) (kwd := []) Qw.K06.ob_eq (by kernel_rfl) (fun s => by kernel_rfl) Qw.K06.run (by kernel_rfl) (by kernel_rfl) (by kernel_rfl) (by rfl) (by first | assumption | decide +kernel) (by decide +kernel) ⟨rfl, rfl, rfl, rfl, rfl, by decide +kernel⟩ ?hw ?hc
  case hw => w_witness2
  case hc => exact Qw.law_walk (l := PySem.Challenge.rw_quotaweights_k06_whole_weights_or_a_trad) (n := 63) (k := 20) (li := Qw.K06.lawAt) (x := "script") rfl (by decide) (by kernel_rfl) ⟨rfl, by decide, by decide⟩ Qw.K06.tab rfl rfl (by kernel_rfl) (fun ns _ => Qw.K06.main ns)
