import PyProof.Rows.All
import Wide.All
import OpenK.AllK
import Wide.FinOn
import HandS.ForMost
import HandS.TupMul
import HandS.IsInst
import KE.SortData
import HandS.ExcOwn
import HandS.TryMany
import HandS.TryOnly
import KE.KDictKeyed
import HandS.Lambda
import HandS.Flow
import HandS.TupAny
import HandS.Conv
import HandS.Deep
import HandS.Style
import HandS.CallLocal
import KE.KIndexOf
import HandS.Strs
import HandS.Walk
import HandS.Zip
import KE.GoesMore
import HandS.Comp
import HandS.DictComp
import HandS.WordsExc
import HandS.Ends
import HandS.Defaults
import HandS.Head0
import HandS.Head1
import HandS.Head2
import HandS.HeadEnd
import HandS.HeadHook1
import HandS.HeadHook2
import KE.Datum
import KE.KEqDeep
import HandS.TupSets
import PySem.Challenge.RW_movedtiles_k05_whole_boxes_and_moves
set_option Elab.async false
set_option linter.all false
set_option maxRecDepth 100000
namespace E2
open PySem L2

abbrev D := PySem.PyData

/-! ## the pure side: values, environments, results -/
structure Ex where
  cls : Nat
  fs : List (Str × D)

inductive Sv where
  | dat (own : Bool) (d : D)
  | fn (k : Nat)
  | exn (x : Ex)
abbrev En := List (Option Sv)

inductive R where
  | val (own : Bool) (d : D)
  | sl (i : Nat)
  | fn (k : Nat)

inductive Rs (α : Type) where
  | ok (a : α) (r : En)
  | exc (x : Ex) (r : En)
  | stuck

def Rs.bind {α β : Type} : Rs α → (α → En → Rs β) → Rs β
  | .ok a r, f => f a r
  | .exc x r, _ => .exc x r
  | .stuck, _ => .stuck

inductive Ag where
  | val (d : D)
  | rf (d : D)
  | fn (k : Nat)

inductive Cr where
  | ok (own : Bool) (d : D) (refs : List D)
  | exc (x : Ex) (refs : List D)
  | stuck

/-- what a name gives -/
def nameR (r : En) (i : Nat) : Option R :=
  match r[i]? with
  | some (some (.dat false d)) => some (.val false d)
  | some (some (.dat true _)) => some (.sl i)
  | some (some (.fn k)) => some (.fn k)
  | _ => none

/-- the data that a result stands for now -/
def dref (r : En) : R → Option D
  | .val _ d => some d
  | .sl i => match r[i]? with
    | some (some (.dat _ d)) => some d
    | _ => none
  | .fn _ => none

/-- the data, kept for good: an owned slot is frozen -/
def take (r : En) : R → Option (D × En)
  | .val _ d => some (d, r)
  | .sl i => match r[i]? with
    | some (some (.dat _ d)) => some (d, r.set i (some (.dat false d)))
    | _ => none
  | .fn _ => none

def takes (r : En) : List R → Option (List D × En)
  | [] => some ([], r)
  | x :: xs => match take r x with
    | some (d, r1) => match takes r1 xs with
      | some (ds, r2) => some (d :: ds, r2)
      | none => none
    | none => none

def drefs (r : En) : List R → Option (List D)
  | [] => some []
  | x :: xs => match dref r x, drefs r xs with
    | some d, some ds => some (d :: ds)
    | _, _ => none
end E2

set_option Elab.async false
set_option linter.all false
set_option maxRecDepth 100000
namespace E2
open PySem L2

/-! ## the code -/
inductive Blt where
  | len | tuple | list | sorted | sum | all | any | min | max | min2 | max2 | int | str | abs
inductive Meth where
  | index | get | get2
inductive MMeth where
  | append | pop | popAt | insert | extend
inductive Tg where
  | nm (i : Nat)
  | tup (ts : List Tg)

mutual
inductive CE where
  | var (i : Nat)
  | cst (d : D)
  | gc (g : Nat)
  | fnv (k : Nat)
  | tup (es : CEs)
  | lst (es : CEs)
  | dic0
  | bin (op : Operator) (a b : CE)
  | rep (a b : CE)
  | neg (a : CE)
  | cmp (op : CmpOp) (a b : CE)
  | chn (op1 op2 : CmpOp) (a b c : CE)
  | and (a b : CE)
  | or (a b : CE)
  | not (a : CE)
  | ife (c : CT) (a b : CE)
  | idx (a i : CE)
  | sli (a : CE) (lo hi : CEo)
  | call (k : Nat) (es : CEs)
  | callv (i : Nat) (es : CEs)
  | blt (b : Blt) (es : CEs)
  | rng (tup : Bool) (es : CEs)
  | isin (a : CE) (t : String)
  | attr (i : Nat) (f : Str)
  | meth (m : Meth) (o : CE) (es : CEs)
  | mut (m : MMeth) (i : Nat) (es : CEs)
  | lc (own : List (Str × Nat)) (tg : Tg) (it : CI) (cond : CTo) (elt : CE)
  | lc2 (own : List (Str × Nat)) (vs1 : List Nat) (tg : Tg) (it : CI) (cond : CTo) (tg1 : Tg) (it1 : CI) (cond1 : CTo) (elt : CE)
  | dc (own : List (Str × Nat)) (tg : Tg) (it : CI) (cond : CTo) (k v : CE)
inductive CEs where
  | nil
  | cons (e : CE) (es : CEs)
inductive CEo where
  | non
  | som (e : CE)
inductive CT where
  | ex (e : CE)
  | and (a b : CT)
  | or (a b : CT)
  | not (a : CT)
inductive CTo where
  | non
  | som (t : CT)
inductive CI where
  | seq (e : CE)
  | rng (es : CEs)
  | enum (es : CEs)
  | zip (es : CEs)
end

/-! ## operations on data -/
def mulOk (i j : Int) : Bool := decide (-(2 ^ 64) < i ∧ i < 2 ^ 64) || decide (-(2 ^ 64) < j ∧ j < 2 ^ 64)
def binD : Operator → D → D → Option (Bool × D)
  | .Add, .int i, .int j => some (false, .int (i + j))
  | .Sub, .int i, .int j => some (false, .int (i - j))
  | .Mult, .int i, .int j => if mulOk i j = true then some (false, .int (i * j)) else none
  | .FloorDiv, .int i, .int j => if 0 < j ∧ j < 1073741824 then some (false, .int (i / j)) else none
  | .Mod, .int i, .int j => if 0 < j then some (false, .int (i % j)) else none
  | .Pow, .int i, .int j => if 0 ≤ j ∧ j ≤ 1000000 ∧ i.natAbs < 2 ^ 64 then some (false, .int (i ^ j.toNat)) else none
  | .LShift, .int i, .int j => if 0 ≤ j ∧ j ≤ 1000000 ∧ i.natAbs < 2 ^ 64 then some (false, .int (i * 2 ^ j.toNat)) else none
  | .RShift, .int i, .int j => if 0 ≤ j then some (false, .int (i / 2 ^ j.toNat)) else none
  | .BitAnd, .int i, .int j => some (false, .int (Builtin.bitAnd i j))
  | .BitOr, .int i, .int j => some (false, .int (Builtin.bitOr i j))
  | .BitXor, .int i, .int j => some (false, .int (Builtin.bitXor i j))
  | .Add, .str x, .str y => if x.length + y.length ≤ sizeLine then some (false, .str (x ++ y)) else none
  | .Add, .list x, .list y => if x.length + y.length ≤ sizeLine then some (true, .list (x ++ y)) else none
  | .Add, .tuple x, .tuple y => if x.length + y.length ≤ sizeLine then some (false, .tuple (x ++ y)) else none
  | .Mult, .tuple x, .int k => if 0 < x.length ∧ 2 ≤ k ∧ k ≤ 1000 ∧ x.length ≤ 1000 then some (false, .tuple (List.replicate k.toNat x).flatten) else none
  | _, _, _ => none

/-- == -/
def eqD (a b : D) : Option Bool :=
  match a, b with
  | .int i, .int j => some (decide (i = j))
  | _, _ => if SeqAt.shaped a = true ∧ SeqAt.shaped b = true then some (PyData.eqv a b) else none
def dGet (kvs : List (D × D)) (k : D) : Option D := (kvs.find? fun p => PyData.eqv p.1 k).map (·.2)
def dPut (kvs : List (D × D)) (k v : D) : List (D × D) :=
  if kvs.any (fun p => PyData.eqv p.1 k) then kvs.map fun p => if PyData.eqv p.1 k then (p.1, v) else p else kvs ++ [(k, v)]
/-- all keys of one kind: ints and texts, or tuples of such -/
def flatK : D → Bool
  | .int _ => true
  | .str _ => true
  | _ => false
def nestN : Nat → D → Bool
  | _, .none => true
  | _, .int _ => true
  | _, .str _ => true
  | n + 1, .tuple ds => ds.all (nestN n)
  | _, _ => false
def tupK : D → Bool
  | .tuple ds => ds.all (nestN 7)
  | _ => false
def likeKeys (kvs : List (D × D)) (k : D) : Bool := (kvs.all (fun p => flatK p.1) && flatK k) || (kvs.all (fun p => tupK p.1) && tupK k)

def inD (a b : D) : Option Bool :=
  match b with
  | .list ds => if SeqAt.shaped a = true ∧ SeqAt.shaped (.list ds) = true then some (ds.any fun x => PyData.eqv x a) else none
  | .tuple ds => if SeqAt.shaped a = true ∧ SeqAt.shaped (.tuple ds) = true then some (ds.any fun x => PyData.eqv x a) else none
  | .dict kvs => if likeKeys kvs a = true then some (dGet kvs a).isSome else none
  | .str y => match a with
    | .str x => some (!(Builtin.Str.occurrences y x 0 y.length 1).isEmpty)
    | _ => none
  | _ => none

def isD (a b : D) : Option Bool :=
  match a, b with
  | .none, .none => some true
  | _, .none => some false
  | .bool x, .bool y => some (decide (x = y))
  | _, _ => none

def cmpD : CmpOp → D → D → Option Bool
  | .Eq, a, b => eqD a b
  | .NotEq, a, b => (eqD a b).map (!·)
  | .Lt, .int i, .int j => some (decide (i < j))
  | .LtE, .int i, .int j => some (decide (i ≤ j))
  | .Gt, .int i, .int j => some (decide (j < i))
  | .GtE, .int i, .int j => some (decide (j ≤ i))
  | .In, a, b => inD a b
  | .NotIn, a, b => (inD a b).map (!·)
  | .Is, a, b => isD a b
  | .IsNot, a, b => (isD a b).map (!·)
  | _, _, _ => none

def truD : D → Option Bool
  | .none => some false
  | .bool b => some b
  | .int i => some (i != 0)
  | .str y => if y.length ≤ sizeLine then some ((y.length : Int) != 0) else none
  | .list xs => some (!xs.isEmpty)
  | .tuple xs => some (!xs.isEmpty)
  | .dict _ => none

def atD (xs : List D) (i : Int) : Option D := atI xs i
def idxD : D → D → Option D
  | .list xs, .int i => atD xs i
  | .tuple xs, .int i => atD xs i
  | .str z, .int i => if z.length ≤ sizeLine then (atI z.cps.toList i).map fun c => .str ⟨#[c]⟩ else none
  | .dict kvs, k => if likeKeys kvs k = true then dGet kvs k else none
  | _, _ => none

def cutD (xs : List D) (lo hi : Option Int) : List D := (xs.drop (HT.sIx xs.length 0 lo)).take (HT.sIx xs.length xs.length hi - HT.sIx xs.length 0 lo)
def sliD : D → Option Int → Option Int → Option (Bool × D)
  | .list xs, lo, hi => some (true, .list (cutD xs lo hi))
  | .tuple xs, lo, hi => some (false, .tuple (cutD xs lo hi))
  | _, _, _ => none

def intsOf : List D → Option (List Int)
  | [] => some []
  | .int i :: r => (intsOf r).map (i :: ·)
  | _ :: _ => none
def boolsOf : List D → Option (List Bool)
  | [] => some []
  | .bool i :: r => (boolsOf r).map (i :: ·)
  | _ :: _ => none

/-- may be sorted: all alike, in depth bounded -/
def sortOk (ds : List D) : Bool := (ds.all fun d => ds.all fun e => PySem.W.alike d e) && ((ds.all fun d => match d with | .tuple (_ :: _) => true | _ => false) || (ds.all fun d => match d with | .none => false | .tuple _ => false | _ => true)) && (ds.all fun d => decide (d.depth ≤ 60)) && decide (ds.length ≤ sizeLine)
def maxI : List Int → Option Int
  | [] => none
  | x :: xs => some (xs.foldl (fun m y => if y > m then y else m) x)
def minI : List Int → Option Int
  | [] => none
  | x :: xs => some (xs.foldl (fun m y => if y < m then y else m) x)

def bltD : Blt → List D → Option (Bool × D)
  | .len, [.list xs] => some (false, .int xs.length)
  | .len, [.tuple xs] => some (false, .int xs.length)
  | .len, [.str z] => if z.length ≤ sizeLine then some (false, .int z.length) else none
  | .len, [.dict kvs] => if kvs.all (fun p => flatK p.1) = true then some (false, .int kvs.length) else none
  | .tuple, [.list xs] => some (false, .tuple xs)
  | .tuple, [.tuple xs] => some (false, .tuple xs)
  | .list, [.list xs] => some (true, .list xs)
  | .list, [.tuple xs] => some (true, .list xs)
  | .sorted, [.list xs] => if sortOk xs = true then some (true, .list (xs.mergeSort (PySem.W.dataLe false id))) else none
  | .sorted, [.tuple xs] => if sortOk xs = true then some (true, .list (xs.mergeSort (PySem.W.dataLe false id))) else none
  | .sum, [.list xs] => (intsOf xs).map fun ns => (false, .int ns.sum)
  | .all, [.list xs] => (boolsOf xs).map fun bs => (false, .bool (bs.all id))
  | .any, [.list xs] => (boolsOf xs).map fun bs => (false, .bool (bs.any id))
  | .max, [.list xs] => ((intsOf xs).bind maxI).map fun m => (false, .int m)
  | .min, [.list xs] => ((intsOf xs).bind minI).map fun m => (false, .int m)
  | .max2, [.int i, .int j] => some (false, .int (if j > i then j else i))
  | .min2, [.int i, .int j] => some (false, .int (if j < i then j else i))
  | .int, [.int i] => some (false, .int i)
  | .int, [.bool b] => some (false, .int (if b then 1 else 0))
  | .str, [.int i] => if i.natAbs.log2 < 1920 then some (false, .str (toString i)) else none
  | .abs, [.int i] => some (false, .int (if i < 0 then -i else i))
  | _, _ => none

def rngI (a b : Int) : List D := (List.range (b - a).toNat).map fun i => .int (a + (i : Nat))
def rngOk (a b : Int) : Bool := decide (-(2 ^ 62) ≤ a ∧ a < 2 ^ 62 ∧ -(2 ^ 62) ≤ b ∧ b < 2 ^ 62)
def rngD : List D → Option (List D)
  | [.int n] => if rngOk 0 n = true then some (rngI 0 n) else none
  | [.int a, .int b] => if rngOk a b = true then some (rngI a b) else none
  | _ => none
def rngFew : List D → Bool
  | [.int n] => decide (n.toNat ≤ 2 ^ 24)
  | [.int a, .int b] => decide ((b - a).toNat ≤ 2 ^ 24)
  | _ => false

def tyName : D → String
  | .none => "NoneType"
  | .bool _ => "bool"
  | .int _ => "int"
  | .str _ => "str"
  | .list _ => "list"
  | .tuple _ => "tuple"
  | .dict _ => "dict"

def indexD (x : D) : List D → Nat → Option Nat
  | [], _ => none
  | y :: ys, n => if PyData.eqv y x = true then some n else indexD x ys (n + 1)

/-- isinstance -/
def isTyD (d : D) (t : String) : Option Bool :=
  match d with
  | .dict _ => none
  | _ => kitB (tyName d) t
def methT : Meth → D → String
  | .index, .list _ => "list"
  | .index, .tuple _ => "tuple"
  | .get, .dict _ => "dict"
  | .get2, .dict _ => "dict"
  | _, _ => ""
/-- never a list, never a dict -/
def frzD : D → Bool
  | .list _ => false
  | .dict _ => false
  | _ => true
def methD : Meth → D → List D → Option (Bool × D)
  | .index, .list xs, [y] => if SeqAt.shaped (.list xs) = true ∧ SeqAt.shaped y = true then (indexD y xs 0).map fun n => (false, .int (n : Nat)) else none
  | .index, .tuple xs, [y] => if SeqAt.shaped (.list xs) = true ∧ SeqAt.shaped y = true then (indexD y xs 0).map fun n => (false, .int (n : Nat)) else none
  | .get, .dict kvs, [k] => if likeKeys kvs k = true then some (false, (dGet kvs k).getD .none) else none
  | .get2, .dict kvs, [k, x] => if likeKeys kvs k = true ∧ frzD x = true then some (false, (dGet kvs k).getD x) else none
  | _, _, _ => none

/-- (value, the new content) -/
def mutD : MMeth → D → List D → Option (D × D)
  | .append, .list xs, [y] => if xs.length < sizeLine then some (.none, .list (xs ++ [y])) else none
  | .pop, .list xs, [] => match xs[xs.length - 1]? with
    | some y => some (y, .list xs.dropLast)
    | none => none
  | .popAt, .list xs, [.int i] => if 0 ≤ i ∧ i < 2 ^ 63 then match xs[i.toNat]? with
    | some y => some (y, .list (xs.eraseIdx i.toNat))
    | none => none else none
  | _, _, _ => none

/-- x[i] = v -/
def setD : D → D → D → Option D
  | .list xs, .int i, v => (ixN xs.length i).map fun j => .list (xs.set j v)
  | .dict kvs, k, v => if likeKeys kvs k = true ∧ kvs.length < sizeLine then some (.dict (dPut kvs k v)) else none
  | _, _, _ => none

/-! ## running -/
structure Gs where
  call : Nat → List Ag → Cr
  sig : Nat → List Bool
  gcs : Nat → Option D
  exf : Nat → Option (List Str)
  sub : Nat → Nat → Option Bool
  fuel : Nat

def passA (r : En) (used : List Nat) : List Bool → List R → Option (List Ag × List Nat × En)
  | [], [] => some ([], [], r)
  | false :: bs, .fn k :: xs => match passA r used bs xs with
    | some (ags, sls, r1) => some (.fn k :: ags, sls, r1)
    | none => none
  | false :: bs, .val _ d :: xs => match passA r used bs xs with
    | some (ags, sls, r1) => some (.val d :: ags, sls, r1)
    | none => none
  | false :: bs, .sl i :: xs => if i ∈ used then none else match take r (.sl i) with
    | some (d, r1) => match passA r1 used bs xs with
      | some (ags, sls, r2) => some (.val d :: ags, sls, r2)
      | none => none
    | none => none
  | true :: bs, .sl i :: xs => if i ∈ used then none else match r[i]? with
    | some (some (.dat true d)) => match passA r (i :: used) bs xs with
      | some (ags, sls, r1) => some (.rf d :: ags, i :: sls, r1)
      | none => none
    | _ => none
  | _, _ => none

def putRefs (r : En) : List Nat → List D → Option En
  | [], [] => some r
  | i :: is, d :: ds => putRefs (r.set i (some (.dat true d))) is ds
  | _, _ => none

def callR (G : Gs) (k : Nat) (rs : List R) (r : En) : Rs R :=
  match passA r [] (G.sig k) rs with
  | none => .stuck
  | some (ags, slots, r1) => match G.call k ags with
    | .ok own d refs => match putRefs r1 slots refs with
      | some r2 => .ok (.val own d) r2
      | none => .stuck
    | .exc x refs => match putRefs r1 slots refs with
      | some r2 => .exc x r2
      | none => .stuck
    | .stuck => .stuck

def optR (r : En) : Option (Bool × D) → Rs R
  | some (o, d) => .ok (.val o d) r
  | none => .stuck
def optB (r : En) : Option Bool → Rs Bool
  | some b => .ok b r
  | none => .stuck

-- targets
mutual
def bindT (d : D) (r : En) : Tg → Option En
  | .nm i => if i < r.length then some (r.set i (some (.dat false d))) else none
  | .tup ts => match d with
    | .tuple ds => bindTs ds r ts
    | _ => none
def bindTs (ds : List D) (r : En) : List Tg → Option En
  | [] => match ds with
    | [] => some r
    | _ => none
  | t :: ts => match ds with
    | d :: ds => match bindT d r t with
      | some r1 => bindTs ds r1 ts
      | none => none
    | [] => none
end

def wipeE (r : En) : List Nat → En
  | [] => r
  | v :: vs => (wipeE r vs).set v none
/-- the slots of a block as they were ahead of it -/
def backE (r0 r : En) : List Nat → En
  | [] => r
  | v :: vs => (backE r0 r vs).set v ((r0[v]?).getD none)

def lcGo (vs : List Nat) (bind : D → En → Option En) (cond : En → Rs Bool) (elt : En → Rs R) : List D → List D → En → Rs (List D)
  | [], acc, r => .ok acc r
  | d :: ds, acc, r => match bind d (wipeE r vs) with
    | none => .stuck
    | some r1 => match cond r1 with
      | .ok true r2 => match elt r2 with
        | .ok x r3 => match take r3 x with
          | some (y, r4) => if acc.length < sizeLine then lcGo vs bind cond elt ds (acc ++ [y]) (wipeE r4 vs) else .stuck
          | none => .stuck
        | _ => .stuck
      | .ok false r2 => lcGo vs bind cond elt ds acc (wipeE r2 vs)
      | _ => .stuck

def dcGo (vs : List Nat) (bind : D → En → Option En) (cond : En → Rs Bool) (ek ev : En → Rs R) : List D → List (D × D) → En → Rs (List (D × D))
  | [], acc, r => .ok acc r
  | d :: ds, acc, r => match bind d (wipeE r vs) with
    | none => .stuck
    | some r1 => match cond r1 with
      | .ok true r2 => match ek r2 with
        | .ok x r3 => match ev r3 with
          | .ok y r4 => match takes r4 [x, y] with
            | some ([k, v], r6) => if (acc.all (fun p => flatK p.1) && flatK k) = true ∧ acc.length < sizeLine then dcGo vs bind cond ek ev ds (dPut acc k v) (wipeE r6 vs) else .stuck
            | _ => .stuck
          | _ => .stuck
        | _ => .stuck
      | .ok false r2 => dcGo vs bind cond ek ev ds acc (wipeE r2 vs)
      | _ => .stuck

/-- two clauses: for each item of the outer one the inner list is walked -/
def lc2Go (vs vs1 : List Nat) (bind : D → En → Option En) (cond : En → Rs Bool) (it1 : En → Rs (List D)) (bind1 : D → En → Option En) (cond1 : En → Rs Bool) (elt : En → Rs R) : List D → List D → En → Rs (List D)
  | [], acc, r => .ok acc r
  | d :: ds, acc, r => match bind d (wipeE r vs) with
    | none => .stuck
    | some r1 => match cond r1 with
      | .ok true r2 => match it1 r2 with
        | .ok xs r3 => match lcGo vs1 bind1 cond1 elt xs acc r3 with
          | .ok acc1 r4 => lc2Go vs vs1 bind cond it1 bind1 cond1 elt ds acc1 (wipeE r4 vs)
          | _ => .stuck
        | _ => .stuck
      | .ok false r2 => lc2Go vs vs1 bind cond it1 bind1 cond1 elt ds acc (wipeE r2 vs)
      | _ => .stuck

def zipT : List D → List D → List D
  | x :: xs, y :: ys => .tuple [x, y] :: zipT xs ys
  | _, _ => []
def zipD : D → D → Option (List D)
  | .list xs, .list ys => some (zipT xs ys)
  | .tuple xs, .tuple ys => some (zipT xs ys)
  | _, _ => none
def enumT : Nat → List D → List D
  | _, [] => []
  | n, x :: xs => .tuple [.int (n : Nat), x] :: enumT (n + 1) xs
def seqOf : D → Option (List D)
  | .list xs => some xs
  | .tuple xs => some xs
  | _ => none

section
variable (G : Gs)
mutual
def evE : CE → En → Rs R
  | .var i, r => match nameR r i with
    | some x => .ok x r
    | none => .stuck
  | .cst d, r => .ok (.val false d) r
  | .gc g, r => match G.gcs g with
    | some d => .ok (.val false d) r
    | none => .stuck
  | .fnv k, r => .ok (.fn k) r
  | .tup es, r => (evEs es r).bind fun xs r1 => match takes r1 xs with
    | some (ds, r2) => if ds.length ≤ sizeLine then .ok (.val false (.tuple ds)) r2 else .stuck
    | none => .stuck
  | .lst es, r => (evEs es r).bind fun xs r1 => match takes r1 xs with
    | some (ds, r2) => if ds.length ≤ sizeLine then .ok (.val true (.list ds)) r2 else .stuck
    | none => .stuck
  | .dic0, r => .ok (.val true (.dict [])) r
  | .bin op a b, r => (evE a r).bind fun x r1 => (evE b r1).bind fun y r2 => match dref r2 x, dref r2 y with
    | some d, some e => optR r2 (binD op d e)
    | _, _ => .stuck
  | .rep a b, r => (evE a r).bind fun x r1 => (evE b r1).bind fun y r2 => match x, y with
    | .val true (.list xs), .val false (.int k) => if k < 2 ^ 63 ∧ -(2 ^ 63) ≤ k ∧ xs.length * k.toNat ≤ sizeLine then .ok (.val true (.list (List.replicate k.toNat xs).flatten)) r2 else .stuck
    | _, _ => .stuck
  | .neg a, r => (evE a r).bind fun x r1 => match x with
    | .val _ (.int i) => .ok (.val false (.int (-i))) r1
    | _ => .stuck
  | .cmp op a b, r => (evE a r).bind fun x r1 => (evE b r1).bind fun y r2 => match dref r2 x, dref r2 y with
    | some d, some e => match cmpD op d e with
      | some k => .ok (.val false (.bool k)) r2
      | none => .stuck
    | _, _ => .stuck
  | .chn op1 op2 a b c, r => (evE a r).bind fun x r1 => (evE b r1).bind fun y r2 => match dref r2 x, dref r2 y with
    | some d, some e => match cmpD op1 d e with
      | some true => (evE c r2).bind fun z r3 => match dref r3 y, dref r3 z with
        | some e', some f => match cmpD op2 e' f with
          | some k => .ok (.val false (.bool k)) r3
          | none => .stuck
        | _, _ => .stuck
      | some false => .ok (.val false (.bool false)) r2
      | none => .stuck
    | _, _ => .stuck
  | .and a b, r => (evE a r).bind fun x r1 => match (dref r1 x).bind truD with
    | some true => evE b r1
    | some false => .ok x r1
    | none => .stuck
  | .or a b, r => (evE a r).bind fun x r1 => match (dref r1 x).bind truD with
    | some true => .ok x r1
    | some false => evE b r1
    | none => .stuck
  | .not a, r => (evE a r).bind fun x r1 => match (dref r1 x).bind truD with
    | some k => .ok (.val false (.bool (!k))) r1
    | none => .stuck
  | .ife c a b, r => (evT c r).bind fun k r1 => match k with
    | true => evE a r1
    | false => evE b r1
  | .idx a i, r => (evE a r).bind fun x r1 => (evE i r1).bind fun y r2 => match dref r2 x, dref r2 y with
    | some d, some e => match idxD d e with
      | some v => .ok (.val false v) r2
      | none => .stuck
    | _, _ => .stuck
  | .sli a lo hi, r => (evE a r).bind fun x r1 => (evO lo r1).bind fun l r2 => (evO hi r2).bind fun h r3 => match dref r3 x with
    | some d => optR r3 (sliD d l h)
    | none => .stuck
  | .call k es, r => (evEs es r).bind fun xs r1 => callR G k xs r1
  | .callv i es, r => match r[i]? with
    | some (some (.fn k)) => if (G.sig k).all (!·) = true ∧ G.sig k ≠ [] then (evEs es r).bind fun xs r1 => callR G k xs r1 else .stuck
    | _ => .stuck
  | .blt b es, r => (evEs es r).bind fun xs r1 => match drefs r1 xs with
    | some ds => optR r1 (bltD b ds)
    | none => .stuck
  | .rng t es, r => (evEs es r).bind fun xs r1 => match drefs r1 xs with
    | some ds => match rngD ds with
      | some is => if rngFew ds = true then (if t then .ok (.val false (.tuple is)) r1 else .ok (.val true (.list is)) r1) else .stuck
      | none => .stuck
    | none => .stuck
  | .isin a t, r => (evE a r).bind fun x r1 => match dref r1 x with
    | some d => match isTyD d t with
      | some k => .ok (.val false (.bool k)) r1
      | none => .stuck
    | none => .stuck
  | .attr i f, r => match r[i]? with
    | some (some (.exn x)) => match x.fs.lookup f with
      | some d => .ok (.val false d) r
      | none => .stuck
    | _ => .stuck
  | .meth m o es, r => (evE o r).bind fun x r1 => match dref r1 x with
    | some d0 => if methT m d0 = "" then .stuck else (evEs es r1).bind fun xs r2 => match dref r2 x, drefs r2 xs with
      | some d, some ds => if tyName d0 = tyName d then optR r2 (methD m d ds) else .stuck
      | _, _ => .stuck
    | none => .stuck
  | .mut m i es, r => match r[i]? with
    | some (some (.dat true (.list _))) => (evEs es r).bind fun xs r1 => match takes r1 xs with
      | some (ds, r2) => match r2[i]? with
        | some (some (.dat true d)) => match mutD m d ds with
          | some (v, d') => .ok (.val false v) (r2.set i (some (.dat true d')))
          | none => .stuck
        | _ => .stuck
      | none => .stuck
    | _ => .stuck
  | .lc own tg it cond elt, r => (evI it r).bind fun xs r1 => (lcGo (own.map (·.2)) (fun d r => bindT d r tg) (evC cond) (evE elt) xs [] r1).bind fun ys r2 => .ok (.val true (.list ys)) (backE r1 r2 (own.map (·.2)))
  | .lc2 own vs1 tg it cond tg1 it1 cond1 elt, r => (evI it r).bind fun xs r1 =>
    (lc2Go (own.map (·.2)) vs1 (fun d r => bindT d r tg) (evC cond) (evI it1) (fun d r => bindT d r tg1) (evC cond1) (evE elt) xs [] r1).bind fun ys r2 => .ok (.val true (.list ys)) (backE r1 r2 (own.map (·.2)))
  | .dc own tg it cond k v, r => (evI it r).bind fun xs r1 => (dcGo (own.map (·.2)) (fun d r => bindT d r tg) (evC cond) (evE k) (evE v) xs [] r1).bind fun ys r2 => .ok (.val true (.dict ys)) (backE r1 r2 (own.map (·.2)))
def evEs : CEs → En → Rs (List R)
  | .nil, r => .ok [] r
  | .cons e es, r => (evE e r).bind fun x r1 => (evEs es r1).bind fun xs r2 => .ok (x :: xs) r2
def evO : CEo → En → Rs (Option Int)
  | .non, r => .ok none r
  | .som e, r => (evE e r).bind fun x r1 => match x with
    | .val _ (.int i) => .ok (some i) r1
    | _ => .stuck
def evC : CTo → En → Rs Bool
  | .non, r => .ok true r
  | .som e, r => evT e r
/-- as a test -/
def evT : CT → En → Rs Bool
  | .and a b, r => (evT a r).bind fun k r1 => match k with
    | true => evT b r1
    | false => .ok false r1
  | .or a b, r => (evT a r).bind fun k r1 => match k with
    | true => .ok true r1
    | false => evT b r1
  | .not a, r => (evT a r).bind fun k r1 => .ok (!k) r1
  | .ex e, r => (evE e r).bind fun x r1 => match (dref r1 x).bind truD with
    | some k => .ok k r1
    | none => .stuck
/-- what is walked: the items, a slot's list frozen -/
def evI : CI → En → Rs (List D)
  | .seq e, r => (evE e r).bind fun x r1 => match take r1 x with
    | some (d, r2) => match seqOf d with
      | some xs => .ok xs r2
      | none => .stuck
    | none => .stuck
  | .rng es, r => (evEs es r).bind fun xs r1 => match drefs r1 xs with
    | some ds => match rngD ds with
      | some is => .ok is r1
      | none => .stuck
    | none => .stuck
  | .enum es, r => (evEs es r).bind fun xs r1 => match takes r1 xs with
    | some ([d], r2) => match seqOf d with
      | some xs => .ok (enumT 0 xs) r2
      | none => .stuck
    | _ => .stuck
  | .zip es, r => (evEs es r).bind fun xs r1 => match takes r1 xs with
    | some ([d, e], r2) => match zipD d e with
      | some zs => .ok zs r2
      | none => .stuck
    | _ => .stuck
end
end
end E2

set_option Elab.async false
set_option linter.all false
set_option maxRecDepth 100000
namespace E2
open PySem L2

mutual
inductive CS where
  | ret (e : CE)
  | retN
  | ex (e : CE)
  | set (i : Nat) (e : CE)
  | par (is : List Nat) (es : CEs)
  | asg (t : TX) (e : CE)
  | aug (i : Nat) (op : Operator) (e : CE)
  | augi (i : Nat) (ix : CE) (op : Operator) (e : CE)
  | ite (t : CT) (a b : CSs)
  | whl (t : CT) (b : CSs)
  | for (tg : Tg) (it : CI) (b : CSs)
  | pass
  | brk
  | cont
  | rais (c : Nat) (es : CEs)
  | try_ (b : CSs) (hs : Hds)
  | unk
inductive CSs where
  | nil
  | cons (s : CS) (ss : CSs)
inductive TX where
  | nm (i : Nat)
  | sub (i : Nat) (ix : CE)
  | tup (ts : TXs)
inductive TXs where
  | nil
  | cons (t : TX) (ts : TXs)
inductive Hds where
  | nil
  | cons (c : Nat) (as_ : Option Nat) (b : CSs) (hs : Hds)
end

inductive So where
  | nx (r : En)
  | ret (x : R) (r : En)
  | brk (r : En)
  | cont (r : En)
  | exc (x : Ex) (r : En)
  | stuck

def Rs.so {α : Type} : Rs α → (α → En → So) → So
  | .ok a r, f => f a r
  | .exc x r, _ => .exc x r
  | .stuck, _ => .stuck
def So.then : So → (En → So) → So
  | .nx r, f => f r
  | .ret x r, _ => .ret x r
  | .brk r, _ => .brk r
  | .cont r, _ => .cont r
  | .exc x r, _ => .exc x r
  | .stuck, _ => .stuck

def whileF (t : En → Rs Bool) (b : En → So) : Nat → En → So
  | 0, _ => .stuck
  | n + 1, r => (t r).so fun k r1 => match k with
    | true => match b r1 with
      | .nx r2 => whileF t b n r2
      | .cont r2 => whileF t b n r2
      | .brk r2 => .nx r2
      | .ret x r2 => .ret x r2
      | .exc x r2 => .exc x r2
      | .stuck => .stuck
    | false => .nx r1

def forF (bind : D → En → Option En) (b : En → So) : List D → En → So
  | [], r => .nx r
  | d :: ds, r => match bind d r with
    | none => .stuck
    | some r1 => match b r1 with
      | .nx r2 => forF bind b ds r2
      | .cont r2 => forF bind b ds r2
      | .brk r2 => .nx r2
      | .ret x r2 => .ret x r2
      | .exc x r2 => .exc x r2
      | .stuck => .stuck

/-- a value into a slot -/
def putSlot (i : Nat) (x : R) (r : En) : Option En :=
  if i < r.length then match x with
    | .val own d => some (r.set i (some (.dat own d)))
    | .fn k => some (r.set i (some (.fn k)))
    | .sl j => match r[j]? with
      | some (some (.dat _ d)) => some ((r.set j (some (.dat false d))).set i (some (.dat false d)))
      | _ => none
  else none
def putAll : List Nat → List D → En → Option En
  | [], [], r => some r
  | i :: is, d :: ds, r => if i < r.length then putAll is ds (r.set i (some (.dat false d))) else none
  | _, _, _ => none
def putPar : List Nat → List R → En → Option En
  | [], [], r => some r
  | i :: is, x :: xs, r => match x with
    | .val own d => if i < r.length then putPar is xs (r.set i (some (.dat own d))) else none
    | _ => none
  | _, _, _ => none
/-- results made plain: an owned slot's list is frozen -/
def settle (r : En) : List R → Option (List R × En)
  | [] => some ([], r)
  | .val o d :: xs => match settle r xs with
    | some (ys, r1) => some (.val o d :: ys, r1)
    | none => none
  | .sl i :: xs => match take r (.sl i) with
    | some (d, r1) => match settle r1 xs with
      | some (ys, r2) => some (.val false d :: ys, r2)
      | none => none
    | none => none
  | .fn _ :: _ => none

def lenTX : TXs → Nat
  | .nil => 0
  | .cons _ ts => lenTX ts + 1
section
variable (G : Gs)
mutual
def evX : TX → D → En → Rs Unit
  | .nm i, d, r => if i < r.length then .ok () (r.set i (some (.dat false d))) else .stuck
  | .sub i ix, d, r => match r[i]? with
    | some (some (.dat true _)) => (evE G ix r).bind fun x r1 => match dref r1 x with
      | some k => match r1[i]? with
        | some (some (.dat true c)) => match setD c k d with
          | some c' => .ok () (r1.set i (some (.dat true c')))
          | none => .stuck
        | _ => .stuck
      | none => .stuck
    | _ => .stuck
  | .tup ts, d, r => match d with
    | .tuple ds => if ds.length = lenTX ts then evXs ts ds r else .stuck
    | _ => .stuck
def evXs : TXs → List D → En → Rs Unit
  | .nil, ds, r => match ds with
    | [] => .ok () r
    | _ => .stuck
  | .cons t ts, ds, r => match ds with
    | d :: ds => (evX t d r).bind fun _ r1 => evXs ts ds r1
    | [] => .stuck
end

mutual
def evS : CS → En → So
  | .ret e, r => (evE G e r).so fun x r1 => .ret x r1
  | .retN, r => .ret (.val false .none) r
  | .ex e, r => (evE G e r).so fun _ r1 => .nx r1
  | .set i e, r => (evE G e r).so fun x r1 => match putSlot i x r1 with
    | some r2 => .nx r2
    | none => .stuck
  | .par is es, r => (evEs G es r).so fun xs r1 => match settle r1 xs with
    | some (ys, r2) => match putPar is ys r2 with
      | some r3 => .nx r3
      | none => .stuck
    | none => .stuck
  | .asg t e, r => (evE G e r).so fun x r1 => match take r1 x with
    | some (d, r2) => (evX G t d r2).so fun _ r3 => .nx r3
    | none => .stuck
  | .aug i op e, r => match r[i]? with
    | some (some (.dat false d)) => (evE G e r).so fun y r1 => match dref r1 y with
      | some f => match d, f with
        | .int a, .int b => match binD op (.int a) (.int b) with
          | some (_, v) => if i < r1.length then .nx (r1.set i (some (.dat false v))) else .stuck
          | none => .stuck
        | _, _ => .stuck
      | none => .stuck
    | _ => .stuck
  | .augi i ix op e, r => match r[i]? with
    | some (some (.dat true _)) => (evE G ix r).so fun x r1 => match dref r1 x with
      | some k => match r1[i]? with
        | some (some (.dat true c)) => match idxD c k with
          | some (.int a) => (evE G e r1).so fun y r2 => match dref r2 y with
            | some (.int b) => match binD op (.int a) (.int b) with
              | some (_, v) => match r2[i]? with
                | some (some (.dat true c2)) => match setD c2 k v with
                  | some c3 => .nx (r2.set i (some (.dat true c3)))
                  | none => .stuck
                | _ => .stuck
              | none => .stuck
            | _ => .stuck
          | _ => .stuck
        | _ => .stuck
      | none => .stuck
    | _ => .stuck
  | .ite t a b, r => (evT G t r).so fun k r1 => match k with
    | true => evSs a r1
    | false => evSs b r1
  | .whl t b, r => whileF (evT G t) (evSs b) G.fuel r
  | .for tg it b, r => (evI G it r).so fun xs r1 => forF (fun d r => bindT d r tg) (evSs b) xs r1
  | .pass, r => .nx r
  | .brk, r => .brk r
  | .cont, r => .cont r
  | .rais c es, r => (evEs G es r).so fun xs r1 => match takes r1 xs with
    | some (ds, r2) => match G.exf c with
      | some fs => .exc ⟨c, fs.zip ds⟩ r2
      | none => .stuck
    | none => .stuck
  | .unk, _ => .stuck
  | .try_ b hs, r => match evSs b r with
    | .exc x r1 => evH hs x r1
    | o => o
def evSs : CSs → En → So
  | .nil, r => .nx r
  | .cons s ss, r => (evS s r).then fun r1 => evSs ss r1
def evH : Hds → Ex → En → So
  | .nil, x, r => .exc x r
  | .cons c as_ b hs, x, r => match G.sub x.cls c with
    | some true => match as_ with
      | none => match evSs b r with
        | .exc _ _ => .stuck
        | o => o
      | some _ => .stuck
    | some false => evH hs x r
    | none => .stuck
end
end

structure Fn where
  n : Nat
  sig : List Bool
  body : CSs

def startA : List Ag → En
  | [] => []
  | .val d :: r => some (.dat false d) :: startA r
  | .rf d :: r => some (.dat true d) :: startA r
  | .fn k :: r => some (.fn k) :: startA r
def refSlots : Nat → List Bool → List Nat
  | _, [] => []
  | i, true :: bs => i :: refSlots (i + 1) bs
  | i, false :: bs => refSlots (i + 1) bs
def refsOf (r : En) : List Nat → Option (List D)
  | [] => some []
  | i :: is => match r[i]? with
    | some (some (.dat true d)) => (refsOf r is).map (d :: ·)
    | _ => none
def okSig : List Bool → List Ag → Bool
  | [], [] => true
  | true :: bs, .rf _ :: xs => okSig bs xs
  | false :: bs, .val _ :: xs => okSig bs xs
  | false :: bs, .fn _ :: xs => okSig bs xs
  | _, _ => false

def finR (f : Fn) (x : R) (r : En) : Cr :=
  match refsOf r (refSlots 0 f.sig) with
  | none => .stuck
  | some ds => match x with
    | .val own d => .ok own d ds
    | .sl i => if i ∈ refSlots 0 f.sig then .stuck else match r[i]? with
      | some (some (.dat own d)) => .ok own d ds
      | _ => .stuck
    | .fn _ => .stuck

def runF (G : Gs) (f : Fn) (ags : List Ag) : Cr :=
  if okSig f.sig ags = true then
    match evSs G f.body (startA ags ++ List.replicate (f.n - ags.length) none) with
    | .nx r => finR f (.val false .none) r
    | .ret x r => finR f x r
    | .exc x r => match refsOf r (refSlots 0 f.sig) with
      | some ds => .exc x ds
      | none => .stuck
    | _ => .stuck
  else .stuck

structure Prg where
  fns : List Fn
  gcs : List D
  exf : List (List Str)
  sub : List (List Nat)

def Prg.gs (P : Prg) (call : Nat → List Ag → Cr) : Gs where
  call := call
  sig := fun k => ((P.fns[k]?).map (·.sig)).getD []
  gcs := fun g => P.gcs[g]?
  exf := fun c => P.exf[c]?
  sub := fun a b => match P.sub[a]? with
    | some l => if b < P.sub.length then some (l.contains b) else none
    | none => none
  fuel := 1000000

def run (P : Prg) : Nat → Nat → List Ag → Cr
  | 0, _, _ => .stuck
  | n + 1, k, ags => match P.fns[k]? with
    | some f => runF (P.gs (run P n)) f ags
    | none => .stuck
end E2

set_option Elab.async false
set_option linter.all false
set_option maxRecDepth 100000
namespace E2
open PySem PySem.Spec PyProof.Rows L2

abbrev NS := Addr → Prop
/-- the tables of code objects that makers of lambdas write: each with the one name that it tells -/
class Tbs where
  T : List (Addr × Str)
variable [Tbs]
def kD : Key → D
  | .inl i => .int i
  | .inr x => .str x

/-- the program's fragment of constant objects, and the world -/
structure Kw where
  fr : PySem.W.Frag
  w : World
abbrev _root_.L2.Cx.kw (X : Cx) : Kw := ⟨X.K, X.w⟩
/-- a tuple whose object is known to bear no dict of its own -/
def Tp (K : Kw) (H : Hp) (a : Addr) (xs : List V) : Prop :=
  (∃ o, H a = some (.frz o (.tup xs)) ∧ o.cls = .type "tuple" ∧ o.dict = none) ∨ ∃ (o : Obj) (its : Array Value) (n : Nat), K.fr.lookup a = some o ∧ o.dict = none ∧ o.cls = .type "tuple" ∧ o.data = .seq its n ∧ its.size ≤ sizeLine ∧ Vals xs its.toList
theorem Tp.sq {K : Kw} {H : Hp} {a : Addr} {xs : List V} (h : Tp K H a xs) : SqT K.fr H a xs := by
  rcases h with ⟨o, h, _⟩ | ⟨o, its, n, h1, _, h2, h3⟩
  · exact .inl (.inr ⟨o, h⟩)
  · exact .inr ⟨o, its, n, h1, h2, h3⟩
/-- an entry of a dict whose keys are tuples -/
def entN (w : World) (x : NestedKey × Addr × Value) : DictEntry := ⟨x.1.hash w, .ref x.2.1, x.2.2⟩
def DObj (K : Kw) (a : Addr) (o : Obj) (xs : List (NestedKey × Addr × Value)) : Prop :=
  xs ≠ [] ∧ (a == sysModules) = false ∧ xs.length ≤ sizeLine ∧ o.ExactDict ∧ (xs.map (·.1)).Nodup ∧ ∃ es ep, o.data = .dict es ep ∧ es.toList = xs.map (entN K.w)
abbrev isO (a : Addr) (o : Obj) : HO := .ext fun h => h.get? a = some o
/-- a list of the module itself: never changes -/
def KLst (K : Kw) (a : Addr) (xs : List V) : Prop :=
  ∃ (o : Obj) (its : Array Value) (n : Nat), K.fr.lookup a = some o ∧ o.cls = .type "list" ∧ o.dict = none ∧ o.data = .seq its n ∧ its.size ≤ sizeLine ∧ Vals xs its.toList
def LsR (K : Kw) (N : NS) (H : Hp) (a : Addr) (xs : List V) : Prop := (Rd H a (.lst xs) ∧ ¬ N a) ∨ KLst K a xs
theorem LsR.sq {K : Kw} {N : NS} {H : Hp} {a : Addr} {xs : List V} (h : LsR K N H a xs) : SqL K.fr H a xs := h.elim (fun h => .inl h.1) .inr

/-- the tables, and the code objects that they tell, which nobody owns -/
def TabO (N : NS) (H : Hp) : Prop := ∀ p ∈ Tbs.T, ∃ ps : Array Value, H p.1 = some (.tbl ps) ∧ TriplesOk ps.toList ∧ ∀ (pos : Pos) (cv : Value), codeAmong pos ps.toList = some cv → ∃ c, cv = .ref c ∧ H c = some (LamX.CodeO c p.2) ∧ ¬ N c
theorem TabO.tabs {N : NS} {H : Hp} (h : TabO N H) : LamX.Tabs Tbs.T H := fun p hp => by
  obtain ⟨ps, h1, h2, h3⟩ := h p hp
  exact ⟨ps, h1, h2, fun pos cv hc => let ⟨c, e1, e2, _⟩ := h3 pos cv hc; ⟨c, e1, e2⟩⟩
theorem TabO.ext {N N' : NS} {H H' : Hp} (h : TabO N H) (e : ∀ b o, H b = some o → ¬ N b ∨ (∃ ps, o = .tbl ps) → H' b = some o) (n : ∀ b, N' b → N b ∨ H b = none) : TabO N' H' := fun p hp => by
  obtain ⟨ps, h1, h2, h3⟩ := h p hp
  refine ⟨ps, e _ _ h1 (.inr ⟨ps, rfl⟩), h2, fun pos cv hc => ?_⟩
  obtain ⟨c, e1, e2, e3⟩ := h3 pos cv hc
  exact ⟨c, e1, e _ _ e2 (.inl e3), fun z => (n c z).elim e3 fun q => by rw [e2] at q; cases q⟩
/-- no table of code objects -/
def NTb (o : HO) : Prop := ∀ ps, o ≠ .tbl ps
/-- what is tracked, not owned and no table stays so -/
def Fz (N : NS) (H : Hp) (N' : NS) (H' : Hp) : Prop := ∀ b o, H b = some o → ¬ N b → NTb o → H' b = some o ∧ ¬ N' b
mutual
/-- v stands for the data d, all lists and dicts of it frozen (not in N, the owned ones) -/
inductive Rp (K : Kw) (N : NS) (H : Hp) : V → D → Prop
  | non : Rp K N H .non .none
  | bl (b : Bool) : Rp K N H (.bl b) (.bool b)
  | int (i : Int) : Rp K N H (.int i) (.int i)
  | str (x : Str) : Rp K N H (.str x) (.str x)
  | lst {a : Addr} {xs : List V} {ds : List D} : LsR K N H a xs → RpA K N H xs ds → Rp K N H (.ref a) (.list ds)
  | tup {a : Addr} {xs : List V} {ds : List D} : Tp K H a xs → RpA K N H xs ds → Rp K N H (.ref a) (.tuple ds)
  | dk {a : Addr} {kvs : List (Key × V)} {ds : List (D × D)} : H a = some (.dK kvs) → ¬ N a → RpK K N H kvs ds → Rp K N H (.ref a) (.dict ds)
  | dt {a : Addr} {o : Obj} {kvs : List (NestedKey × Addr × Value)} {ds : List (D × D)} : H a = some (isO a o) → ¬ N a → DObj K a o kvs → RpT K N H kvs ds → Rp K N H (.ref a) (.dict ds)
inductive RpA (K : Kw) (N : NS) (H : Hp) : List V → List D → Prop
  | nil : RpA K N H [] []
  | cons {v : V} {vs : List V} {d : D} {ds : List D} : Rp K N H v d → RpA K N H vs ds → RpA K N H (v :: vs) (d :: ds)
inductive RpK (K : Kw) (N : NS) (H : Hp) : List (Key × V) → List (D × D) → Prop
  | nil : RpK K N H [] []
  | cons {k : Key} {v : V} {r : List (Key × V)} {d : D} {s : List (D × D)} : Rp K N H v d → RpK K N H r s → RpK K N H ((k, v) :: r) ((kD k, d) :: s)
inductive RpT (K : Kw) (N : NS) (H : Hp) : List (NestedKey × Addr × Value) → List (D × D) → Prop
  | nil : RpT K N H [] []
  | cons {k : NestedKey} {b : Addr} {v : V} {u : Value} {r : List (NestedKey × Addr × Value)} {d : D} {s : List (D × D)} : k.depth ≤ 8 → Rp K N H (.ref b) k.data → RelV v u → Rp K N H v d → RpT K N H r s → RpT K N H ((k, b, u) :: r) ((k.data, d) :: s)
end

section
variable {K : Kw} {N N' : NS} {H H' : Hp}
mutual
theorem Rp.keep (hs : Fz N H N' H') (ht : ∀ b, N b → Mut (H b)) : ∀ {v : V} {d : D}, Rp K N H v d → Rp K N' H' v d
  | _, _, .non => .non
  | _, _, .bl b => .bl b
  | _, _, .int i => .int i
  | _, _, .str x => .str x
  | _, _, .lst h ha => .lst (by
      rcases h with ⟨h, n⟩ | h
      · rcases h with h | ⟨o, h⟩
        · exact .inl ⟨.inl (hs _ _ h n (by intro _ z; cases z)).1, (hs _ _ h n (by intro _ z; cases z)).2⟩
        · exact .inl ⟨.inr ⟨o, (hs _ _ h n (by intro _ z; cases z)).1⟩, (hs _ _ h n (by intro _ z; cases z)).2⟩
      · exact .inr h) (RpA.keep hs ht ha)
  | _, _, .tup (a := a) h ha => .tup (by
      rcases h with ⟨o, h, c⟩ | h
      · exact .inl ⟨o, (hs _ _ h (fun z => by have := ht a z; rw [h] at this; exact this) (by intro _ z; cases z)).1, c⟩
      · exact .inr h) (RpA.keep hs ht ha)
  | _, _, .dk h n ha => .dk (hs _ _ h n (by intro _ z; cases z)).1 (hs _ _ h n (by intro _ z; cases z)).2 (RpK.keep hs ht ha)
  | _, _, .dt h n o ha => .dt (hs _ _ h n (by intro _ z; cases z)).1 (hs _ _ h n (by intro _ z; cases z)).2 o (RpT.keep hs ht ha)
theorem RpA.keep (hs : Fz N H N' H') (ht : ∀ b, N b → Mut (H b)) : ∀ {v : List V} {d : List D}, RpA K N H v d → RpA K N' H' v d
  | _, _, .nil => .nil
  | _, _, .cons h t => .cons (Rp.keep hs ht h) (RpA.keep hs ht t)
theorem RpK.keep (hs : Fz N H N' H') (ht : ∀ b, N b → Mut (H b)) : ∀ {v : List (Key × V)} {d : List (D × D)}, RpK K N H v d → RpK K N' H' v d
  | _, _, .nil => .nil
  | _, _, .cons h t => .cons (Rp.keep hs ht h) (RpK.keep hs ht t)
theorem RpT.keep (hs : Fz N H N' H') (ht : ∀ b, N b → Mut (H b)) : ∀ {v : List (NestedKey × Addr × Value)} {d : List (D × D)}, RpT K N H v d → RpT K N' H' v d
  | _, _, .nil => .nil
  | _, _, .cons k b r h t => .cons k (Rp.keep hs ht b) r (Rp.keep hs ht h) (RpT.keep hs ht t)
end
theorem RpA.length : ∀ {v : List V} {d : List D}, RpA K N H v d → v.length = d.length
  | _, _, .nil => rfl
  | _, _, .cons _ t => congrArg (· + 1) t.length
theorem RpK.length : ∀ {v : List (Key × V)} {d : List (D × D)}, RpK K N H v d → v.length = d.length
  | _, _, .nil => rfl
  | _, _, .cons _ t => congrArg (· + 1) t.length
theorem RpA.append : ∀ {v v' : List V} {d d' : List D}, RpA K N H v d → RpA K N H v' d' → RpA K N H (v ++ v') (d ++ d')
  | _, _, _, _, .nil, s => s
  | _, _, _, _, .cons h t, s => .cons h (RpA.append t s)
theorem RpA.get : ∀ {v : List V} {d : List D} {i : Nat} {x : D}, RpA K N H v d → d[i]? = some x → ∃ y, v[i]? = some y ∧ Rp K N H y x
  | _, _, 0, _, .cons h _, e => by
    have e' := Option.some.inj e
    subst e'
    exact ⟨_, rfl, h⟩
  | _, _, i + 1, x, .cons _ t, e => RpA.get (i := i) t (by simpa using e)
theorem RpA.get' : ∀ {v : List V} {d : List D} {i : Nat} {y : V}, RpA K N H v d → v[i]? = some y → ∃ x, d[i]? = some x ∧ Rp K N H y x
  | _, _, 0, _, .cons h _, e => by
    have e' := Option.some.inj e
    subst e'
    exact ⟨_, rfl, h⟩
  | _, _, i + 1, x, .cons _ t, e => RpA.get' (i := i) t (by simpa using e)
theorem RpA.take : ∀ {v : List V} {d : List D} (n : Nat), RpA K N H v d → RpA K N H (v.take n) (d.take n)
  | _, _, 0, _ => .nil
  | _, _, _ + 1, .nil => .nil
  | _, _, n + 1, .cons h t => .cons h (RpA.take n t)
theorem RpA.drop : ∀ {v : List V} {d : List D} (n : Nat), RpA K N H v d → RpA K N H (v.drop n) (d.drop n)
  | _, _, 0, r => r
  | _, _, _ + 1, .nil => .nil
  | _, _, n + 1, .cons _ t => RpA.drop n t
theorem RpA.set {x : V} {y : D} (h : Rp K N H x y) : ∀ {v : List V} {d : List D} (i : Nat), RpA K N H v d → RpA K N H (v.set i x) (d.set i y)
  | _, _, _, .nil => .nil
  | _, _, 0, .cons _ t => .cons h t
  | _, _, i + 1, .cons q t => .cons q (RpA.set h i t)
theorem RpA.eraseIdx : ∀ {v : List V} {d : List D} (i : Nat), RpA K N H v d → RpA K N H (v.eraseIdx i) (d.eraseIdx i)
  | _, _, _, .nil => by simpa using RpA.nil
  | _, _, 0, .cons _ t => t
  | _, _, i + 1, .cons q t => .cons q (RpA.eraseIdx i t)
theorem RpA.dropLast {v : List V} {d : List D} (h : RpA K N H v d) : RpA K N H v.dropLast d.dropLast := by
  rw [List.dropLast_eq_take, List.dropLast_eq_take, h.length]
  exact h.take _
theorem RpA.rep {v : List V} {d : List D} (h : RpA K N H v d) : ∀ k : Nat, RpA K N H (List.replicate k v).flatten (List.replicate k d).flatten
  | 0 => .nil
  | k + 1 => by
    rw [List.replicate_succ, List.replicate_succ, List.flatten_cons, List.flatten_cons]
    exact h.append (RpA.rep h k)
theorem RpA.ints : ∀ {v : List V} {d : List D} {ns : List Int}, RpA K N H v d → intsOf d = some ns → v = ns.map V.int ∧ d = ns.map .int
  | _, _, _, .nil, e => by
    cases e
    exact ⟨rfl, rfl⟩
  | _, d :: ds, ns, .cons h t, e => by
    cases d with
    | int i =>
      cases h
      simp only [intsOf] at e
      cases q : intsOf ds with
      | none => rw [q] at e; cases e
      | some ms =>
        rw [q] at e
        cases e
        obtain ⟨h1, h2⟩ := RpA.ints t q
        rw [h1, h2]
        exact ⟨rfl, rfl⟩
    | _ => simp [intsOf] at e
theorem RpA.bools : ∀ {v : List V} {d : List D} {ns : List Bool}, RpA K N H v d → boolsOf d = some ns → v = ns.map V.bl ∧ d = ns.map .bool
  | _, _, _, .nil, e => by
    cases e
    exact ⟨rfl, rfl⟩
  | _, d :: ds, ns, .cons h t, e => by
    cases d with
    | bool i =>
      cases h
      simp only [boolsOf] at e
      cases q : boolsOf ds with
      | none => rw [q] at e; cases e
      | some ms =>
        rw [q] at e
        cases e
        obtain ⟨h1, h2⟩ := RpA.bools t q
        rw [h1, h2]
        exact ⟨rfl, rfl⟩
    | _ => simp [boolsOf] at e
theorem RpA.ofInts : ∀ (ns : List Int), RpA K N H (ns.map V.int) (ns.map .int)
  | [] => .nil
  | n :: ns => .cons (.int n) (RpA.ofInts ns)

/-- an owned list or dict at a -/
def RpM (K : Kw) (N : NS) (H : Hp) (a : Addr) : D → Prop
  | .list ds => ∃ xs, H a = some (.lst xs) ∧ RpA K N H xs ds
  | .dict ds => (∃ kvs, H a = some (.dK kvs) ∧ RpK K N H kvs ds) ∨ ∃ o kvs, H a = some (isO a o) ∧ DObj K a o kvs ∧ RpT K N H kvs ds
  | _ => False
/-- data as it is looked at: frozen, or owned -/
def DR (K : Kw) (N : NS) (H : Hp) (v : V) (d : D) : Prop := Rp K N H v d ∨ ∃ a, v = .ref a ∧ N a ∧ RpM K N H a d
end

/-- from (N, H) to (N', H'): only what is in O has changed -/
structure Ext (O N : NS) (H : Hp) (N' : NS) (H' : Hp) : Prop where
  keep : ∀ b o, H b = some o → ¬ O b → NTb o → H' b = some o
  tab : TabO N H → TabO N' H'
  new : ∀ b, N' b → N b ∨ H b = none
  stay : ∀ b, N b → ¬ O b → N' b
  sub : ∀ b, O b → N b
  there : ∀ b, H b ≠ none → H' b ≠ none
section
variable {K : Kw} {O O1 N N' N1 : NS} {H H' H1 : Hp} {v : V} {d : D} {a : Addr}
theorem Ext.rps (E : Ext O N H N' H') : Fz N H N' H' := fun b o h n t =>
  ⟨E.keep b o h (fun z => n (E.sub b z)) t, fun z => (E.new b z).elim n fun q => by rw [h] at q; cases q⟩
theorem Rp.ext (h : Rp K N H v d) (E : Ext O N H N' H') (t : ∀ b, N b → Mut (H b)) : Rp K N' H' v d := h.keep E.rps t
theorem RpA.ext {xs : List V} {ds : List D} (h : RpA K N H xs ds) (E : Ext O N H N' H') (t : ∀ b, N b → Mut (H b)) : RpA K N' H' xs ds := h.keep E.rps t
theorem RpM.ext (h : RpM K N H a d) (E : Ext O N H N' H') (t : ∀ b, N b → Mut (H b)) (n : ¬ O a) : RpM K N' H' a d := by
  cases d with
  | list ds =>
    obtain ⟨xs, h1, h2⟩ := h
    exact ⟨xs, E.keep _ _ h1 n (by intro _ z; cases z), h2.ext E t⟩
  | dict ds =>
    rcases h with ⟨xs, h1, h2⟩ | ⟨xs, kvs, h1, h0, h2⟩
    · exact .inl ⟨xs, E.keep _ _ h1 n (by intro _ z; cases z), h2.keep E.rps t⟩
    · exact .inr ⟨xs, kvs, E.keep _ _ h1 n (by intro _ z; cases z), h0, h2.keep E.rps t⟩
  | _ => exact h
theorem Ext.refl (h : ∀ b, O b → N b) : Ext O N H N H := ⟨fun _ _ e _ _ => e, fun h => h, fun _ h => .inl h, fun _ h _ => h, h, fun _ h => h⟩
theorem Ext.trans (E : Ext O N H N1 H1) (F : Ext O1 N1 H1 N' H') (s : ∀ b, O1 b → O b ∨ H b = none) (t : ∀ b, N b → H b ≠ none) : Ext O N H N' H' where
  keep := fun b o h n t => F.keep b o (E.keep b o h n t) (fun z => (s b z).elim n fun q => by rw [h] at q; cases q) t
  tab := fun h => F.tab (E.tab h)
  new := fun b z => by
    rcases F.new b z with z | z
    · exact E.new b z
    · refine .inr ?_
      cases q : H b with
      | none => rfl
      | some o => exact absurd z (E.there b (by rw [q]; simp))
  stay := fun b z n => F.stay b (E.stay b z n) fun q => (s b q).elim n (t b z)
  sub := E.sub
  there := fun b h => F.there b (E.there b h)
end

/-! ## slots -/
section
variable (K : Kw) (Fa : Nat → Addr)
def own (r : En) (σ : L2.St) (b : Addr) : Prop := ∃ (i : Nat) (d : D), r[i]? = some (some (.dat true d)) ∧ σ[i]? = some (some (.ref b))
def SvR (N : NS) (H : Hp) (v : V) : Sv → Prop
  | .dat false d => Rp K N H v d
  | .dat true d => ∃ a, v = .ref a ∧ N a ∧ RpM K N H a d
  | .fn k => v = .ref (Fa k)
  | .exn _ => True
structure Good (pr : List (Nat × Addr)) (r : En) (σ : L2.St) (N : NS) (H : Hp) : Prop where
  len : r.length = σ.length
  slot : ∀ (i : Nat) (s : Sv), r[i]? = some (some s) → ∃ v, σ[i]? = some (some v) ∧ SvR K Fa N H v s
  inj : ∀ (i j : Nat) (d e : D) (a : Addr), r[i]? = some (some (.dat true d)) → r[j]? = some (some (.dat true e)) → σ[i]? = some (some (.ref a)) → σ[j]? = some (some (.ref a)) → i = j
  trk : ∀ b, N b → Mut (H b)
  prs : ∀ p ∈ pr, σ[p.1]? = some (some (.ref p.2))
  tab : TabO N H
def RR (r : En) (σ : L2.St) (N : NS) (H : Hp) (v : V) : R → Prop
  | .val false d => Rp K N H v d
  | .val true d => ∃ a, v = .ref a ∧ N a ∧ RpM K N H a d ∧ ¬ own r σ a
  | .sl i => σ[i]? = some (some v) ∧ ∃ (o : Bool) (d : D), r[i]? = some (some (.dat o d))
  | .fn k => v = .ref (Fa k)
structure Stp (r : En) (σ : L2.St) (N : NS) (H : Hp) (r' : En) (N' : NS) (H' : Hp) : Prop where
  ext : Ext (own r σ) N H N' H'
  own : ∀ b, own r' σ b → own r σ b
  dat : ∀ i : Nat, (∃ (o : Bool) (d : D), r[i]? = some (some (.dat o d))) → ∃ (o : Bool) (d : D), r'[i]? = some (some (.dat o d))
end
section
variable {K : Kw} {Fa : Nat → Addr} {pr : List (Nat × Addr)} {r r1 r' : En} {σ : L2.St} {N N1 N' : NS} {H H1 H' : Hp} {v : V} {d : D} {a : Addr}
theorem mutSome {o : Option HO} (h : Mut o) : o ≠ none := by
  cases o with
  | none => exact h.elim
  | some _ => simp
theorem Good.ownN (g : Good K Fa pr r σ N H) : ∀ b, own r σ b → N b := fun b ⟨i, d, h1, h2⟩ => by
  obtain ⟨v, h3, a, h4, h5, _⟩ := g.slot i _ h1
  rw [h2] at h3
  cases h3
  cases h4
  exact h5
theorem Stp.refl (g : Good K Fa pr r σ N H) : Stp r σ N H r N H := ⟨Ext.refl g.ownN, fun _ h => h, fun _ h => h⟩
theorem Stp.trans (g : Good K Fa pr r σ N H) (s : Stp r σ N H r1 N1 H1) (t : Stp r1 σ N1 H1 r' N' H') : Stp r σ N H r' N' H' :=
  ⟨s.ext.trans t.ext (fun b h => .inl (s.own b h)) fun b h => mutSome (g.trk b h), fun b h => s.own b (t.own b h), fun i h => t.dat i (s.dat i h)⟩
theorem RR.stp {x : R} (h : RR K Fa r σ N H v x) (s : Stp r σ N H r' N' H') (g : Good K Fa pr r σ N H) : RR K Fa r' σ N' H' v x := by
  cases x with
  | val o d =>
    cases o with
    | false => exact Rp.ext h s.ext g.trk
    | true =>
      obtain ⟨a, h1, h2, h3, h4⟩ := h
      exact ⟨a, h1, s.ext.stay a h2 h4, h3.ext s.ext g.trk h4, fun z => h4 (s.own a z)⟩
  | sl i => exact ⟨h.1, s.dat i h.2⟩
  | fn k => exact h
theorem RR.look {x : R} (h : RR K Fa r σ N H v x) (g : Good K Fa pr r σ N H) (e : dref r x = some d) : DR K N H v d := by
  cases x with
  | val o d' =>
    cases e
    cases o with
    | false => exact .inl h
    | true =>
      obtain ⟨a, h1, h2, h3, _⟩ := h
      exact .inr ⟨a, h1, h2, h3⟩
  | sl i =>
    obtain ⟨h1, o, d', h2⟩ := h
    simp only [dref, h2] at e
    cases e
    obtain ⟨v', h3, h4⟩ := g.slot i _ h2
    rw [h1] at h3
    cases h3
    cases o with
    | false => exact .inl h4
    | true => exact .inr h4
  | fn k => cases e
/-! what is seen of data that is looked at -/
theorem DR.int {i : Int} (h : DR K N H v (.int i)) : v = .int i := by
  rcases h with h | ⟨_, _, _, h⟩
  · cases h; rfl
  · exact h.elim
theorem DR.bool {i : Bool} (h : DR K N H v (.bool i)) : v = .bl i := by
  rcases h with h | ⟨_, _, _, h⟩
  · cases h; rfl
  · exact h.elim
theorem DR.str {i : Str} (h : DR K N H v (.str i)) : v = .str i := by
  rcases h with h | ⟨_, _, _, h⟩
  · cases h; rfl
  · exact h.elim
theorem DR.non (h : DR K N H v .none) : v = .non := by
  rcases h with h | ⟨_, _, _, h⟩
  · cases h; rfl
  · exact h.elim
theorem DR.lst {ds : List D} (h : DR K N H v (.list ds)) : ∃ a xs, v = .ref a ∧ SqL K.fr H a xs ∧ RpA K N H xs ds := by
  rcases h with h | ⟨a, h1, _, xs, h2, h3⟩
  · cases h with
    | lst h ha => exact ⟨_, _, rfl, h.sq, ha⟩
  · exact ⟨a, xs, h1, .inl (.inl h2), h3⟩
theorem DR.tup {ds : List D} (h : DR K N H v (.tuple ds)) : ∃ a xs, v = .ref a ∧ Tp K H a xs ∧ RpA K N H xs ds := by
  rcases h with h | ⟨_, _, _, h⟩
  · cases h with
    | tup h ha => exact ⟨_, _, rfl, h, ha⟩
  · exact h.elim
theorem DR.dic {ds : List (D × D)} (h : DR K N H v (.dict ds)) : ∃ a, v = .ref a ∧ ((∃ kvs, H a = some (.dK kvs) ∧ RpK K N H kvs ds) ∨ ∃ o kvs, H a = some (isO a o) ∧ DObj K a o kvs ∧ RpT K N H kvs ds) := by
  rcases h with h | ⟨a, h1, _, h2⟩
  · cases h with
    | dk h n ha => exact ⟨_, rfl, .inl ⟨_, h, ha⟩⟩
    | dt h n o ha => exact ⟨_, rfl, .inr ⟨_, _, h, o, ha⟩⟩
  · rcases h2 with ⟨kvs, h2, h3⟩ | ⟨o, kvs, h2, h3, h4⟩
    · exact ⟨a, h1, .inl ⟨kvs, h2, h3⟩⟩
    · exact ⟨a, h1, .inr ⟨o, kvs, h2, h3, h4⟩⟩
end
end E2

set_option Elab.async false
set_option linter.all false
set_option maxRecDepth 100000
namespace E2
variable [Tbs]
open PySem PySem.Spec PyProof.Rows L2

section
variable (K : Kw) (Fa Ca : Nat → Addr)
/-- an exception, as it lies -/
def XR (x : Ex) (cls : Value) (d : Option Addr) (H : Hp) : Prop := cls = Value.ref (Ca x.cls) ∧ (x.fs ≠ [] → ∃ dd fs, d = some dd ∧ H dd = some (.xd fs) ∧ ∀ f u, x.fs.lookup f = some u → ∃ v, fs.lookup f = some v ∧ ∀ (N : NS), Rp K N H v u)
variable (pr : List (Nat × Addr)) (W : WX)
/-- a result against what runs: y the pure result, started at r and N, now at r', N', H'; v the model's -/
abbrev Rel (α β : Type) := α → En → NS → En → L2.St → NS → Hp → β → Prop
def PostG {α β : Type} (rel : Rel α β) (r : En) (σ : L2.St) (N : NS) (H : Hp) (Q : β → Hp → Prop) : Rs α → Prop
  | .ok y r' => ∀ v H' N', Stp r σ N H r' N' H' → Good K Fa pr r' σ N' H' → rel y r N r' σ N' H' v → Q v H'
  | .exc x r' => ∀ cls d H' N', Stp r σ N H r' N' H' → Good K Fa pr r' σ N' H' → XR K Ca x cls d H' → W cls d σ H'
  | .stuck => False
def tG {α β : Type} (rel : Rel α β) (f : En → Rs α) : L2.St → Hp → (β → Hp → Prop) → Prop := fun σ H Q =>
  ∃ r N, Good K Fa pr r σ N H ∧ PostG K Fa Ca pr W rel r σ N H Q (f r)
/-- a new list's address was not owned by others at the start -/
def Fsh (r : En) (σ : L2.St) (N : NS) (v : V) : R → Prop
  | .val true _ => ∀ a, v = .ref a → N a → own r σ a
  | _ => True
def RF (r0 : En) (N0 : NS) (r : En) (σ : L2.St) (N : NS) (H : Hp) (v : V) (y : R) : Prop := RR K Fa r σ N H v y ∧ Fsh r0 σ N0 v y
def relE : Rel R V := fun y r0 N0 r σ N H v => RF K Fa r0 N0 r σ N H v y
def relB : Rel Bool Bool := fun y _ _ _ _ _ _ b => b = y
def relO : Rel (Option Int) (Option Int) := fun y _ _ _ _ _ _ b => b = y
abbrev tE (f : En → Rs R) : TE := tG K Fa Ca pr W (relE K Fa) f
abbrev tB (f : En → Rs Bool) : TT := tG K Fa Ca pr W relB f
abbrev tOp (f : En → Rs (Option Int)) : TO := tG K Fa Ca pr W relO f
end
section
variable {K : Kw} {Fa Ca : Nat → Addr} {pr : List (Nat × Addr)} {W : WX} {r r1 r' : En} {σ : L2.St} {N N1 N' : NS} {H H1 H' : Hp} {v : V} {d : D} {a : Addr} {α β γ δ : Type}
/-- one part, then the rest; r0 N0 H0 is where the whole began -/
theorem tG_bind {rel : Rel α β} {rel2 : Rel γ δ} {f : En → Rs α} {k : α → En → Rs γ} {Q : δ → Hp → Prop} {r0 : En} {N0 : NS} {H0 : Hp} (g0 : Good K Fa pr r0 σ N0 H0) (s : Stp r0 σ N0 H0 r N H) (g : Good K Fa pr r σ N H)
    (h : PostG K Fa Ca pr W rel2 r0 σ N0 H0 Q ((f r).bind k)) :
    tG K Fa Ca pr W rel f σ H (fun v H1 => ∃ y r1 N1, Stp r σ N H r1 N1 H1 ∧ Stp r0 σ N0 H0 r1 N1 H1 ∧ Good K Fa pr r1 σ N1 H1 ∧ rel y r N r1 σ N1 H1 v ∧ PostG K Fa Ca pr W rel2 r0 σ N0 H0 Q (k y r1)) := by
  refine ⟨r, N, g, ?_⟩
  cases e : f r with
  | ok y r' =>
    rw [e] at h
    exact fun v H' N' s' g' q => ⟨y, r', N', s', s.trans g0 s', g', q, h⟩
  | exc x r' =>
    rw [e] at h
    exact fun c d H' N' s' g' q => h c d H' N' (s.trans g0 s') g' q
  | stuck =>
    rw [e] at h
    exact h
theorem PostG.val {Q : V → Hp → Prop} {d : D} {v : V} {r0 : En} {N0 : NS} {H0 : Hp} (h : PostG K Fa Ca pr W (relE K Fa) r0 σ N0 H0 Q (.ok (.val false d) r)) (s : Stp r0 σ N0 H0 r N H) (g : Good K Fa pr r σ N H) (q : Rp K N H v d) : Q v H := h v H N s g ⟨q, trivial⟩
theorem PE.imp {X : Cx} {e : Expr} {t t' : TE} (h : PE X e t) (i : ∀ σ H Q, t' σ H Q → t σ H Q) : PE X e t' := ⟨fun pins s σ H Q I q => h.run pins s σ H Q I (i σ H Q q)⟩
theorem PT.imp {X : Cx} {e : Expr} {t t' : TT} (h : PT X e t) (i : ∀ σ H Q, t' σ H Q → t σ H Q) : PT X e t' := ⟨fun pins s σ H Q I q => h.run pins s σ H Q I (i σ H Q q)⟩
theorem PW.imp {X : Cx} {e : Expr} {t t' : TT} (h : PW X e t) (i : ∀ σ H Q, t' σ H Q → t σ H Q) : PW X e t' := ⟨fun wh pins s σ H Q I q => h.run wh pins s σ H Q I (i σ H Q q)⟩
theorem PA.imp {X : Cx} {e : List Expr} {t t' : TA} (h : PA X e t) (i : ∀ σ H Q, t' σ H Q → t σ H Q) : PA X e t' := ⟨fun pos pins s σ H Q I q => h.run pos pins s σ H Q I (i σ H Q q)⟩
theorem PO.imp {X : Cx} {e : Option Expr} {t t' : TO} (h : PO X e t) (i : ∀ σ H Q, t' σ H Q → t σ H Q) : PO X e t' := ⟨fun pins s σ H Q I q => h.run pins s σ H Q I (i σ H Q q)⟩

/-! ### new objects -/
theorem upd_keep {p : Addr} {o : HO} (hp : H p = none) : ∀ b u, H b = some u → upd H p o b = some u := fun b u e => by rw [upd_ne (ne_of_none e hp)]; exact e
theorem tabs_mut {N : NS} {H : Hp} {a : Addr} {o : HO} (n : N a) (m : Mut (H a)) (h : TabO N H) : TabO N (upd H a o) := h.ext (fun b u e k => by
  have : b ≠ a := fun z => by
    subst z
    rcases k with k | ⟨ps, rfl⟩
    · exact k n
    · rw [e] at m; exact m
  rw [upd_ne this]; exact e) fun _ z => .inl z
theorem ext_newT {O : NS} {p : Addr} {o : HO} (hp : H p = none) (s : ∀ b, O b → N b) : Ext O N H N (upd H p o) :=
  ⟨fun b u e _ _ => upd_keep hp b u e, fun h => h.ext (fun b u e _ => upd_keep hp b u e) (fun _ z => .inl z), fun _ h => .inl h, fun _ h _ => h, s, fun b h => by
    cases e : H b with
    | none => exact absurd e h
    | some u => rw [upd_keep hp b u e]; simp⟩
theorem ext_newL {O : NS} {p : Addr} {o : HO} (hp : H p = none) (s : ∀ b, O b → N b) : Ext O N H (fun b => N b ∨ b = p) (upd H p o) :=
  ⟨fun b u e _ _ => upd_keep hp b u e, fun h => h.ext (fun b u e _ => upd_keep hp b u e) (fun _ z => z.elim .inl fun e => .inr (e ▸ hp)), fun b h => h.elim .inl fun e => .inr (e ▸ hp), fun _ h _ => .inl h, s, fun b h => by
    cases e : H b with
    | none => exact absurd e h
    | some u => rw [upd_keep hp b u e]; simp⟩
theorem trk_newT {p : Addr} {o : HO} (hp : H p = none) (t : ∀ b, N b → Mut (H b)) : ∀ b, N b → Mut (upd H p o b) := fun b h => by
  have q := t b h
  cases e : H b with
  | none => rw [e] at q; exact q.elim
  | some u => rw [upd_keep hp b u e]; rw [e] at q; exact q
theorem trk_newL {p : Addr} {o : HO} (hp : H p = none) (mo : Mut (some o)) (t : ∀ b, N b → Mut (H b)) : ∀ b, (N b ∨ b = p) → Mut (upd H p o b) := fun b h => by
  rcases h with h | h
  · exact trk_newT hp t b h
  · rw [h, upd_same]; exact mo
theorem SvR.ext {O : NS} {s : Sv} (h : SvR K Fa N H v s) (E : Ext O N H N' H') (t : ∀ b, N b → Mut (H b)) (no : ∀ a d, s = .dat true d → v = .ref a → ¬ O a) : SvR K Fa N' H' v s := by
  cases s with
  | dat o d =>
    cases o with
    | false => exact Rp.ext h E t
    | true =>
      obtain ⟨a, h1, h2, h3⟩ := h
      exact ⟨a, h1, E.stay a h2 (no a d rfl h1), h3.ext E t (no a d rfl h1)⟩
  | fn k => exact h
  | exn x => trivial
/-- nothing of what stood has changed -/
theorem Good.ext0 (g : Good K Fa pr r σ N H) (E : Ext (fun _ => False) N H N' H') (t : ∀ b, N' b → Mut (H' b)) : Good K Fa pr r σ N' H' :=
  ⟨g.len, fun i s e => let ⟨v, h1, h2⟩ := g.slot i s e; ⟨v, h1, h2.ext E g.trk fun _ _ _ _ z => z⟩, g.inj, t, g.prs, E.tab g.tab⟩
theorem Ext.widen {O : NS} (E : Ext (fun _ => False) N H N' H') (s : ∀ b, O b → N b) : Ext O N H N' H' :=
  ⟨fun b o e _ t => E.keep b o e (fun z => z) t, E.tab, E.new, fun b h _ => E.stay b h (fun z => z), s, E.there⟩
theorem Good.stp0 (g : Good K Fa pr r σ N H) (E : Ext (fun _ => False) N H N' H') : Stp r σ N H r N' H' := ⟨E.widen g.ownN, fun _ h => h, fun _ h => h⟩
/-- a new tuple is the value -/
theorem PostG.newT {Q : V → Hp → Prop} {xs : List V} {ds : List D} {p : Addr} {ob : Obj} {r0 : En} {N0 : NS} {H0 : Hp} (h : PostG K Fa Ca pr W (relE K Fa) r0 σ N0 H0 Q (.ok (.val false (.tuple ds)) r)) (g0 : Good K Fa pr r0 σ N0 H0) (s : Stp r0 σ N0 H0 r N H) (g : Good K Fa pr r σ N H) (hp : H p = none) (oc : ob.cls = .type "tuple") (od : ob.dict = none) (ra : RpA K N H xs ds) :
    Q (.ref p) (upd H p (.frz ob (.tup xs))) := by
  have E : Ext (fun _ => False) N H N (upd H p (.frz ob (.tup xs))) := ext_newT hp fun _ z => z.elim
  exact h _ _ N (s.trans g0 (g.stp0 E)) (g.ext0 E (trk_newT hp g.trk)) ⟨.tup (.inl ⟨ob, upd_same, oc, od⟩) (ra.ext E g.trk), trivial⟩
theorem Good.noOwn (g : Good K Fa pr r σ N H) {p : Addr} (hp : H p = none) : ¬ own r σ p := fun z => mutSome (g.trk p (g.ownN p z)) hp
theorem Good.noN0 {r0 : En} {N0 : NS} {H0 : Hp} (g0 : Good K Fa pr r0 σ N0 H0) (s : Stp r0 σ N0 H0 r N H) {p : Addr} (hp : H p = none) : ¬ N0 p := fun z => s.ext.there p (mutSome (g0.trk p z)) hp
/-- a new list is the value -/
theorem PostG.newM {Q : V → Hp → Prop} {o : HO} {d : D} {p : Addr} {r0 : En} {N0 : NS} {H0 : Hp} (h : PostG K Fa Ca pr W (relE K Fa) r0 σ N0 H0 Q (.ok (.val true d) r)) (g0 : Good K Fa pr r0 σ N0 H0) (s : Stp r0 σ N0 H0 r N H) (g : Good K Fa pr r σ N H) (hp : H p = none)
    (mo : Mut (some o)) (ra : ∀ N', Ext (fun _ => False) N H N' (upd H p o) → RpM K N' (upd H p o) p d) : Q (.ref p) (upd H p o) := by
  have E : Ext (fun _ => False) N H (fun b => N b ∨ b = p) (upd H p o) := ext_newL hp fun _ z => z.elim
  refine h _ _ _ (s.trans g0 (g.stp0 E)) (g.ext0 E (trk_newL hp mo g.trk)) ⟨⟨p, rfl, .inr rfl, ra _ E, g.noOwn hp⟩, fun a e z => ?_⟩
  cases e
  exact absurd z (g0.noN0 s hp)
theorem PostG.newL {Q : V → Hp → Prop} {xs : List V} {ds : List D} {p : Addr} {r0 : En} {N0 : NS} {H0 : Hp} (h : PostG K Fa Ca pr W (relE K Fa) r0 σ N0 H0 Q (.ok (.val true (.list ds)) r)) (g0 : Good K Fa pr r0 σ N0 H0) (s : Stp r0 σ N0 H0 r N H) (g : Good K Fa pr r σ N H) (hp : H p = none) (ra : RpA K N H xs ds) :
    Q (.ref p) (upd H p (.lst xs)) := h.newM g0 s g hp trivial fun N' E => ⟨xs, upd_same, ra.ext E g.trk⟩

/-! ### names and constants -/
theorem fe_var {X : Cx} {i : Nat} {x : Str} {pos : Pos} {G : Gs} (hN : X.N[i]? = some x) (hv : Vis X.env.scope x) (hd : (x == ("__debug__" : Str)) = false) (hcd : (x == ("__classdict__" : Str)) = false) :
    PE X (.Name x pos) (tE K Fa Ca pr W (evE G (.var i))) := by
  refine PE.imp (pe_var hN hv hd hcd) fun σ H Q h => ?_
  obtain ⟨r, N, g, h⟩ := h
  simp only [evE, nameR] at h
  split at h
  · rename_i x' e
    split at e
    · rename_i d ei
      cases e
      obtain ⟨v, h1, h2⟩ := g.slot i _ ei
      exact ⟨v, h1, h.val (Stp.refl g) g h2⟩
    · rename_i d ei
      cases e
      obtain ⟨v, h1, h2⟩ := g.slot i _ ei
      exact ⟨v, h1, h v H N (Stp.refl g) g ⟨⟨h1, true, d, ei⟩, trivial⟩⟩
    · rename_i k ei
      cases e
      obtain ⟨v, h1, h2⟩ := g.slot i _ ei
      exact ⟨v, h1, h v H N (Stp.refl g) g ⟨h2, trivial⟩⟩
    · cases e
  · exact h.elim
/-- constants -/
inductive CRel : Const → D → Prop
  | non : CRel .none .none
  | bl (b : Bool) : CRel (.bool b) (.bool b)
  | int (i : Int) : CRel (.int i) (.int i)
  | str (x : Str) : CRel (.str x) (.str x)
theorem fe_cst {X : Cx} {c : Const} {d : D} {j : Nat} {pos : Pos} {G : Gs} (hc : CRel c d) : PE X (.Constant c j pos) (tE K Fa Ca pr W (evE G (.cst d))) := by
  cases hc with
  | non => exact PE.imp pe_non fun σ H Q ⟨r, N, g, h⟩ => PostG.val (v := V.non) (by simpa only [evE] using h) (Stp.refl g) g Rp.non
  | bl b => exact PE.imp pe_bl fun σ H Q ⟨r, N, g, h⟩ => PostG.val (v := V.bl b) (by simpa only [evE] using h) (Stp.refl g) g (Rp.bl b)
  | int b => exact PE.imp pe_int fun σ H Q ⟨r, N, g, h⟩ => PostG.val (v := V.int b) (by simpa only [evE] using h) (Stp.refl g) g (Rp.int b)
  | str b => exact PE.imp pe_str fun σ H Q ⟨r, N, g, h⟩ => PostG.val (v := V.str b) (by simpa only [evE] using h) (Stp.refl g) g (Rp.str b)

theorem tG_mono {rel : Rel α β} {f : En → Rs α} {Q Q' : β → Hp → Prop} (h : tG K Fa Ca pr W rel f σ H Q) (m : ∀ v H', Q v H' → Q' v H') : tG K Fa Ca pr W rel f σ H Q' := by
  obtain ⟨r, N, g, h⟩ := h
  refine ⟨r, N, g, ?_⟩
  cases e : f r with
  | ok y r' =>
    rw [e] at h
    exact fun v H' N' s' g' q' => m _ _ (h v H' N' s' g' q')
  | exc x r' =>
    rw [e] at h
    exact h
  | stuck =>
    rw [e] at h
    exact h

/-! ### two parts, an operation by values -/
/-- data in; the rest is a result that needs no further running -/
def rEv (K : Kw) (Fa Ca : Nat → Addr) (pr : List (Nat × Addr)) (W : WX) (k : D → D → En → Rs R) : R2 := fun x y H Q => ∃ (r0 : En) (σ : L2.St) (N0 : NS) (H0 : Hp) (r : En) (N : NS) (d f : D), Good K Fa pr r0 σ N0 H0 ∧ Stp r0 σ N0 H0 r N H ∧ Good K Fa pr r σ N H ∧ DR K N H x d ∧ DR K N H y f ∧ PostG K Fa Ca pr W (relE K Fa) r0 σ N0 H0 Q (k d f r)
theorem fe_bin2 {X : Cx} {e : Expr} {A B : CE} {G : Gs} {k : D → D → En → Rs R} {C : CE}
    (hev : ∀ r, evE G C r = (evE G A r).bind fun x r1 => (evE G B r1).bind fun y r2 => match dref r2 x, dref r2 y with
      | some d, some e => k d e r2
      | _, _ => .stuck)
    (h : PE X e (L2.tOp (rEv K Fa Ca pr W k) (tE K Fa Ca pr W (evE G A)) (tE K Fa Ca pr W (evE G B)))) : PE X e (tE K Fa Ca pr W (evE G C)) := by
  refine PE.imp h fun σ H Q ⟨r, N, g, h⟩ => ?_
  rw [hev] at h
  refine tG_mono (tG_bind (rel := relE K Fa) g (Stp.refl g) g h) fun v H1 ⟨y, r1, N1, _, s1, g1, q1, p1⟩ => ?_
  refine tG_mono (tG_bind (rel := relE K Fa) g s1 g1 p1) fun v2 H2 ⟨y2, r2, N2, t2, s2, g2, q2, p2⟩ => ?_
  have q1' := RR.stp q1.1 t2 g1
  cases e1 : dref r2 y with
  | none => rw [e1] at p2; exact p2.elim
  | some d1 =>
    cases e2 : dref r2 y2 with
    | none => rw [e1, e2] at p2; exact p2.elim
    | some d2 =>
      rw [e1, e2] at p2
      exact ⟨r, σ, N, H, r2, N2, d1, d2, g, s2, g2, RR.look q1' g2 e1, RR.look q2.1 g2 e2, p2⟩

/-! ### data as the library's rules ask for it -/
mutual
theorem Rp.dp : ∀ (d : D) (v : V), Rp K N H v d → d.canLay0 = true → Dp K.fr H v d
  | .none, _, h, _ => by cases h; exact .non
  | .bool b, _, h, _ => by cases h; exact .bl b
  | .int b, _, h, _ => by cases h; exact .int b
  | .str b, _, h, _ => by cases h; exact .str b
  | .list ds, _, h, c => by
    cases h with
    | lst h ha => exact .lst h.sq (RpA.dp ds _ ha (by simpa [PyData.canLay0] using c))
  | .tuple ds, _, h, c => by
    cases h with
    | tup h ha => exact .tup h.sq (RpA.dp ds _ ha (by simpa [PyData.canLay0] using c))
  | .dict ds, _, _, c => by simp [PyData.canLay0] at c
theorem RpA.dp : ∀ (ds : List D) (vs : List V), RpA K N H vs ds → PyData.canLayAll0 ds = true → DpAll K.fr H vs ds
  | [], _, h, _ => by cases h; exact .nil
  | d :: ds, _, h, c => by
    simp only [PyData.canLayAll0, Bool.and_eq_true] at c
    cases h with
    | cons h t => exact .cons (Rp.dp d _ h c.1) (RpA.dp ds _ t c.2)
end
theorem DR.dp (h : DR K N H v d) (c : d.canLay0 = true) : Dp K.fr H v d := by
  rcases h with h | ⟨a, h1, _, h2⟩
  · exact h.dp _ _ c
  · cases d with
    | list ds =>
      obtain ⟨xs, h3, h4⟩ := h2
      subst h1
      exact .lst (.inl (.inl h3)) (h4.dp _ _ (by simpa [PyData.canLay0] using c))
    | dict ds => simp [PyData.canLay0] at c
    | _ => exact h2.elim
theorem DR.dpS (h : DR K N H v d) (c : SeqAt.shaped d = true) : Dp K.fr H v d := h.dp (SeqAt.canLay_of_shaped c)

/-! ### new tuples, their objects known -/
theorem pushT {X : Cx} {pins : List (Addr × Obj)} {s : Shared} {h : Heap} {tk : Nat} {xs : List V} {its : List Value} (I : Inv X pins σ H { s with heap := h, toks := tk }) (rv : Vals xs its) (hz : xs.length ≤ sizeLine) :
    Inv X pins σ (upd H h.objs.size (.frz { cls := .type "tuple", data := .seq its.toArray } (.tup xs))) { s with heap := h.push { cls := .type "tuple", data := .seq its.toArray }, toks := tk } :=
  I.laid (a := h.objs.size) (t' := tk) (h' := h.push _) (fun _ _ q => Heap.get?_push_of_some _ q) (Nat.le_refl _) ⟨Heap.get?_push_size _ rfl, hz, its, rv, IsTup.new _ _⟩
/-- what a rule says of a new tuple -/
def NewT (H : Hp) (Q : VK) (xs : List V) : Prop := ∀ (p : Addr) (ob : Obj), H p = none → ob.cls = .type "tuple" → ob.dict = none → Q (.ref p) (upd H p (.frz ob (.tup xs)))
theorem pushQ {X : Cx} {pins : List (Addr × Obj)} {s : Shared} {h : Heap} {tk : Nat} {xs : List V} {its : List Value} {Q : VK} (I : Inv X pins σ H { s with heap := h, toks := tk }) (rv : Vals xs its) (hz : xs.length ≤ sizeLine) (q : NewT H Q xs) :
    EP X pins σ Q (.ref h.objs.size) { s with heap := h.push { cls := .type "tuple", data := .seq its.toArray }, toks := tk } :=
  ⟨.ref _, _, pushT I rv hz, rfl, q _ _ (I.hok.fresh (Nat.le_refl _)) rfl rfl⟩
theorem pe_tupF {X : Cx} {es : List Expr} {t : TA} {k : Nat} {pos : Pos} (h : PA X es t) : PE X (.Tuple es k pos) (fun σ H Q => t σ H fun xs H1 => xs.length ≤ sizeLine ∧ NewT H1 Q xs) :=
  ⟨fun pins s σ H Q I hq => wpAny_Tuple_spliced (thn (h.run pos pins s σ H _ I hq) fun us s1 ⟨xs, H1, I1, rv, z, q⟩ => ⟨by have := rv.length; omega, pushQ (tk := s1.toks) I1 rv z q⟩)⟩
/-- t + u -/
def rCatF (K : PySem.W.Frag) : R2 := fun x y H Q => ∃ a b xs ys, x = .ref a ∧ y = .ref b ∧ SqT K H a xs ∧ SqT K H b ys ∧ xs.length + ys.length ≤ sizeLine ∧
  (xs = [] → Q (.ref b) H) ∧ (xs ≠ [] → ys = [] → Q (.ref a) H) ∧ NewT H Q (xs ++ ys)
theorem op_catF {X : Cx} : OpR X (binaryOp .Add) (rCatF X.K) := by
  intro pins s σ H x y v u Q I rx ry ⟨a, b, xs, ys, e1, e2, ha, hb, hz, q0, q1, q2⟩
  subst e1 e2
  by_cases hx : xs = []
  · exact op_catA pins s σ H _ _ v u Q I rx ry ⟨a, b, xs, ys, rfl, rfl, ha, hb, hz, q0, q1, fun z => absurd hx z⟩
  · cases rx
    cases ry
    obtain ⟨us, ru, pu, _⟩ := I.tuple ha
    obtain ⟨ws, rw', pw, _⟩ := I.tuple hb
    have l1 := ru.length
    have l2 := rw'.length
    exact HT.cat_tup pu pw (fun z => hx (ru.nil_iff.mp z)) (fun z => ⟨.ref a, H, I, rfl, q1 hx (rw'.nil_iff.mp z)⟩) (fun _ => pushQ (tk := s.toks) I (ru.append rw') (by rw [List.length_append]; exact hz) q2) (by omega)
/-- t[lo:hi] -/
def rSlF (K : PySem.W.Frag) : V → Option Int → Option Int → Hp → VK → Prop := fun x lo hi H Q => ∃ a xs, x = .ref a ∧ SqT K H a xs ∧
  (HT.sIx xs.length 0 lo = 0 ∧ HT.sIx xs.length xs.length hi = xs.length → Q (.ref a) H) ∧ NewT H Q (cutV xs lo hi)
theorem sl_tupF {X : Cx} : SlR X (rSlF X.K) := by
  intro pins s σ H x v vl vu lo hi sl Q I rx hs pl pu ⟨a, xs, e1, hx, q1, q2⟩
  subst e1
  by_cases hw : HT.sIx xs.length 0 lo = 0 ∧ HT.sIx xs.length xs.length hi = xs.length
  · exact sl_tupA pins s σ H _ v vl vu lo hi sl Q I rx hs pl pu ⟨a, xs, rfl, hx, q1, fun z => absurd hw z⟩
  · cases rx
    obtain ⟨us, ru, pt, hz⟩ := I.tuple hx
    have hl : us.toArray.size = xs.length := List.size_toArray.trans ru.length.symm
    exact ⟨"tuple", _, PyProof.Rows.slot_tuple_getitem.lookup, pt.typeIs, HT.getItem_tuple_cut pt hs pl pu (hl ▸ hw) (by rw [hl]; exact pushQ (tk := s.toks) I ((ru.drop _).take _) (Nat.le_trans (cutV_length xs lo hi) hz) q2) (hl ▸ hz)⟩
/-- tuple(x) -/
theorem call_tupF {X : Cx} : CallR X (.type "tuple") (fun xs H Q => ∃ p ys, xs = [.ref p] ∧ ((SqL X.K H p ys ∧ NewT H Q ys) ∨ (SqT X.K H p ys ∧ Q (.ref p) H))) := by
  intro pins s σ H xs us Q I rr ⟨p, ys, e, h⟩
  rcases h with ⟨hq, q⟩ | hq
  · subst e
    obtain ⟨u, e2, ru⟩ := vals1 rr
    subst e2
    cases ru
    obtain ⟨ws, rw', pl, hz⟩ := I.list hq
    have l1 := rw'.length
    exact call_tuple_list pl.isList (fun h' kp => pushQ (tk := s.toks) (I.kept (t' := s.toks) kp) rw' hz q) (by rw [List.size_toArray]; omega)
  · exact call_tuple_of pins s σ H xs us Q I rr ⟨p, ys, e, .inr hq⟩

/-! ### operators -/
/-- a tuple times an int -/
theorem op_repF {X : Cx} : OpR X (binaryOp .Mult) (fun x y H Q => ∃ l k xs, x = .ref l ∧ y = .int k ∧ SqT X.K H l xs ∧ 0 < xs.length ∧ 2 ≤ k ∧ k ≤ 1000 ∧ xs.length ≤ 1000 ∧ NewT H Q (List.replicate k.toNat xs).flatten) := by
  intro pins s σ H x y v u Q I rx ry h
  obtain ⟨l, k, xs, rfl, rfl, hT, hne, h1, h2, hz, q⟩ := h
  cases rx
  obtain ⟨t, rfl⟩ := ry
  obtain ⟨its, r, ⟨⟨cls, dd, data, sl⟩, ho, hc, n, hd⟩, hs⟩ := I.tuple hT
  simp only at hc hd
  subst hc hd
  have hle : its.length = xs.length := r.length.symm
  have hi : its.toArray.isEmpty = false := by
    cases its with
    | nil => rw [← hle] at hne; exact absurd hne (by simp)
    | cons a b => rfl
  have hsz0 : its.toArray.size = xs.length := by rw [List.size_toArray, hle]
  have hm : ((its.toArray.size : Nat) : Int) * k ≤ 1000000 := by
    rw [hsz0]
    have a1 : ((xs.length : Nat) : Int) * k ≤ 1000 * k := Int.mul_le_mul_of_nonneg_right (by omega) (by omega)
    omega
  have flen : (List.replicate k.toNat its).flatten.length ≤ sizeLine := by
    rw [PyProof.Rows.lm_len_rep_flat, hle, sizeLine_eq]
    have a1 : k.toNat * xs.length ≤ 1000 * 1000 := Nat.mul_le_mul (by omega) hz
    omega
  have c0 : (decide (k < -(2 ^ 63)) || decide (k ≥ 2 ^ 63)) = false := by
    rw [decide_eq_false (by omega), decide_eq_false (by omega)] <;> rfl
  have c1 : (its.toArray.isEmpty || k == 1) = false := by
    rw [hi, Bool.false_or]
    exact beq_eq_false_iff_ne.mpr (by omega)
  have c2 : (decide (k ≤ 0) || its.toArray.isEmpty) = false := by
    rw [hi, Bool.or_false]
    exact decide_eq_false (by omega)
  have c4 : Builtin.Tuple.tupleTooMany (((its.toArray.size : Nat) : Int) * k) = false := by
    unfold Builtin.Tuple.tupleTooMany
    rw [sizeLine_eq]
    exact decide_eq_false (by omega)
  refine wpAny_binaryOp_repeat_ref (T := "tuple") (U := "int") (by decide) ⟨_, ho, rfl⟩ (fun s' => typeIs_int s' k t) noFill_tuple_mul F.fills_int_mul F.slot_int_rmul repeat_tuple F.slot_int_index.lookup
    (call_meets F.slot_int_rmul (typeIs_int s k t) F.entry_int_rmul (F.args_int_rmul_2 _ _) (int_rmul_tuple k t l its.toArray n dd sl)
      ⟨ho, rfl, ⟨_, ho, rfl⟩, call_meets F.slot_tuple_mul ⟨_, ho, rfl⟩ F.entry_tuple_mul (F.args_tuple_mul_2 _ _) (tuple_mulW l its.toArray n dd sl k t c0 c1 c2 (by omega) c4 (by rw [size_rep, List.size_toArray]; exact flen)) ⟨ho, ?_⟩⟩)
  rw [size_rep]
  have rv : Vals (List.replicate k.toNat xs).flatten (List.replicate k.toNat its).flatten := r.rep _
  exact pushQ (tk := s.toks) I rv (by rw [rv.length]; exact flen) q
theorem op_catL {X : Cx} : OpR X (binaryOp .Add) (fun x y H Q => ∃ l b xs zs, x = .ref l ∧ y = .ref b ∧ SqL X.kw.fr H l xs ∧ SqL X.kw.fr H b zs ∧ xs.length + zs.length ≤ sizeLine ∧ ∀ p, H p = none → Q (.ref p) (upd H p (.lst (xs ++ zs)))) := by
  intro pins s σ H x y v u Q I rx ry h
  obtain ⟨l, b, xs, zs, rfl, rfl, hl, hb, hz, q⟩ := h
  cases rx
  cases ry
  obtain ⟨vs, rv, ⟨⟨cls, dd, data, sl⟩, n, ho, hc, _, hd⟩, _⟩ := I.list hl
  obtain ⟨ws, rw', ⟨⟨cls2, dd2, data2, sl2⟩, n2, ho2, hc2, _, hd2⟩, _⟩ := I.list hb
  simp only at hc hd hc2 hd2
  subst hc hd hc2 hd2
  have e : vs.toArray ++ ws.toArray = (vs ++ ws).toArray := by simp
  refine concat_meets ⟨_, ho, rfl⟩ ⟨_, ho2, rfl⟩ noFill_list_add seq_list_add PySem.F.slot_list_add PySem.F.entry_list_add (PySem.F.args_list_add_2 _ _) (list_addW l b vs.toArray ws.toArray n n2 dd dd2 sl sl2 (by have := rv.length; have := rw'.length; simp; omega)) ⟨ho, ho2, ?_⟩
  rw [e]
  exact ⟨.ref _, _, I.lnew (t' := s.toks) (rv.append rw') (by rw [List.length_append]; omega), rfl, q _ I.fresh⟩
abbrev kBin (op : Operator) : D → D → En → Rs R := fun d f r => optR r (binD op d f)
theorem op_bin {X : Cx} (hK : X.kw = K) (op : Operator) : OpR X (binaryOp op) (rEv K Fa Ca pr W (kBin op)) := by
  subst hK
  intro pins s σ H x y v u Q I rx ry ⟨r0, σ', N0, H0, r, N, d, f, g0, sp, g, hx, hy, h⟩
  unfold kBin at h
  cases e : binD op d f with
  | none => rw [e] at h; exact h.elim
  | some ow =>
    obtain ⟨o, w⟩ := ow
    rw [e] at h
    change PostG X.kw Fa Ca pr W (relE X.kw Fa) r0 σ' N0 H0 Q (.ok (.val o w) r) at h
    have intz : ∀ {i j : Int} {z : Int}, d = .int i → f = .int j → (o, w) = (false, PyData.int z) → x = .int i ∧ y = .int j ∧ Q (.int z) H := fun {i j z} e1 e2 e3 => by
      subst e1 e2
      cases e3
      exact ⟨hx.int, hy.int, h.val sp g (Rp.int _)⟩
    cases op with
    | Add =>
      cases d <;> cases f <;> simp only [binD] at e <;> (try cases e)
      · obtain ⟨rfl, rfl, q⟩ := intz rfl rfl rfl
        exact op_add pins s σ H _ _ v u Q I rx ry ⟨_, _, rfl, rfl, q⟩
      · split at e
        · cases e
          have hx := hx.str
          have hy := hy.str
          subst hx hy
          exact op_add_str pins s σ H _ _ v u Q I rx ry ⟨_, _, rfl, rfl, (by assumption), h.val sp g (Rp.str _)⟩
        · cases e
      · split at e
        · cases e
          obtain ⟨a, xs, rfl, ha, ra⟩ := hx.lst
          obtain ⟨b, ys, rfl, hb, rb⟩ := hy.lst
          have l1 := ra.length
          have l2 := rb.length
          exact op_catL pins s σ H _ _ v u Q I rx ry ⟨a, b, xs, ys, rfl, rfl, ha, hb, (by omega), fun p hp => h.newL g0 sp g hp (ra.append rb)⟩
        · cases e
      · split at e
        · cases e
          obtain ⟨a, xs, rfl, ha, ra⟩ := hx.tup
          obtain ⟨b, ys, rfl, hb, rb⟩ := hy.tup
          have l1 := ra.length
          have l2 := rb.length
          refine op_catF pins s σ H _ _ v u Q I rx ry ⟨a, b, xs, ys, rfl, rfl, ha.sq, hb.sq, (by omega), fun z => ?_, fun _ z => ?_, fun p ob hp oc od => h.newT g0 sp g hp oc od (ra.append rb)⟩
          · subst z
            cases ra
            exact h.val sp g (.tup hb rb)
          · subst z
            cases rb
            exact h.val sp g (by rw [List.append_nil]; exact .tup ha ra)
        · cases e
    | Sub =>
      cases d <;> cases f <;> simp only [binD] at e <;> (try cases e)
      obtain ⟨rfl, rfl, q⟩ := intz rfl rfl rfl
      exact op_sub pins s σ H _ _ v u Q I rx ry ⟨_, _, rfl, rfl, q⟩
    | Mult =>
      cases d <;> cases f <;> simp only [binD] at e <;> (try cases e)
      split at e
      · rename_i hm
        cases e
        obtain ⟨rfl, rfl, q⟩ := intz rfl rfl rfl
        exact op_mul pins s σ H _ _ v u Q I rx ry ⟨_, _, rfl, rfl, (by simp only [mulOk, Bool.or_eq_true, decide_eq_true_eq] at hm; exact hm), q⟩
      · cases e
      · split at e
        · rename_i hm
          cases e
          obtain ⟨a, xs, rfl, ha, ra⟩ := hx.tup
          have l1 := ra.length
          have hy := hy.int
          subst hy
          exact op_repF pins s σ H _ _ v u Q I rx ry ⟨a, _, xs, rfl, rfl, ha.sq, by omega, hm.2.1, hm.2.2.1, by omega, fun p ob hp oc od => h.newT g0 sp g hp oc od (ra.rep _)⟩
        · cases e
    | Mod =>
      cases d <;> cases f <;> simp only [binD] at e <;> (try cases e)
      split at e
      · cases e
        obtain ⟨rfl, rfl, q⟩ := intz rfl rfl rfl
        exact op_mod pins s σ H _ _ v u Q I rx ry ⟨_, _, rfl, rfl, (by assumption), q⟩
      · cases e
    | FloorDiv =>
      cases d <;> cases f <;> simp only [binD] at e <;> (try cases e)
      split at e
      · cases e
        obtain ⟨rfl, rfl, q⟩ := intz rfl rfl rfl
        exact op_fdiv pins s σ H _ _ v u Q I rx ry ⟨_, _, rfl, rfl, (by assumption), q⟩
      · cases e
    | Pow =>
      cases d <;> cases f <;> simp only [binD] at e <;> (try cases e)
      split at e
      · cases e
        obtain ⟨rfl, rfl, q⟩ := intz rfl rfl rfl
        exact op_pow pins s σ H _ _ v u Q I rx ry ⟨_, _, rfl, rfl, (by assumption), q⟩
      · cases e
    | LShift =>
      cases d <;> cases f <;> simp only [binD] at e <;> (try cases e)
      split at e
      · cases e
        obtain ⟨rfl, rfl, q⟩ := intz rfl rfl rfl
        exact op_shl pins s σ H _ _ v u Q I rx ry ⟨_, _, rfl, rfl, (by assumption), q⟩
      · cases e
    | RShift =>
      cases d <;> cases f <;> simp only [binD] at e <;> (try cases e)
      split at e
      · cases e
        obtain ⟨rfl, rfl, q⟩ := intz rfl rfl rfl
        exact op_shr pins s σ H _ _ v u Q I rx ry ⟨_, _, rfl, rfl, (by assumption), q⟩
      · cases e
    | BitAnd =>
      cases d <;> cases f <;> simp only [binD] at e <;> (try cases e)
      obtain ⟨rfl, rfl, q⟩ := intz rfl rfl rfl
      exact op_and pins s σ H _ _ v u Q I rx ry ⟨_, _, rfl, rfl, q⟩
    | BitOr =>
      cases d <;> cases f <;> simp only [binD] at e <;> (try cases e)
      obtain ⟨rfl, rfl, q⟩ := intz rfl rfl rfl
      exact op_or pins s σ H _ _ v u Q I rx ry ⟨_, _, rfl, rfl, q⟩
    | BitXor =>
      cases d <;> cases f <;> simp only [binD] at e <;> (try cases e)
      obtain ⟨rfl, rfl, q⟩ := intz rfl rfl rfl
      exact op_xor pins s σ H _ _ v u Q I rx ry ⟨_, _, rfl, rfl, q⟩
    | MatMult => simp [binD] at e
    | Div => simp [binD] at e
end
end E2

set_option Elab.async false
set_option linter.all false
set_option maxRecDepth 100000
namespace E2
variable [Tbs]
open PySem PySem.Spec PyProof.Rows L2
section
variable {K : Kw} {Fa Ca : Nat → Addr} {pr : List (Nat × Addr)} {W : WX} {r r1 r' : En} {σ : L2.St} {N N1 N' : NS} {H H1 H' : Hp} {v : V} {d : D} {a : Addr} {α β γ δ : Type}

/-! ### dicts: keys -/
theorem beq_eq_decide' {α : Type} [BEq α] [LawfulBEq α] [DecidableEq α] (a b : α) : (a == b) = decide (a = b) := by
  by_cases h : a = b
  · subst h; simp
  · rw [decide_eq_false h]; exact beq_eq_false_iff_ne.mpr h
theorem eqv_kD (k j : Key) : PyData.eqv (kD k) (kD j) = decide (k = j) := by
  cases k <;> cases j <;> simp [kD, PyData.eqv, beq_eq_decide']
mutual
theorem eqv_nk : ∀ k j : NestedKey, PyData.eqv k.data j.data = NestedKey.beq k j
  | .none, j => by cases j <;> simp [NestedKey.data, PyData.eqv, NestedKey.beq]
  | .num a, j => by cases j <;> simp [NestedKey.data, PyData.eqv, NestedKey.beq, beq_eq_decide']
  | .text a, j => by cases j <;> simp [NestedKey.data, PyData.eqv, NestedKey.beq, beq_eq_decide']
  | .tup ks, .tup js => by simp only [NestedKey.data, PyData.eqv, NestedKey.beq, eqv_nks ks js]
  | .tup ks, .none => by simp [NestedKey.data, PyData.eqv, NestedKey.beq]
  | .tup ks, .num _ => by simp [NestedKey.data, PyData.eqv, NestedKey.beq]
  | .tup ks, .text _ => by simp [NestedKey.data, PyData.eqv, NestedKey.beq]
theorem eqv_nks : ∀ ks js : List NestedKey, PyData.eqvAll (NestedKey.datas ks) (NestedKey.datas js) = NestedKey.beqAll ks js
  | [], [] => by simp [NestedKey.datas, PyData.eqvAll, NestedKey.beqAll]
  | [], _ :: _ => by simp [NestedKey.datas, PyData.eqvAll, NestedKey.beqAll]
  | _ :: _, [] => by simp [NestedKey.datas, PyData.eqvAll, NestedKey.beqAll]
  | k :: ks, j :: js => by simp only [NestedKey.datas, PyData.eqvAll, NestedKey.beqAll, eqv_nk k j, eqv_nks ks js]
end
theorem eqv_tD (k j : NestedKey) : PyData.eqv k.data j.data = decide (k = j) := by rw [eqv_nk, NestedKey.decide_eq]
/-- the value at a key -/
def OR (K : Kw) (N : NS) (H : Hp) : Option V → Option D → Prop
  | some v, some d => Rp K N H v d
  | none, none => True
  | _, _ => False
theorem dGet_nil (k : D) : dGet [] k = none := rfl
theorem dGet_cons (p : D × D) (r : List (D × D)) (k : D) : dGet (p :: r) k = if PyData.eqv p.1 k = true then some p.2 else dGet r k := by
  unfold dGet
  rw [List.find?_cons]
  cases h : PyData.eqv p.1 k <;> simp
theorem RpK.get (k : Key) : ∀ {kvs : List (Key × V)} {ds : List (D × D)}, RpK K N H kvs ds → OR K N H (valV kvs k) (dGet ds (kD k))
  | _, _, .nil => trivial
  | _, _, .cons (k := j) h t => by
    rw [dGet_cons]
    by_cases e : j = k
    · rw [valV_pos e]
      simp only [eqv_kD, e, decide_true, if_true]
      exact h
    · rw [valV_neg e]
      simp only [eqv_kD, e, decide_false, Bool.false_eq_true, if_false]
      exact RpK.get k t
/-- the value at a key, as it stands -/
def OT (K : Kw) (N : NS) (H : Hp) : Option (Addr × Value) → Option D → Prop
  | some p, some d => ∃ v, RelV v p.2 ∧ Rp K N H v d
  | none, none => True
  | _, _ => False
theorem atKey_cons (x : NestedKey × Addr × Value) (r : List (NestedKey × Addr × Value)) (k : NestedKey) : atKey (x :: r) k = if x.1 = k then some x.2 else atKey r k := by
  unfold atKey
  rw [List.find?_cons]
  by_cases h : x.1 = k <;> simp [h]
theorem RpT.get (k : NestedKey) : ∀ {kvs : List (NestedKey × Addr × Value)} {ds : List (D × D)}, RpT K N H kvs ds → OT K N H (atKey kvs k) (dGet ds k.data)
  | _, _, .nil => trivial
  | _, _, .cons (k := j) _ _ rv h t => by
    rw [dGet_cons, atKey_cons]
    by_cases e : j = k
    · simp only [eqv_tD, e, decide_true, if_true]
      exact ⟨_, rv, h⟩
    · simp only [eqv_tD, e, decide_false, Bool.false_eq_true, if_false]
      exact RpT.get k t
theorem RpK.any (k : Key) : ∀ {kvs : List (Key × V)} {ds : List (D × D)}, RpK K N H kvs ds → (ds.any fun p => PyData.eqv p.1 (kD k)) = kvs.any fun p => decide (p.1 = k)
  | _, _, .nil => rfl
  | _, _, .cons h t => by
    simp only [List.any_cons, eqv_kD, RpK.any k t]
theorem RpT.any (k : NestedKey) {kvs : List (NestedKey × Addr × Value)} {ds : List (D × D)} (h : RpT K N H kvs ds) : (ds.any fun p => PyData.eqv p.1 k.data) = (atKey kvs k).isSome := by
  have e : (ds.any fun p => PyData.eqv p.1 k.data) = (dGet ds k.data).isSome := by
    unfold dGet
    rw [Option.isSome_map, Bool.eq_iff_iff, List.find?_isSome, List.any_eq_true]
  rw [e]
  have := h.get k
  cases e1 : atKey kvs k <;> cases e2 : dGet ds k.data <;> rw [e1, e2] at this <;> first | rfl | exact this.elim
theorem RpK.append : ∀ {kvs ks2 : List (Key × V)} {ds ds2 : List (D × D)}, RpK K N H kvs ds → RpK K N H ks2 ds2 → RpK K N H (kvs ++ ks2) (ds ++ ds2)
  | _, _, _, _, .nil, s => s
  | _, _, _, _, .cons h t, s => .cons h (RpK.append t s)
theorem RpT.append : ∀ {kvs ks2 : List (NestedKey × Addr × Value)} {ds ds2 : List (D × D)}, RpT K N H kvs ds → RpT K N H ks2 ds2 → RpT K N H (kvs ++ ks2) (ds ++ ds2)
  | _, _, _, _, .nil, s => s
  | _, _, _, _, .cons a b c h t, s => .cons a b c h (RpT.append t s)
theorem RpK.repl (k : Key) {y : V} {e : D} (hy : Rp K N H y e) : ∀ {kvs : List (Key × V)} {ds : List (D × D)}, RpK K N H kvs ds →
    RpK K N H (kvs.map fun kv => if kv.1 = k then (kv.1, y) else kv) (ds.map fun p => if PyData.eqv p.1 (kD k) = true then (p.1, e) else p)
  | _, _, .nil => .nil
  | _, _, .cons (k := j) h t => by
    simp only [List.map_cons, eqv_kD]
    by_cases q : j = k
    · simp only [q, if_true, decide_true]
      exact .cons hy (RpK.repl k hy t)
    · simp only [q, if_false, decide_false, Bool.false_eq_true]
      exact .cons h (RpK.repl k hy t)
theorem RpT.repl (k : NestedKey) {y : V} {u : Value} {e : D} (ru : RelV y u) (hy : Rp K N H y e) : ∀ {kvs : List (NestedKey × Addr × Value)} {ds : List (D × D)}, RpT K N H kvs ds →
    RpT K N H (kvs.map (putAt k u)) (ds.map fun p => if PyData.eqv p.1 k.data = true then (p.1, e) else p)
  | _, _, .nil => .nil
  | _, _, .cons (k := j) a b c h t => by
    simp only [List.map_cons, eqv_tD, putAt]
    by_cases q : j = k
    · simp only [q, if_true, decide_true]
      exact .cons (q ▸ a) (q ▸ b) ru hy (RpT.repl k ru hy t)
    · simp only [q, if_false, decide_false, Bool.false_eq_true]
      exact .cons a b c h (RpT.repl k ru hy t)
theorem RpK.put (k : Key) {y : V} {e : D} (hy : Rp K N H y e) {kvs : List (Key × V)} {ds : List (D × D)} (h : RpK K N H kvs ds) : RpK K N H (putK kvs k y) (dPut ds (kD k) e) := by
  unfold putK dPut
  rw [h.any k]
  split
  · exact h.repl k hy
  · exact h.append (.cons hy .nil)
theorem RpT.put (k : NestedKey) {b : Addr} {y : V} {u : Value} {e : D} (hk : k.depth ≤ 8) (hb : Rp K N H (.ref b) k.data) (ru : RelV y u) (hy : Rp K N H y e) {kvs : List (NestedKey × Addr × Value)} {ds : List (D × D)} (h : RpT K N H kvs ds) : RpT K N H (storedH kvs k b u) (dPut ds k.data e) := by
  unfold storedH dPut
  rw [h.any k]
  split
  · exact h.repl k ru hy
  · exact h.append (.cons hk hb ru hy .nil)
theorem RpT.length : ∀ {kvs : List (NestedKey × Addr × Value)} {ds : List (D × D)}, RpT K N H kvs ds → kvs.length = ds.length
  | _, _, .nil => rfl
  | _, _, .cons _ _ _ _ t => congrArg (· + 1) t.length
theorem storedH_ne (kvs : List (NestedKey × Addr × Value)) (k : NestedKey) (b : Addr) (u : Value) : storedH kvs k b u ≠ [] := by
  unfold storedH
  split
  · rename_i h
    intro e
    rw [List.map_eq_nil_iff] at e
    subst e
    simp [atKey] at h
  · simp
/-- a key's own shape -/
theorem flatK_key {k : D} (h : flatK k = true) : ∃ q, k = kD q := by
  cases k <;> simp [flatK] at h
  · exact ⟨.inl _, rfl⟩
  · exact ⟨.inr _, rfl⟩
theorem flatK_all : ∀ {ks : List D}, ks.all flatK = true → ∃ q : List Key, ks = q.map kD
  | [], _ => ⟨[], rfl⟩
  | k :: ks, h => by
    simp only [List.all_cons, Bool.and_eq_true] at h
    obtain ⟨q, rfl⟩ := flatK_key h.1
    obtain ⟨qs, rfl⟩ := flatK_all h.2
    exact ⟨q :: qs, rfl⟩
theorem nestN_key : ∀ (n : Nat) (d : D), nestN n d = true → ∃ k : NestedKey, d = k.data ∧ k.depth ≤ n
  | n, .none, _ => ⟨.none, by simp [NestedKey.data], by simp [NestedKey.depth]⟩
  | n, .int i, _ => ⟨.num i, by simp [NestedKey.data], by simp [NestedKey.depth]⟩
  | n, .str i, _ => ⟨.text i, by simp [NestedKey.data], by simp [NestedKey.depth]⟩
  | 0, .tuple ds, h => by simp [nestN] at h
  | n + 1, .tuple ds, h => by
    simp only [nestN, List.all_eq_true] at h
    have all : ∀ (l : List D), (∀ d ∈ l, nestN n d = true) → ∃ ks : List NestedKey, l = NestedKey.datas ks ∧ NestedKey.depthAll ks ≤ n := by
      intro l
      induction l with
      | nil => exact fun _ => ⟨[], by simp [NestedKey.datas], by simp [NestedKey.depthAll]⟩
      | cons d l ih =>
        intro q
        obtain ⟨k, e1, e2⟩ := nestN_key n d (q d List.mem_cons_self)
        obtain ⟨ks, e3, e4⟩ := ih fun x hx => q x (List.mem_cons_of_mem _ hx)
        exact ⟨k :: ks, by simp only [NestedKey.datas, e1, e3], by simp only [NestedKey.depthAll]; omega⟩
    obtain ⟨ks, e1, e2⟩ := all ds h
    exact ⟨.tup ks, by simp only [NestedKey.data, e1], by simp only [NestedKey.depth]; omega⟩
  | n, .bool b, h => by simp [nestN] at h
  | n, .list b, h => by simp [nestN] at h
  | n, .dict b, h => by simp [nestN] at h
theorem tupK_key {k : D} (h : tupK k = true) : ∃ ks : List NestedKey, k = (NestedKey.tup ks).data ∧ (NestedKey.tup ks).depth ≤ 8 := by
  cases k <;> simp only [tupK, Bool.false_eq_true] at h
  rename_i ds
  obtain ⟨k, e1, e2⟩ := nestN_key 8 (.tuple ds) (by simpa only [nestN] using h)
  cases k with
  | tup ks => exact ⟨ks, e1, e2⟩
  | none => simp [NestedKey.data] at e1
  | num i => simp [NestedKey.data] at e1
  | text i => simp [NestedKey.data] at e1
theorem DR.key {q : Key} (h : DR K N H v (kD q)) : v = kV q := by
  cases q with
  | inl i => exact h.int
  | inr x => exact h.str
theorem DR.tkey {ks : List NestedKey} (h : DR K N H v (NestedKey.tup ks).data) : ∃ b, v = .ref b ∧ Rp K N H (.ref b) (NestedKey.tup ks).data := by
  simp only [NestedKey.data] at h ⊢
  obtain ⟨b, xs, h1, h2, h3⟩ := h.tup
  exact ⟨b, h1, .tup h2 h3⟩
theorem RpK.flat : ∀ {kvs : List (Key × V)} {ds : List (D × D)}, RpK K N H kvs ds → ds.all (fun p => flatK p.1) = true
  | _, _, .nil => rfl
  | _, _, .cons (k := k) h t => by
    simp only [List.all_cons, RpK.flat t, Bool.and_true]
    cases k <;> rfl
theorem RpK.nil_of_tup : ∀ {kvs : List (Key × V)} {ds : List (D × D)}, RpK K N H kvs ds → ds.all (fun p => tupK p.1) = true → kvs = [] ∧ ds = []
  | _, _, .nil, _ => ⟨rfl, rfl⟩
  | _, _, .cons (k := k) h t, e => by
    simp only [List.all_cons, Bool.and_eq_true] at e
    cases k <;> simp [kD, tupK] at e
theorem RpT.nil_of_flat {kvs : List (NestedKey × Addr × Value)} {ds : List (D × D)} (h : RpT K N H kvs ds) (e : ds.all (fun p => flatK p.1) = true) (n : kvs ≠ []) : False := by
  cases h with
  | nil => exact n rfl
  | @cons k b v u r d s _ hb _ _ _ =>
    simp only [List.all_cons, Bool.and_eq_true] at e
    cases k with
    | tup ks => simp [NestedKey.data, flatK] at e
    | none => simp [NestedKey.data, flatK] at e
    | num i => simp only [NestedKey.data] at hb; cases hb
    | text i => simp only [NestedKey.data] at hb; cases hb

/-! ### a dict whose keys are tuples, in the heap -/
section
variable {X : Cx} {pins : List (Addr × Obj)} {s : Shared}
mutual
theorem Rp.nested (I : Inv X pins σ H s) (hK : X.kw = K) : ∀ (k : NestedKey) (v : V) (u : Value), Rp K N H v k.data → RelV v u → NestedIs s.heap k u
  | .none, _, _, h, e => by
    simp only [NestedKey.data] at h
    cases h
    cases e
    exact .none
  | .num i, _, _, h, e => by
    simp only [NestedKey.data] at h
    cases h
    obtain ⟨t, rfl⟩ := e
    exact .int _ _
  | .text i, _, _, h, e => by
    simp only [NestedKey.data] at h
    cases h
    obtain ⟨t, rfl⟩ := e
    exact .text _ _
  | .tup ks, _, _, h, e => by
    simp only [NestedKey.data] at h
    cases h with
    | tup h ha =>
      cases e
      have hq : SqT X.K H _ _ := (by rw [hK]; exact h.sq : SqT X.kw.fr H _ _)
      obtain ⟨its, rv, ⟨o, h1, h2, n, h3⟩, _⟩ := I.tuple hq
      exact .tup h1 h2 h3 (RpA.nested I hK ks _ _ ha rv)
theorem RpA.nested (I : Inv X pins σ H s) (hK : X.kw = K) : ∀ (ks : List NestedKey) (vs : List V) (us : List Value), RpA K N H vs (NestedKey.datas ks) → Vals vs us → NestedAll s.heap ks us
  | [], _, _, h, e => by
    simp only [NestedKey.datas] at h
    cases h
    cases e
    exact .nil
  | k :: ks, _, _, h, e => by
    simp only [NestedKey.datas] at h
    cases h with
    | cons h t =>
      cases e with
      | cons r rs => exact .cons (Rp.nested I hK k _ _ h r) (RpA.nested I hK ks _ _ t rs)
end
theorem RpT.keysIs (I : Inv X pins σ H s) (hK : X.kw = K) : ∀ {kvs : List (NestedKey × Addr × Value)} {ds : List (D × D)}, RpT K N H kvs ds → ∀ x ∈ kvs, (nestedKind X.prog X.w).is s.heap x.1 x.2.1
  | _, _, .nil, x, hx => absurd hx (by simp)
  | _, _, .cons a b _ _ t, x, hx => by
    rcases List.mem_cons.mp hx with rfl | hx
    · exact ⟨Rp.nested I hK _ _ _ b rfl, a⟩
    · exact RpT.keysIs I hK t x hx
theorem RpT.dictOf {o : Obj} {kvs : List (NestedKey × Addr × Value)} {ds : List (D × D)} (I : Inv X pins σ H s) (hK : X.kw = K) (h : H a = some (isO a o)) (hd : DObj K a o kvs) (rt : RpT K N H kvs ds) : s.heap.DictOfH (nestedKind X.prog X.w) a kvs := by
  obtain ⟨_, hs, hz, hx, hn, es, ep, h1, h2⟩ := hd
  subst hK
  exact ⟨o, es, ep, (I.hok a _ h).1, hx, h1, h2, RpT.keysIs I rfl rt, hn⟩
/-- an empty dict, for keys that are tuples -/
theorem dictOf0 (I : Inv X pins σ H s) (h : H a = some (.dK [])) : s.heap.DictOfH (nestedKind X.prog X.w) a [] ∧ (a == sysModules) = false := by
  obtain ⟨z, hd, vs, rel, o, es, ep, ho, hx, hdat, ko, pr, nd⟩ := I.hok a _ h
  cases rel
  have he : es.toList = [] := by cases hh : es.toList with
    | nil => rfl
    | cons p q => rw [hh] at pr; cases pr
  exact ⟨⟨o, es, ep, ho, hx, hdat, he, fun x hx => absurd hx (by simp), List.nodup_nil⟩, hd⟩
/-- behind a write: what stands there now -/
theorem wroteT {h' : Heap} {tk : Nat} {kvs : List (NestedKey × Addr × Value)} (I : Inv X pins σ H s) (hK : X.kw = K) (mu : Mut (H a)) (hs : (a == sysModules) = false) (hz : kvs.length ≤ sizeLine) (hn : kvs ≠ []) (hm : h'.DictOfH (nestedKind X.prog X.w) a kvs) (sb : Heap.SameBut a s.heap h') :
    ∃ o, DObj K a o kvs ∧ Inv X pins σ (upd H a (isO a o)) { s with heap := h', toks := tk } := by
  obtain ⟨o, es, ep, ho, hx, h1, h2, _, nd⟩ := hm
  subst hK
  exact ⟨o, ⟨hn, hs, hz, hx, nd, es, ep, h1, h2⟩, I.write (t' := tk) (x := a) (e := a) mu (.inl rfl) (fun b u ne q => (sb.2 b ne).trans q) ⟨o, ho⟩ ⟨ho, ⟨o, ho⟩, fun h1 h2 q st => st _ q⟩⟩
end
end
end E2

set_option Elab.async false
set_option linter.all false
set_option maxRecDepth 100000
set_option maxHeartbeats 1000000
namespace E2
variable [Tbs]
open PySem PySem.Spec PyProof.Rows L2
section
variable {K : Kw} {Fa Ca : Nat → Addr} {pr : List (Nat × Addr)} {W : WX} {r r1 r' : En} {σ : L2.St} {N N1 N' : NS} {H H1 H' : Hp} {v : V} {d : D} {a : Addr} {α β γ δ : Type}

/-! ### comparisons -/
/-- what stands at a is the dict kvs -/
def DicR (K : Kw) (N : NS) (H : Hp) (a : Addr) (kvs : List (D × D)) : Prop := (∃ ks, H a = some (.dK ks) ∧ RpK K N H ks kvs) ∨ ∃ o ks, H a = some (isO a o) ∧ DObj K a o ks ∧ RpT K N H ks kvs
theorem DicR.tup {X : Cx} {pins : List (Addr × Obj)} {s : Shared} {kvs : List (D × D)} (hd : DicR K N H a kvs) (I : Inv X pins σ H s) (hK : X.kw = K) (ha : kvs.all (fun p => tupK p.1) = true) :
    ∃ ks, s.heap.DictOfH (nestedKind X.prog X.w) a ks ∧ (a == sysModules) = false ∧ RpT K N H ks kvs ∧ ks.length ≤ sizeLine ∧ Mut (H a) := by
  rcases hd with ⟨ks, h1, h2⟩ | ⟨o, ks, h1, h2, h3⟩
  · obtain ⟨rfl, rfl⟩ := h2.nil_of_tup ha
    obtain ⟨q1, q2⟩ := dictOf0 I h1
    exact ⟨[], q1, q2, .nil, Nat.zero_le _, by rw [h1]; trivial⟩
  · exact ⟨ks, h3.dictOf I hK h1 h2, h2.2.1, h3, h2.2.2.1, by rw [h1]; trivial⟩
theorem DicR.flat {kvs : List (D × D)} (hd : DicR K N H a kvs) (ha : kvs.all (fun p => flatK p.1) = true) : ∃ ks, H a = some (.dK ks) ∧ RpK K N H ks kvs := by
  rcases hd with h | ⟨o, ks, h1, h2, h3⟩
  · exact h
  · exact (h3.nil_of_flat ha h2.1).elim
theorem DR.dicR {kvs : List (D × D)} (h : DR K N H v (.dict kvs)) : ∃ a, v = .ref a ∧ DicR K N H a kvs := h.dic
theorem OR.isSome {x : Option V} {z : Option D} (q : OR K N H x z) : x.isSome = z.isSome := by cases x <;> cases z <;> first | rfl | exact q.elim
theorem OT.isSome {x : Option (Addr × Value)} {z : Option D} (q : OT K N H x z) : x.isSome = z.isSome := by cases x <;> cases z <;> first | rfl | exact q.elim
theorem nroom {A : Around} {prog : Program} {w : World} (hu : A.units + 65 < cLine) : (nestedKind prog w).room A.in1 := by
  show A.in1.units + 8 < cLine
  rw [Around.in1_units]
  omega
/-- y in a dict -/
theorem din_any {X : Cx} {pins : List (Addr × Obj)} {s : Shared} {E : Value → Shared → Prop} {u : Value} {y : V} {kvs : List (D × D)} {k : D} {Q : Value → Shared → Prop} (hK : X.kw = K) (hu : X.A.units + 65 < cLine) (I : Inv X pins σ H s)
    (hd : DicR K N H a kvs) (hy : DR K N H y k) (ry : RelV y u) (hk : likeKeys kvs k = true)
    (h : ∀ s', Inv X pins σ H s' → Q (.bool (dGet kvs k).isSome) s') : wpAny (model X.prog X.w) X.A (compareOp .In u (.ref a)) Q E s := by
  simp only [likeKeys, Bool.or_eq_true, Bool.and_eq_true] at hk
  rcases hk with ⟨ha, hk⟩ | ⟨ha, hk⟩
  · obtain ⟨q, rfl⟩ := flatK_key hk
    have ey := hy.key
    subst ey
    obtain ⟨ks, hd, rk⟩ := hd.flat ha
    refine d_in (by omega) I (o := valV ks q) (.inl ⟨ks, q, .inl hd, rfl, rfl⟩) ry fun s' I' => ?_
    rw [(rk.get q).isSome]
    exact h s' I'
  · obtain ⟨q, rfl, hq⟩ := tupK_key hk
    obtain ⟨b, rfl, hb⟩ := hy.tkey
    cases ry
    obtain ⟨ks, dd, ns, rt, _⟩ := hd.tup I hK ha
    refine wpAny_in_heap (nroom hu) ⟨hb.nested I hK _ _ _ rfl, hq⟩ ns dd ?_
    rw [(rt.get _).isSome]
    exact h _ (I.tok _)
theorem dnotin_any {X : Cx} {pins : List (Addr × Obj)} {s : Shared} {E : Value → Shared → Prop} {u : Value} {y : V} {kvs : List (D × D)} {k : D} {Q : Value → Shared → Prop} (hK : X.kw = K) (hu : X.A.units + 65 < cLine) (I : Inv X pins σ H s)
    (hd : DicR K N H a kvs) (hy : DR K N H y k) (ry : RelV y u) (hk : likeKeys kvs k = true)
    (h : ∀ s', Inv X pins σ H s' → Q (.bool (!(dGet kvs k).isSome)) s') : wpAny (model X.prog X.w) X.A (compareOp .NotIn u (.ref a)) Q E s := by
  simp only [likeKeys, Bool.or_eq_true, Bool.and_eq_true] at hk
  rcases hk with ⟨ha, hk⟩ | ⟨ha, hk⟩
  · obtain ⟨q, rfl⟩ := flatK_key hk
    have ey := hy.key
    subst ey
    obtain ⟨ks, hd, rk⟩ := hd.flat ha
    refine d_notIn (by omega) I (o := valV ks q) (.inl ⟨ks, q, .inl hd, rfl, rfl⟩) ry fun s' I' => ?_
    rw [(rk.get q).isSome]
    exact h s' I'
  · obtain ⟨q, rfl, hq⟩ := tupK_key hk
    obtain ⟨b, rfl, hb⟩ := hy.tkey
    cases ry
    obtain ⟨ks, dd, ns, rt, _⟩ := hd.tup I hK ha
    refine wpAny_notIn_heap (nroom hu) ⟨hb.nested I hK _ _ _ rfl, hq⟩ ns dd ?_
    rw [(rt.get _).isSome]
    exact h _ (I.tok _)
theorem dgetitem_any {X : Cx} {pins : List (Addr × Obj)} {s : Shared} {E : Value → Shared → Prop} {u : Value} {y : V} {kvs : List (D × D)} {k w : D} {Q : Value → Shared → Prop} (hK : X.kw = K) (hu : X.A.units + 65 < cLine) (I : Inv X pins σ H s)
    (hd : DicR K N H a kvs) (hy : DR K N H y k) (ry : RelV y u) (hk : likeKeys kvs k = true) (hw : dGet kvs k = some w)
    (h : ∀ v w' s', Inv X pins σ H s' → RelV v w' → Rp K N H v w → Q w' s') : wpAny (model X.prog X.w) X.A (getItem (.ref a) u) Q E s := by
  simp only [likeKeys, Bool.or_eq_true, Bool.and_eq_true] at hk
  rcases hk with ⟨ha, hk⟩ | ⟨ha, hk⟩
  · obtain ⟨q, rfl⟩ := flatK_key hk
    have ey := hy.key
    subst ey
    obtain ⟨ks, hd, rk⟩ := hd.flat ha
    have g := rk.get q
    rw [hw] at g
    cases e : valV ks q with
    | none => rw [e] at g; exact g.elim
    | some v =>
      rw [e] at g
      exact d_getItem (by omega) I (v := v) (.inl ⟨ks, q, .inl hd, rfl, e.symm⟩) ry fun w' s' I' rw' => h v w' s' I' rw' g
  · obtain ⟨q, rfl, hq⟩ := tupK_key hk
    obtain ⟨b, rfl, hb⟩ := hy.tkey
    cases ry
    obtain ⟨ks, dd, ns, rt, _⟩ := hd.tup I hK ha
    have g := rt.get (.tup q)
    rw [hw] at g
    cases e : atKey ks (.tup q) with
    | none => rw [e] at g; exact g.elim
    | some p =>
      rw [e] at g
      obtain ⟨v, rv, rp⟩ := g
      exact wpAny_getItem_heap (nroom hu) ⟨hb.nested I hK _ _ _ rfl, hq⟩ dd e (h v _ _ (I.tok _) rv rp)
/-- x[k] = v: what stands there then -/
theorem dset_any {X : Cx} {pins : List (Addr × Obj)} {s : Shared} {E : Value → Shared → Prop} {u z : Value} {y x : V} {kvs : List (D × D)} {k e : D} {Q : Unit → Shared → Prop} (hK : X.kw = K) (hu : X.A.units + 65 < cLine) (I : Inv X pins σ H s)
    (hd : DicR K N H a kvs) (tr : ∀ b, N b → Mut (H b)) (ha : N a) (hy : DR K N H y k) (ry : RelV y u) (hx : Rp K N H x e) (rx : RelV x z) (hk : likeKeys kvs k = true) (hz : kvs.length < sizeLine)
    (h : ∀ o s', Mut (some o) → Inv X pins σ (upd H a o) s' → (∀ N', Fz N H N' (upd H a o) → RpM K N' (upd H a o) a (.dict (dPut kvs k e))) → Q () s') : wpAny (model X.prog X.w) X.A (setItem (.ref a) u z) Q E s := by
  simp only [likeKeys, Bool.or_eq_true, Bool.and_eq_true] at hk
  rcases hk with ⟨hal, hk⟩ | ⟨hal, hk⟩
  · obtain ⟨q, rfl⟩ := flatK_key hk
    have ey := hy.key
    subst ey
    obtain ⟨ks, hd, rk⟩ := hd.flat hal
    refine d_setItem (by omega) I (v := x) (H' := upd H a (.dK (putK ks q x))) (.inl ⟨ks, q, hd, rfl, by rw [rk.length]; exact hz, rfl⟩) ry rx fun s' I' => h (.dK (putK ks q x)) s' trivial I' fun N' st => .inl ⟨_, upd_same, (rk.put q hx).keep st tr⟩
  · obtain ⟨q, rfl, hq⟩ := tupK_key hk
    obtain ⟨b, rfl, hb⟩ := hy.tkey
    cases ry
    obtain ⟨ks, dd, ns, rt, hl, mu⟩ := hd.tup I hK hal
    refine wpAny_setItem_heap (nroom hu) ⟨hb.nested I hK _ _ _ rfl, hq⟩ dd (fun h' dd' sb => ?_) hl
    have rp := rt.put (.tup q) hq hb rx hx
    have ln : (storedH ks (.tup q) b z).length ≤ sizeLine := by
      have e1 : kvs.length = ks.length := rt.length.symm
      unfold storedH
      split
      · rw [List.length_map]; exact hl
      · rw [List.length_append]; show ks.length + 1 ≤ _; omega
    obtain ⟨o, hdo, I'⟩ := wroteT (tk := s.toks + (nestedKind X.prog X.w).draws (.tup q)) I hK mu ns ln (storedH_ne ks _ _ _) dd' sb
    exact h (isO a o) _ trivial I' fun N' st => .inr ⟨o, _, upd_same, hdo, rp.keep st tr⟩

theorem decVI {i j : Int} : decide (V.int i = V.int j) = decide (i = j) := by simp
theorem Rp.isN (h : DR K N H v d) (hn : d ≠ .none) : v ≠ .non := by
  rintro rfl
  rcases h with h | ⟨a, h, _⟩
  · cases h; exact hn rfl
  · cases h
/-- a comparison by data -/
def rC (K : Kw) (op : CmpOp) : R2 := fun x y H Q => ∃ (N : NS) (d f : D) (k : Bool), DR K N H x d ∧ DR K N H y f ∧ cmpD op d f = some k ∧ Q (.bl k) H
theorem op_cmpE {X : Cx} (hK : X.kw = K) (hu : X.A.units + 65 < cLine) (op : CmpOp) : OpR X (compareOp op) (rC K op) := by
  subst hK
  intro pins s σ H x y v u Q I rx ry ⟨N, d, f, k, hx, hy, e, q⟩
  · skip
    have two : ∀ {i j : Int}, d = .int i → f = .int j → x = .int i ∧ y = .int j := fun {i j} e1 e2 => by
      subst e1 e2
      exact ⟨hx.int, hy.int⟩
    have shp : ∀ {p : Prop} [Decidable p] {z : Bool}, (if p then some z else none) = some k → p ∧ z = k := fun {p _ z} e => by
      split at e
      · exact ⟨by assumption, Option.some.inj e⟩
      · cases e
    have eqI : ∀ {k' : Bool}, eqD d f = some k' → (x, y) = (x, y) → (∃ i j, x = .int i ∧ y = .int j ∧ k' = decide (i = j)) ∨ (Dp X.kw.fr H x d ∧ Dp X.kw.fr H y f ∧ SeqAt.shaped d = true ∧ SeqAt.shaped f = true ∧ k' = PyData.eqv d f) := fun {k'} e _ => by
      unfold eqD at e
      split at e
      · obtain ⟨e1, e2⟩ := two rfl rfl
        exact .inl ⟨_, _, e1, e2, (Option.some.inj e).symm⟩
      · split at e
        · rename_i hs
          exact .inr ⟨hx.dpS hs.1, hy.dpS hs.2, hs.1, hs.2, (Option.some.inj e).symm⟩
        · cases e
    cases op with
    | Eq =>
      rcases eqI e rfl with ⟨i, j, rfl, rfl, rfl⟩ | ⟨h1, h2, h3, h4, rfl⟩
      · exact op_eq pins s σ H _ _ v u Q I rx ry ⟨rfl, by rw [decVI]; exact q⟩
      · exact op_eqD (by omega) pins s σ H _ _ v u Q I rx ry ⟨d, f, h1, h2, h3, h4, q⟩
    | NotEq =>
      obtain ⟨k', e', rfl⟩ := Option.map_eq_some_iff.mp e
      rcases eqI e' rfl with ⟨i, j, rfl, rfl, rfl⟩ | ⟨h1, h2, h3, h4, rfl⟩
      · exact op_ne pins s σ H _ _ v u Q I rx ry ⟨rfl, by rw [decVI]; exact q⟩
      · exact op_neD (by omega) pins s σ H _ _ v u Q I rx ry ⟨d, f, h1, h2, h3, h4, q⟩
    | Lt =>
      cases d <;> cases f <;> simp only [cmpD] at e <;> (try cases e)
      obtain ⟨rfl, rfl⟩ := two rfl rfl
      exact op_lt pins s σ H _ _ v u Q I rx ry ⟨_, _, rfl, rfl, q⟩
    | LtE =>
      cases d <;> cases f <;> simp only [cmpD] at e <;> (try cases e)
      obtain ⟨rfl, rfl⟩ := two rfl rfl
      exact op_le pins s σ H _ _ v u Q I rx ry ⟨_, _, rfl, rfl, q⟩
    | Gt =>
      cases d <;> cases f <;> simp only [cmpD] at e <;> (try cases e)
      obtain ⟨rfl, rfl⟩ := two rfl rfl
      exact op_gt pins s σ H _ _ v u Q I rx ry ⟨_, _, rfl, rfl, q⟩
    | GtE =>
      cases d <;> cases f <;> simp only [cmpD] at e <;> (try cases e)
      obtain ⟨rfl, rfl⟩ := two rfl rfl
      exact op_ge pins s σ H _ _ v u Q I rx ry ⟨_, _, rfl, rfl, q⟩
    | In =>
      simp only [cmpD] at e
      unfold inD at e
      split at e
      · obtain ⟨⟨s1, s2⟩, rfl⟩ := shp e
        exact op_inD hu pins s σ H _ _ v u Q I rx ry ⟨d, _, hx.dpS s1, hy.dpS s2, s1, s2, q⟩
      · obtain ⟨⟨s1, s2⟩, rfl⟩ := shp e
        obtain ⟨as, r1⟩ := Dp.reads I d x v (hx.dpS s1) rx
        obtain ⟨bs, r2⟩ := Dp.reads I _ y u (hy.dpS s2) ry
        exact SeqAt.in_tuple_reads r2 r1 (SeqAt.canLay_of_shaped s2) (SeqAt.canLay_of_shaped s1) (room_in_shaped s1 hu) ⟨.bl _, H, I, rfl, q⟩
      · obtain ⟨hk, rfl⟩ := shp e
        obtain ⟨a, rfl, hd⟩ := hy.dic
        cases ry
        exact din_any rfl hu I hd hx rx hk fun s' I' => ⟨.bl _, H, I', rfl, q⟩
      · split at e
        · cases e
          have hx := hx.str
          have hy := hy.str
          subst hx hy
          exact op_in_str pins s σ H _ _ v u Q I rx ry ⟨_, _, rfl, rfl, q⟩
        · cases e
      · cases e
    | NotIn =>
      obtain ⟨k', e', rfl⟩ := Option.map_eq_some_iff.mp e
      clear e
      have e := e'
      clear e'
      have shp : ∀ {p : Prop} [Decidable p] {z : Bool}, (if p then some z else none) = some k' → p ∧ z = k' := fun {p _ z} e => by
        split at e
        · exact ⟨by assumption, Option.some.inj e⟩
        · cases e
      unfold inD at e
      split at e
      · obtain ⟨⟨s1, s2⟩, rfl⟩ := shp e
        exact op_notInD hu pins s σ H _ _ v u Q I rx ry ⟨d, _, hx.dpS s1, hy.dpS s2, s1, s2, q⟩
      · obtain ⟨⟨s1, s2⟩, rfl⟩ := shp e
        obtain ⟨as, r1⟩ := Dp.reads I d x v (hx.dpS s1) rx
        obtain ⟨bs, r2⟩ := Dp.reads I _ y u (hy.dpS s2) ry
        exact SeqAt.notIn_tuple_reads r2 r1 (SeqAt.canLay_of_shaped s2) (SeqAt.canLay_of_shaped s1) (room_in_shaped s1 hu) ⟨.bl _, H, I, rfl, q⟩
      · obtain ⟨hk, rfl⟩ := shp e
        obtain ⟨a, rfl, hd⟩ := hy.dic
        cases ry
        exact dnotin_any rfl hu I hd hx rx hk fun s' I' => ⟨.bl _, H, I', rfl, q⟩
      · split at e
        · cases e
          have hx := hx.str
          have hy := hy.str
          subst hx hy
          exact op_notIn_str pins s σ H _ _ v u Q I rx ry ⟨_, _, rfl, rfl, q⟩
        · cases e
      · cases e
    | Is =>
      simp only [cmpD] at e
      unfold isD at e
      split at e
      · cases e
        have hx := hx.non
        have hy := hy.non
        subst hx hy
        exact op_isN pins s σ H _ _ v u Q I rx ry ⟨rfl, by simpa using q⟩
      · rename_i hn
        cases e
        have hn := Rp.isN hx (fun z => hn z)
        have hy := hy.non
        subst hy
        exact op_isN pins s σ H _ _ v u Q I rx ry ⟨rfl, by simpa [hn] using q⟩
      · cases e
        have hx := hx.bool
        have hy := hy.bool
        subst hx hy
        exact op_isBl pins s σ H _ _ v u Q I rx ry ⟨_, _, rfl, rfl, q⟩
      · cases e
    | IsNot =>
      obtain ⟨k', e', rfl⟩ := Option.map_eq_some_iff.mp e
      clear e
      have e := e'
      clear e'
      unfold isD at e
      split at e
      · cases e
        have hx := hx.non
        have hy := hy.non
        subst hx hy
        exact op_notN pins s σ H _ _ v u Q I rx ry ⟨rfl, by simpa using q⟩
      · rename_i hn
        cases e
        have hn := Rp.isN hx (fun z => hn z)
        have hy := hy.non
        subst hy
        exact op_notN pins s σ H _ _ v u Q I rx ry ⟨rfl, by simpa [hn] using q⟩
      · cases e
        have hx := hx.bool
        have hy := hy.bool
        subst hx hy
        exact op_notBl pins s σ H _ _ v u Q I rx ry ⟨_, _, rfl, rfl, q⟩
      · cases e
end
end E2

set_option Elab.async false
set_option linter.all false
set_option maxRecDepth 100000
set_option maxHeartbeats 1000000
namespace E2
variable [Tbs]
open PySem PySem.Spec PyProof.Rows L2
section
variable {K : Kw} {Fa Ca : Nat → Addr} {pr : List (Nat × Addr)} {W : WX} {r r1 r' : En} {σ : L2.St} {N N1 N' : NS} {H H1 H' : Hp} {v : V} {d : D} {a : Addr} {α β γ δ : Type} {X : Cx} {G : Gs} {pos : Pos}

/-! ### lists of results -/
def RRs (K : Kw) (Fa : Nat → Addr) (r : En) (σ : L2.St) (N : NS) (H : Hp) : List V → List R → Prop
  | [], [] => True
  | v :: vs, x :: xs => RR K Fa r σ N H v x ∧ RRs K Fa r σ N H vs xs
  | _, _ => False
theorem RRs.stp : ∀ {vs : List V} {xs : List R}, RRs K Fa r σ N H vs xs → Stp r σ N H r' N' H' → Good K Fa pr r σ N H → RRs K Fa r' σ N' H' vs xs
  | [], [], _, _, _ => trivial
  | v :: vs, x :: xs, h, s, g => ⟨h.1.stp s g, RRs.stp h.2 s g⟩
  | [], _ :: _, h, _, _ => h.elim
  | _ :: _, [], h, _, _ => h.elim
/-- the addresses of new lists among results -/
def frA : List V → List R → List Addr
  | .ref a :: vs, .val true _ :: xs => a :: frA vs xs
  | _ :: vs, _ :: xs => frA vs xs
  | _, _ => []
theorem Fsh.back {x : R} (h : Fsh r1 σ N1 v x) (s : Stp r σ N H r1 N1 H1) : Fsh r σ N v x := by
  cases x with
  | val o d =>
    cases o with
    | false => trivial
    | true =>
      intro a e n
      by_cases q : own r σ a
      · exact q
      · exact s.own a (h a e (s.ext.stay a n q))
  | sl i => trivial
  | fn k => trivial
/-- frozen: the slot's list is now held by others, too -/
theorem own_set_fro {i : Nat} {e : D} (b : Addr) (h : own (r.set i (some (.dat false e))) σ b) : own r σ b := by
  obtain ⟨j, d, h1, h2⟩ := h
  by_cases q : i = j
  · subst q
    rw [List.getElem?_set] at h1
    split at h1
    · split at h1
      · cases h1
      · cases h1
    · exact absurd rfl (by assumption)
  · rw [List.getElem?_set_ne q] at h1
    exact ⟨j, d, h1, h2⟩
/-- N without one address -/
def lessN (N : NS) (a : Addr) : NS := fun b => N b ∧ b ≠ a
theorem Rp.less (h : Rp K N H v d) (t : ∀ b, N b → Mut (H b)) : Rp K (lessN N a) H v d := h.keep (fun b o e n _ => ⟨e, fun z => n z.1⟩) t
theorem RpA.less {vs : List V} {ds : List D} (h : RpA K N H vs ds) (t : ∀ b, N b → Mut (H b)) : RpA K (lessN N a) H vs ds := h.keep (fun b o e n _ => ⟨e, fun z => n z.1⟩) t
theorem RpM.less {b : Addr} (h : RpM K N H b d) (t : ∀ b, N b → Mut (H b)) : RpM K (lessN N a) H b d := by
  cases d with
  | list ds =>
    obtain ⟨xs, h1, h2⟩ := h
    exact ⟨xs, h1, h2.less t⟩
  | dict ds =>
    rcases h with ⟨xs, h1, h2⟩ | ⟨o, xs, h1, h3, h2⟩
    · exact .inl ⟨xs, h1, h2.keep (fun b o e n _ => ⟨e, fun z => n z.1⟩) t⟩
    · exact .inr ⟨o, xs, h1, h3, h2.keep (fun b o e n _ => ⟨e, fun z => n z.1⟩) t⟩
  | _ => exact h
theorem RpM.frz (h : RpM K N H a d) (t : ∀ b, N b → Mut (H b)) : Rp K (lessN N a) H (.ref a) d := by
  cases d with
  | list ds =>
    obtain ⟨xs, h1, h2⟩ := h
    exact .lst (.inl ⟨.inl h1, fun z => z.2 rfl⟩) (h2.less t)
  | dict ds =>
    rcases h with ⟨xs, h1, h2⟩ | ⟨o, xs, h1, h3, h2⟩
    · exact .dk h1 (fun z => z.2 rfl) (h2.keep (fun b o e n _ => ⟨e, fun z => n z.1⟩) t)
    · exact .dt h1 (fun z => z.2 rfl) h3 (h2.keep (fun b o e n _ => ⟨e, fun z => n z.1⟩) t)
  | _ => exact h.elim
theorem getset_self {α : Type} {l : List α} {i : Nat} {x : α} (h : i < l.length) : (l.set i x)[i]? = some x := List.getElem?_set_self h
/-- slot i frozen: its address leaves N -/
theorem Good.freeze {i : Nat} {e : D} (g : Good K Fa pr r σ N H) (hi : r[i]? = some (some (.dat true e))) (hs : σ[i]? = some (some (.ref a))) :
    Good K Fa pr (r.set i (some (.dat false e))) σ (lessN N a) H ∧ Stp r σ N H (r.set i (some (.dat false e))) (lessN N a) H ∧ Rp K (lessN N a) H (.ref a) e := by
  obtain ⟨v0, hv0, a0, e0, n0, m0⟩ := g.slot i _ hi
  rw [hs] at hv0
  cases hv0
  cases e0
  have hlt : i < r.length := by
    rcases Nat.lt_or_ge i r.length with q | q
    · exact q
    · rw [List.getElem?_eq_none q] at hi; cases hi
  have fz := m0.frz g.trk
  refine ⟨⟨by rw [List.length_set]; exact g.len, fun j s ej => ?_, fun j k d f b h1 h2 h3 h4 => ?_, fun b h => g.trk b h.1, g.prs, g.tab.ext (fun _ _ e _ => e) (fun _ z => .inl z.1)⟩, ⟨⟨fun _ _ e _ _ => e, fun h => h.ext (fun _ _ e _ => e) (fun _ z => .inl z.1), fun b z => .inl z.1, fun b z n => ⟨z, fun q => n ?_⟩, g.ownN, fun _ z => z⟩, fun b h => own_set_fro b h, fun j h => ?_⟩, fz⟩
  · by_cases q : i = j
    · subst q
      rw [getset_self hlt] at ej
      cases ej
      exact ⟨_, hs, fz⟩
    · rw [List.getElem?_set_ne q] at ej
      obtain ⟨v, h1, h2⟩ := g.slot j _ ej
      refine ⟨v, h1, ?_⟩
      cases s with
      | dat o d =>
        cases o with
        | false => exact Rp.less h2 g.trk
        | true =>
          obtain ⟨b, h3, h4, h5⟩ := h2
          refine ⟨b, h3, ⟨h4, fun z => q ?_⟩, h5.less g.trk⟩
          subst z
          subst h3
          exact g.inj i j e d b hi ej hs h1
      | fn k => exact h2
      | exn x => trivial
  · have sub : ∀ {j : Nat} {d : D}, (r.set i (some (.dat false e)))[j]? = some (some (.dat true d)) → r[j]? = some (some (.dat true d)) := fun {j d} h => by
      by_cases q : i = j
      · subst q
        rw [getset_self hlt] at h
        cases h
      · rwa [List.getElem?_set_ne q] at h
    exact g.inj j k d f b (sub h1) (sub h2) h3 h4
  · subst q
    exact ⟨i, e, hi, hs⟩
  · obtain ⟨o, d, h⟩ := h
    by_cases q : i = j
    · subst q
      exact ⟨false, e, getset_self hlt⟩
    · exact ⟨o, d, by rw [List.getElem?_set_ne q]; exact h⟩
/-- not the same new list -/
def Apart (v : V) (x : R) (v' : V) (x' : R) : Prop := ∀ a d e, v = .ref a → x = .val true d → v' = .ref a → x' = .val true e → False
theorem RR.less {x : R} (h : RR K Fa r σ N H v x) (g : Good K Fa pr r σ N H) (na : ∀ d, v = .ref a → x = .val true d → False) : RR K Fa r σ (lessN N a) H v x := by
  cases x with
  | val o d =>
    cases o with
    | false => exact Rp.less h g.trk
    | true =>
      obtain ⟨b, h1, h2, h3, h4⟩ := h
      exact ⟨b, h1, ⟨h2, fun z => na d (z ▸ h1) rfl⟩, h3.less g.trk, h4⟩
  | sl i => exact h
  | fn k => exact h
/-- kept for good -/
theorem RR.take {x : R} {dr : D × En} {r0 : En} {N0 : NS} {H0 : Hp} (g0 : Good K Fa pr r0 σ N0 H0) (s : Stp r0 σ N0 H0 r N H) (h : RR K Fa r σ N H v x) (fs : Fsh r0 σ N0 v x) (g : Good K Fa pr r σ N H) (e : E2.take r x = some dr) :
    ∃ N', Good K Fa pr dr.2 σ N' H ∧ Stp r0 σ N0 H0 dr.2 N' H ∧ Rp K N' H v dr.1 ∧ (∀ v d, Rp K N H v d → Rp K N' H v d) ∧ ∀ v' x', RR K Fa r σ N H v' x' → Apart v x v' x' → RR K Fa dr.2 σ N' H v' x' := by
  cases x with
  | val o d =>
    cases e
    cases o with
    | false => exact ⟨N, g, s, h, fun _ _ h => h, fun _ _ h _ => h⟩
    | true =>
      obtain ⟨a, rfl, h2, h3, h4⟩ := h
      refine ⟨lessN N a, ⟨g.len, fun i s ei => ?_, g.inj, fun b h => g.trk b h.1, g.prs, g.tab.ext (fun _ _ e _ => e) (fun _ z => .inl z.1)⟩, ⟨⟨s.ext.keep, fun h => (s.ext.tab h).ext (fun _ _ e _ => e) (fun _ z => .inl z.1), fun b z => s.ext.new b z.1, fun b z n => ⟨s.ext.stay b z n, fun q => n (q ▸ fs a rfl (q ▸ z))⟩, s.ext.sub, s.ext.there⟩, s.own, s.dat⟩, h3.frz g.trk, fun _ _ h => h.less g.trk,
        fun v' x' h' ap => h'.less g fun e e1 e2 => ap a d e rfl rfl e1 e2⟩
      obtain ⟨v, h5, h6⟩ := g.slot i _ ei
      refine ⟨v, h5, ?_⟩
      cases s with
      | dat o d =>
        cases o with
        | false => exact Rp.less h6 g.trk
        | true =>
          obtain ⟨b, h7, h8, h9⟩ := h6
          refine ⟨b, h7, ⟨h8, fun z => h4 ?_⟩, h9.less g.trk⟩
          subst z
          subst h7
          exact ⟨i, d, ei, h5⟩
      | fn k => exact h6
      | exn x => trivial
  | sl i =>
    obtain ⟨h1, o, d, h2⟩ := h
    simp only [E2.take, h2] at e
    cases e
    cases o with
    | true =>
      obtain ⟨v0, h3, a, rfl, h4, h5⟩ := g.slot i _ h2
      rw [h1] at h3
      cases h3
      obtain ⟨g1, s1, q⟩ := g.freeze h2 h1
      exact ⟨_, g1, s.trans g0 s1, q, fun _ _ h => h.ext s1.ext g.trk, fun _ _ h _ => h.stp s1 g⟩
    | false =>
      obtain ⟨v0, h3, h4⟩ := g.slot i _ h2
      rw [h1] at h3
      cases h3
      have e : r.set i (some (.dat false d)) = r := by
        apply List.ext_getElem?
        intro j
        rw [List.getElem?_set]
        split
        · rename_i q
          subst q
          split
          · exact h2.symm
          · rename_i q
            rw [List.getElem?_eq_none (Nat.le_of_not_lt q)] at h2
            cases h2
        · rfl
      rw [e]
      exact ⟨N, g, s, h4, fun _ _ h => h, fun _ _ h _ => h⟩
  | fn k => cases e
theorem RRs.of_less : ∀ {vs : List V} {xs : List R} (f : ∀ v x, RR K Fa r σ N H v x → (∀ a d, v = .ref a → x = .val true d → a ∈ frA vs xs) → RR K Fa r' σ N' H' v x), RRs K Fa r σ N H vs xs → RRs K Fa r' σ N' H' vs xs
  | [], [], _, _ => trivial
  | v :: vs, x :: xs, f, h => ⟨f v x h.1 fun a d e1 e2 => by subst e1 e2; simp [frA], RRs.of_less (fun w y hw hm => f w y hw fun a d e1 e2 => by
      have q := hm a d e1 e2
      unfold frA
      split
      · rename_i e1 e2; cases e1; cases e2; exact List.mem_cons_of_mem _ q
      · rename_i e1 e2; cases e1; cases e2; exact q
      · rename_i n; exact (n v vs x xs rfl rfl).elim) h.2⟩
  | [], _ :: _, _, h => h.elim
  | _ :: _, [], _, h => h.elim
theorem takes_ok {r0 : En} {N0 : NS} {H0 : Hp} (g0 : Good K Fa pr r0 σ N0 H0) : ∀ {xs : List R} {vs : List V} {r : En} {N : NS} {dr : List D × En}, Stp r0 σ N0 H0 r N H → RRs K Fa r σ N H vs xs → (frA vs xs).Nodup → (∀ a ∈ frA vs xs, N0 a → own r0 σ a) → Good K Fa pr r σ N H →
    takes r xs = some dr → ∃ N', Good K Fa pr dr.2 σ N' H ∧ Stp r0 σ N0 H0 dr.2 N' H ∧ RpA K N' H vs dr.1 ∧ ∀ v d, Rp K N H v d → Rp K N' H v d
  | [], vs, r, N, dr, s, h, _, _, g, e => by
    cases e
    cases vs with
    | nil => exact ⟨N, g, s, .nil, fun _ _ h => h⟩
    | cons _ _ => exact h.elim
  | x :: xs, [], r, N, dr, s, h, _, _, g, e => h.elim
  | x :: xs, v :: vs, r, N, dr, s, h, nd, fs, g, e => by
    simp only [takes] at e
    split at e
    · rename_i d r1 e1
      have fr : ∀ a d', v = .ref a → x = .val true d' → frA (v :: vs) (x :: xs) = a :: frA vs xs := fun a d' q1 q2 => by subst q1 q2; rfl
      have sub : ∀ a ∈ frA vs xs, a ∈ frA (v :: vs) (x :: xs) := fun a q => by
        unfold frA
        split
        · rename_i e1 e2; cases e1; cases e2; exact List.mem_cons_of_mem _ q
        · rename_i e1 e2; cases e1; cases e2; exact q
        · rename_i n; exact (n v vs x xs rfl rfl).elim
      have nd' : (frA vs xs).Nodup := by
        unfold frA at nd
        split at nd
        · rename_i e1 e2; cases e1; cases e2; exact (List.nodup_cons.mp nd).2
        · rename_i e1 e2; cases e1; cases e2; exact nd
        · rename_i n; exact (n v vs x xs rfl rfl).elim
      obtain ⟨N1, g1, s1, q1, k1, k2⟩ := RR.take g0 s h.1 (by
        cases x with
        | val o d' =>
          cases o with
          | false => trivial
          | true => exact fun a q n => fs a (by rw [fr a d' q rfl]; exact List.mem_cons_self) n
        | sl i => trivial
        | fn k => trivial) g e1
      have h2 : RRs K Fa r1 σ N1 H vs xs := RRs.of_less (fun w y hw hm => k2 w y hw fun a d' e' p1 p2 p3 p4 => by
        rw [fr a d' p1 p2] at nd
        exact (List.nodup_cons.mp nd).1 (hm a e' p3 p4)) h.2
      split at e
      · rename_i ds r2 e2
        cases e
        obtain ⟨N2, g2, s2, q2, k3⟩ := takes_ok g0 (dr := (ds, r2)) s1 h2 nd' (fun a q => fs a (sub a q)) g1 e2
        exact ⟨N2, g2, s2, .cons (k3 _ _ q1) q2, fun v d h => k3 _ _ (k1 _ _ h)⟩
      · cases e
    · cases e
end
end E2

set_option Elab.async false
set_option linter.all false
set_option maxRecDepth 100000
set_option maxHeartbeats 1000000
namespace E2
variable [Tbs]
open PySem PySem.Spec PyProof.Rows L2
section
variable (K : Kw) (Fa Ca : Nat → Addr) (pr : List (Nat × Addr)) (W : WX)
def relL : Rel (List R) (List V) := fun y r0 N0 r σ N H v => RRs K Fa r σ N H v y ∧ (∀ a ∈ frA v y, N0 a → own r0 σ a) ∧ (frA v y).Nodup
abbrev tL (f : En → Rs (List R)) : TA := tG K Fa Ca pr W (relL K Fa) f
end
section
variable {K : Kw} {Fa Ca : Nat → Addr} {pr : List (Nat × Addr)} {W : WX} {r r1 r' : En} {σ : L2.St} {N N1 N' : NS} {H H1 H' : Hp} {v : V} {d : D} {a : Addr} {α β γ δ : Type} {X : Cx} {G : Gs} {pos : Pos}

/-! ### argument lists -/
/-- no star -/
def plainX : Expr → Bool
  | .Starred _ _ => false
  | _ => true
theorem star_cons {e : Expr} {es : List Expr} {env : Env} (h : plainX e = true) : starEach (e :: es) env = (false, eval e env) :: starEach es env := by
  cases e <;> first | rfl | cases h
theorem star_plain {env : Env} : ∀ {es : List Expr}, es.all plainX = true → (starEach es env).all (fun x => !x.1) = true
  | [], _ => rfl
  | e :: es, h => by
    simp only [List.all_cons, Bool.and_eq_true] at h
    rw [star_cons h.1, List.all_cons, star_plain h.2]
    rfl
theorem back_any {env : Env} {es : List Expr} (h : es.all plainX = true) : (backTo pos (starEach es env)).any (·.1) = false := by
  have q := star_plain (env := env) h
  unfold backTo
  rw [List.any_map]
  rw [List.all_eq_true] at q
  rw [Bool.eq_false_iff]
  intro z
  rw [List.any_eq_true] at z
  obtain ⟨x, h1, h2⟩ := z
  have := q x h1
  simp only [Function.comp] at h2
  rw [h2] at this
  cases this
theorem star_len {env : Env} : ∀ {es : List Expr}, es.all plainX = true → (starEach es env).length = es.length
  | [], _ => rfl
  | e :: es, h => by
    simp only [List.all_cons, Bool.and_eq_true] at h
    rw [star_cons h.1, List.length_cons, star_len h.2]
    rfl
theorem back_few {env : Env} {es : List Expr} (h : es.all plainX = true) (hl : es.length < 30) :
    ((backTo pos (starEach es env)).all (fun x => !x.1) && (backToKw pos (keywordEach [] env)).all (fun x => x.1.isSome) && decide (es.length + ([] : List Keyword).length + (if ([] : List Keyword).isEmpty then 0 else 1) < 30)) = true := by
  have e1 : (backTo pos (starEach es env)).all (fun x => !x.1) = true := by
    have q := star_plain (env := env) h
    unfold backTo
    rw [List.all_map]
    rw [List.all_eq_true] at q ⊢
    exact fun x hx => q x hx
  rw [e1]
  simp [backToKw, keywordEach, hl]
theorem fe_nil : PA X [] (tL K Fa Ca pr W (evEs G .nil)) :=
  PA.imp pa_nil fun σ H Q ⟨r, N, g, h⟩ => by
    simp only [evEs] at h
    exact h [] H N (Stp.refl g) g ⟨trivial, fun a z => absurd z (by simp [frA]), by simp [frA]⟩
theorem relL_nil : relL K Fa [] r N r1 σ N1 H1 [] := ⟨trivial, fun a z => absurd z (by simp [frA]), by simp [frA]⟩
theorem relL_cons {y : R} {ys : List R} {vs : List V} {r2 : En} {N2 : NS} {H2 : Hp} (s1 : Stp r σ N H r1 N1 H1) (g1 : Good K Fa pr r1 σ N1 H1) (q1 : RR K Fa r1 σ N1 H1 v y) (f1 : Fsh r σ N v y) (t2 : Stp r1 σ N1 H1 r2 N2 H2) (h : relL K Fa ys r1 N1 r2 σ N2 H2 vs) : relL K Fa (y :: ys) r N r2 σ N2 H2 (v :: vs) := by
  obtain ⟨q2, f2, n2⟩ := h
  refine ⟨⟨q1.stp t2 g1, q2⟩, fun a ha n => ?_, ?_⟩
  · unfold frA at ha
    split at ha
    · rename_i b vs' d xs' e1 e2
      cases e1
      cases e2
      rcases List.mem_cons.mp ha with e | ha
      · subst e
        exact f1 _ rfl n
      · by_cases z : own r σ a
        · exact z
        · exact s1.own a (f2 a ha (s1.ext.stay a n z))
    · rename_i e1 e2
      cases e1
      cases e2
      by_cases z : own r σ a
      · exact z
      · exact s1.own a (f2 a ha (s1.ext.stay a n z))
    · cases ha
  · unfold frA
    split
    · rename_i b vs' d xs' e1 e2
      cases e1
      cases e2
      refine List.nodup_cons.mpr ⟨fun z => ?_, n2⟩
      obtain ⟨a, h1, h2, h3, h4⟩ := q1
      cases h1
      exact h4 (f2 _ z h2)
    · rename_i e1 e2
      cases e1
      cases e2
      exact n2
    · exact List.nodup_nil

theorem fe_cons {c : CE} {cs : CEs} {e : Expr} {es : List Expr} (hp : plainX e = true) (h1 : PE X e (tE K Fa Ca pr W (evE G c))) (h2 : PA X es (tL K Fa Ca pr W (evEs G cs))) : PA X (e :: es) (tL K Fa Ca pr W (evEs G (.cons c cs))) := by
  refine PA.imp (pa_cons h1 h2 (star_cons hp)) fun σ H Q ⟨r, N, g, h⟩ => ?_
  simp only [evEs] at h
  refine tG_mono (tG_bind (rel := relE K Fa) g (Stp.refl g) g h) fun v H1 ⟨y, r1, N1, t1, s1, g1, ⟨q1, f1⟩, p1⟩ => ?_
  exact tG_mono (tG_bind (rel := relL K Fa) g s1 g1 p1) fun vs H2 ⟨ys, r2, N2, t2, s2, g2, q2, p2⟩ => p2 (v :: vs) H2 N2 s2 g2 (relL_cons s1 g1 q1 f1 t2 q2)

/-! ### displays -/
theorem fe_tup {cs : CEs} {es : List Expr} {k : Nat} (h1 : PA X es (tL K Fa Ca pr W (evEs G cs))) : PE X (.Tuple es k pos) (tE K Fa Ca pr W (evE G (.tup cs))) := by
  refine PE.imp (pe_tupF h1) fun σ H Q ⟨r, N, g, h⟩ => ?_
  simp only [evE] at h
  refine tG_mono (tG_bind (rel := relL K Fa) g (Stp.refl g) g h) fun vs H1 ⟨ys, r1, N1, t1, s1, g1, ⟨q1, f1, n1⟩, p1⟩ => ?_
  cases e : takes r1 ys with
  | none => simp only [e] at p1; exact p1.elim
  | some dr =>
    obtain ⟨ds, r2⟩ := dr
    simp only [e] at p1
    obtain ⟨N2, g2, s2, q2, _⟩ := takes_ok g (dr := (ds, r2)) s1 q1 n1 f1 g1 e
    split at p1
    · exact ⟨by rw [q2.length]; assumption, fun p ob hp oc od => p1.newT g s2 g2 hp oc od q2⟩
    · exact p1.elim
theorem fe_lst {cs : CEs} {es : List Expr} (h1 : PA X es (tL K Fa Ca pr W (evEs G cs))) : PE X (.List es pos) (tE K Fa Ca pr W (evE G (.lst cs))) := by
  refine PE.imp (pe_lst h1) fun σ H Q ⟨r, N, g, h⟩ => ?_
  simp only [evE] at h
  refine tG_mono (tG_bind (rel := relL K Fa) g (Stp.refl g) g h) fun vs H1 ⟨ys, r1, N1, t1, s1, g1, ⟨q1, f1, n1⟩, p1⟩ => ?_
  cases e : takes r1 ys with
  | none => simp only [e] at p1; exact p1.elim
  | some dr =>
    obtain ⟨ds, r2⟩ := dr
    simp only [e] at p1
    obtain ⟨N2, g2, s2, q2, _⟩ := takes_ok g (dr := (ds, r2)) s1 q1 n1 f1 g1 e
    split at p1
    · exact ⟨by rw [q2.length]; assumption, fun p hp => p1.newL g s2 g2 hp q2⟩
    · exact p1.elim
theorem fe_dic0 : PE X (.Dict [] [] pos) (tE K Fa Ca pr W (evE G .dic0)) := by
  refine PE.imp pe_dnewK fun σ H Q ⟨r, N, g, h⟩ => fun p hp => ?_
  simp only [evE] at h
  exact h.newM g (Stp.refl g) g hp trivial fun N' E => .inl ⟨[], upd_same, .nil⟩

/-! ### truth -/
theorem truV {k : Bool} (h : DR K N H v d) (e : truD d = some k) : TruV K.fr v H k := by
  cases d with
  | none => rw [h.non]; cases e; rfl
  | bool b => rw [h.bool]; cases e; rfl
  | int b => rw [h.int]; cases e; rfl
  | str y =>
    rw [h.str]
    simp only [truD] at e
    split at e
    · cases e; exact ⟨by assumption, rfl⟩
    · cases e
  | list xs =>
    obtain ⟨a, ys, rfl, h1, h2⟩ := h.lst
    cases e
    exact .inl ⟨ys, h1, by cases h2 <;> rfl⟩
  | tuple xs =>
    obtain ⟨a, ys, rfl, h1, h2⟩ := h.tup
    cases e
    exact .inr (.inl ⟨ys, h1.sq, by cases h2 <;> rfl⟩)
  | dict xs => cases e
theorem bindTru {x : R} {k : Bool} (h : RR K Fa r σ N H v x) (g : Good K Fa pr r σ N H) (e : (dref r x).bind truD = some k) : TruV K.fr v H k := by
  obtain ⟨d, e1, e2⟩ := Option.bind_eq_some_iff.mp e
  exact truV (h.look g e1) e2
/-- the whole began earlier -/
def Bk (rel : Rel α β) : Prop := ∀ (σ : L2.St) (r0 : En) (N0 : NS) (H0 : Hp) (r1 : En) (N1 : NS) (H1 : Hp) (y : α) (r' : En) (N' : NS) (H' : Hp) (v : β), Stp r0 σ N0 H0 r1 N1 H1 → rel y r1 N1 r' σ N' H' v → rel y r0 N0 r' σ N' H' v
theorem bk_E : Bk (relE K Fa) := fun _ _ _ _ _ _ _ _ _ _ _ _ s h => ⟨h.1, h.2.back s⟩
theorem bk_B : Bk relB := fun _ _ _ _ _ _ _ _ _ _ _ _ s h => h
theorem bk_O : Bk relO := fun _ _ _ _ _ _ _ _ _ _ _ _ s h => h
theorem bk_L : Bk (relL K Fa) := fun σ r0 N0 H0 r1 N1 H1 _ _ _ _ _ s h => ⟨h.1, fun a ha n => by
  by_cases z : own r0 σ a
  · exact z
  · exact s.own a (h.2.1 a ha (s.ext.stay a n z)), h.2.2⟩
theorem PostG.sub {rel : Rel α β} (bk : Bk rel) {Q : β → Hp → Prop} {x : Rs α} (g : Good K Fa pr r σ N H) (s : Stp r σ N H r1 N1 H1) (h : PostG K Fa Ca pr W rel r σ N H Q x) : PostG K Fa Ca pr W rel r1 σ N1 H1 Q x := by
  cases x with
  | ok y r' => exact fun v H' N' s' g' q => h v H' N' (s.trans g s') g' (bk _ _ _ _ _ _ _ _ _ _ _ _ s q)
  | exc x r' => exact fun c d H' N' s' g' q => h c d H' N' (s.trans g s') g' q
  | stuck => exact h
theorem fe_and {c1 c2 : CE} {e b : Expr} {rest : List Expr} (hK : X.kw = K) (h1 : PE X e (tE K Fa Ca pr W (evE G c1))) (h2 : PE X (.BoolOp .And (b :: rest) pos) (tE K Fa Ca pr W (evE G c2))) : PE X (.BoolOp .And (e :: b :: rest) pos) (tE K Fa Ca pr W (evE G (.and c1 c2))) := by
  subst hK
  refine PE.imp (pe_andT h1 h2) fun σ H Q ⟨r, N, g, h⟩ => ?_
  simp only [evE] at h
  show tE X.kw Fa Ca pr W (evE G c1) σ H _
  refine tG_mono (tG_bind (rel := relE X.kw Fa) g (Stp.refl g) g h) fun v H1 ⟨y, r1, N1, t1, s1, g1, ⟨q1, f1⟩, p1⟩ => ?_
  cases e : (dref r1 y).bind truD with
  | none => simp only [e] at p1; exact p1.elim
  | some k =>
    refine ⟨k, bindTru q1 g1 e, ?_⟩
    cases k with
    | true =>
      simp only [e] at p1
      rw [if_pos rfl]
      exact ⟨r1, N1, g1, PostG.sub bk_E g s1 p1⟩
    | false =>
      simp only [e] at p1
      rw [if_neg Bool.false_ne_true]
      exact p1 v H1 N1 s1 g1 ⟨q1, f1⟩
theorem fe_or {c1 c2 : CE} {e b : Expr} {rest : List Expr} (hK : X.kw = K) (h1 : PE X e (tE K Fa Ca pr W (evE G c1))) (h2 : PE X (.BoolOp .Or (b :: rest) pos) (tE K Fa Ca pr W (evE G c2))) : PE X (.BoolOp .Or (e :: b :: rest) pos) (tE K Fa Ca pr W (evE G (.or c1 c2))) := by
  subst hK
  refine PE.imp (pe_orT h1 h2) fun σ H Q ⟨r, N, g, h⟩ => ?_
  simp only [evE] at h
  show tE X.kw Fa Ca pr W (evE G c1) σ H _
  refine tG_mono (tG_bind (rel := relE X.kw Fa) g (Stp.refl g) g h) fun v H1 ⟨y, r1, N1, t1, s1, g1, ⟨q1, f1⟩, p1⟩ => ?_
  cases e : (dref r1 y).bind truD with
  | none => simp only [e] at p1; exact p1.elim
  | some k =>
    refine ⟨k, bindTru q1 g1 e, ?_⟩
    cases k with
    | false =>
      simp only [e] at p1
      rw [if_neg Bool.false_ne_true]
      exact ⟨r1, N1, g1, PostG.sub bk_E g s1 p1⟩
    | true =>
      simp only [e] at p1
      rw [if_pos rfl]
      exact p1 v H1 N1 s1 g1 ⟨q1, f1⟩
theorem fe_not {c1 : CE} {e : Expr} (hK : X.kw = K) (h1 : PE X e (tE K Fa Ca pr W (evE G c1))) : PE X (.UnaryOp .Not e pos) (tE K Fa Ca pr W (evE G (.not c1))) := by
  subst hK
  refine PE.imp (pe_notT h1) fun σ H Q ⟨r, N, g, h⟩ => ?_
  simp only [evE] at h
  show tE X.kw Fa Ca pr W (evE G c1) σ H _
  refine tG_mono (tG_bind (rel := relE X.kw Fa) g (Stp.refl g) g h) fun v H1 ⟨y, r1, N1, t1, s1, g1, ⟨q1, f1⟩, p1⟩ => ?_
  cases e : (dref r1 y).bind truD with
  | none => simp only [e] at p1; exact p1.elim
  | some k =>
    simp only [e] at p1
    exact ⟨k, bindTru q1 g1 e, p1.val s1 g1 (.bl _)⟩

/-! ### tests -/
theorem fp_and {c1 c2 : CT} {e b : Expr} {rest : List Expr} (h1 : PT X e (tB K Fa Ca pr W (evT G c1))) (h2 : PW X (.BoolOp .And (b :: rest) pos) (tB K Fa Ca pr W (evT G c2))) : PW X (.BoolOp .And (e :: b :: rest) pos) (tB K Fa Ca pr W (evT G (.and c1 c2))) := by
  refine PW.imp (pw_and h1 h2) fun σ H Q ⟨r, N, g, h⟩ => ?_
  simp only [evT] at h
  refine tG_mono (tG_bind (rel := relB) g (Stp.refl g) g h) fun v H1 ⟨y, r1, N1, t1, s1, g1, q1, p1⟩ => ?_
  cases (show v = y from q1)
  cases v with
  | true => rw [if_pos rfl]; exact ⟨r1, N1, g1, PostG.sub bk_B g s1 p1⟩
  | false => rw [if_neg Bool.false_ne_true]; exact p1 false H1 N1 s1 g1 rfl
theorem fp_or {c1 c2 : CT} {e b : Expr} {rest : List Expr} (h1 : PT X e (tB K Fa Ca pr W (evT G c1))) (h2 : PW X (.BoolOp .Or (b :: rest) pos) (tB K Fa Ca pr W (evT G c2))) : PW X (.BoolOp .Or (e :: b :: rest) pos) (tB K Fa Ca pr W (evT G (.or c1 c2))) := by
  refine PW.imp (pw_or h1 h2) fun σ H Q ⟨r, N, g, h⟩ => ?_
  simp only [evT] at h
  refine tG_mono (tG_bind (rel := relB) g (Stp.refl g) g h) fun v H1 ⟨y, r1, N1, t1, s1, g1, q1, p1⟩ => ?_
  cases (show v = y from q1)
  cases v with
  | false => rw [if_neg Bool.false_ne_true]; exact ⟨r1, N1, g1, PostG.sub bk_B g s1 p1⟩
  | true => rw [if_pos rfl]; exact p1 true H1 N1 s1 g1 rfl
theorem fp_not {c1 : CT} {e : Expr} (h1 : PT X e (tB K Fa Ca pr W (evT G c1))) : PT X (.UnaryOp .Not e pos) (tB K Fa Ca pr W (evT G (.not c1))) := by
  refine PT.imp (pt_not h1) fun σ H Q ⟨r, N, g, h⟩ => ?_
  simp only [evT] at h
  refine tG_mono (tG_bind (rel := relB) g (Stp.refl g) g h) fun v H1 ⟨y, r1, N1, t1, s1, g1, q1, p1⟩ => ?_
  cases (show v = y from q1)
  exact p1 _ H1 N1 s1 g1 rfl
/-- what is a test by its truth alone -/
def plainT : Expr → Bool
  | .UnaryOp .Not _ _ => false
  | .BoolOp _ _ _ => false
  | .IfExp _ _ _ _ => false
  | .Compare _ _ _ _ => false
  | _ => true
theorem isTrue_plainT {e : Expr} {env : Env} (h : plainT e = true) : ∀ whole, isTrue e env whole = (do let v ← whole; standAt e.pos; holding [v] (truthy v)) := by
  intro whole
  cases e with
  | UnaryOp op a pos => cases op <;> first | rfl | cases h
  | BoolOp => cases h
  | IfExp => cases h
  | Compare => cases h
  | _ => rfl
theorem fp_ex {c1 : CE} {e : Expr} (hK : X.kw = K) (hp : plainT e = true) (h1 : PE X e (tE K Fa Ca pr W (evE G c1))) : PT X e (tB K Fa Ca pr W (evT G (.ex c1))) := by
  subst hK
  refine PT.imp (pt_truth h1 (isTrue_plainT hp)) fun σ H Q ⟨r, N, g, h⟩ => ?_
  simp only [evT] at h
  show tE X.kw Fa Ca pr W (evE G c1) σ H _
  refine tG_mono (tG_bind (rel := relE X.kw Fa) g (Stp.refl g) g h) fun v H1 ⟨y, r1, N1, t1, s1, g1, ⟨q1, f1⟩, p1⟩ => ?_
  cases e : (dref r1 y).bind truD with
  | none => simp only [e] at p1; exact p1.elim
  | some k =>
    simp only [e] at p1
    exact ⟨k, bindTru q1 g1 e, p1 k H1 N1 s1 g1 rfl⟩

/-! ### operators -/
theorem fe_bin {op : Operator} {c1 c2 : CE} {a b : Expr} (hK : X.kw = K) (h1 : PE X a (tE K Fa Ca pr W (evE G c1))) (h2 : PE X b (tE K Fa Ca pr W (evE G c2))) : PE X (.BinOp a op b pos) (tE K Fa Ca pr W (evE G (.bin op c1 c2))) :=
  fe_bin2 (A := c1) (B := c2) (k := kBin op) (fun r => by simp only [evE] <;> rfl) (pe_op (op_bin hK op) h1 h2)
theorem fe_cmp {op : CmpOp} {c1 c2 : CE} {a b : Expr} (hK : X.kw = K) (hu : X.A.units + 65 < cLine) (hm : behindInMarks op b = false) (h1 : PE X a (tE K Fa Ca pr W (evE G c1))) (h2 : PE X b (tE K Fa Ca pr W (evE G c2))) : PE X (.Compare a [op] [b] pos) (tE K Fa Ca pr W (evE G (.cmp op c1 c2))) := by
  refine fe_bin2 (A := c1) (B := c2) (k := fun d f r => match cmpD op d f with
    | some k => .ok (.val false (.bool k)) r
    | none => .stuck) (fun r => by simp only [evE] <;> rfl) (PE.imp (pe_cmpR (op_cmpE hK hu op) h1 h2 hm) fun σ H Q h => ?_)
  refine tG_mono h fun x H1 h => tG_mono h fun y H2 ⟨r0, σ', N0, H0, r, N, d, f, g0, sp, g, hx, hy, h⟩ => ?_
  cases e : cmpD op d f with
  | none => simp only [e] at h; exact h.elim
  | some k =>
    simp only [e] at h
    exact ⟨N, d, f, k, hx, hy, e, h.val sp g (.bl k)⟩
theorem ft_cmp {op : CmpOp} {c1 c2 : CE} {a b : Expr} (hK : X.kw = K) (hu : X.A.units + 65 < cLine) (hm : behindInMarks op b = false) (h1 : PE X a (tE K Fa Ca pr W (evE G c1))) (h2 : PE X b (tE K Fa Ca pr W (evE G c2))) : PT X (.Compare a [op] [b] pos) (tB K Fa Ca pr W (evT G (.ex (.cmp op c1 c2)))) := by
  refine PT.imp (pt_cmpR (op_cmpE hK hu op) h1 h2 hm) fun σ H Q ⟨r, N, g, h⟩ => ?_
  simp only [evT, evE] at h
  have e3 : ∀ {α β γ : Type} (x : Rs α) (f : α → En → Rs β) (k : β → En → Rs γ), (x.bind f).bind k = x.bind fun a r => (f a r).bind k := fun x f k => by cases x <;> rfl
  rw [e3] at h
  show tE K Fa Ca pr W (evE G c1) σ H _
  refine tG_mono (tG_bind (rel := relE K Fa) g (Stp.refl g) g h) fun v H1 ⟨y, r1, N1, _, s1, g1, q1, p1⟩ => ?_
  rw [e3] at p1
  refine tG_mono (tG_bind (rel := relE K Fa) g s1 g1 p1) fun v2 H2 ⟨y2, r2, N2, t2, s2, g2, q2, p2⟩ => ?_
  have q1' := RR.stp q1.1 t2 g1
  cases e1 : dref r2 y with
  | none => simp only [e1] at p2; exact p2.elim
  | some d1 =>
    cases e2 : dref r2 y2 with
    | none => simp only [e1, e2] at p2; exact p2.elim
    | some d2 =>
      cases e : cmpD op d1 d2 with
      | none => simp only [e1, e2, e] at p2; exact p2.elim
      | some k =>
        simp only [e1, e2, e] at p2
        exact ⟨N2, d1, d2, k, RR.look q1' g2 e1, RR.look q2.1 g2 e2, e, k, rfl, p2 k H2 N2 s2 g2 rfl⟩
theorem fe_neg {c1 : CE} {a : Expr} (h1 : PE X a (tE K Fa Ca pr W (evE G c1))) : PE X (.UnaryOp .USub a pos) (tE K Fa Ca pr W (evE G (.neg c1))) := by
  refine PE.imp (pe_un un_neg h1) fun σ H Q ⟨r, N, g, h⟩ => ?_
  simp only [evE] at h
  show tE K Fa Ca pr W (evE G c1) σ H _
  refine tG_mono (tG_bind (rel := relE K Fa) g (Stp.refl g) g h) fun v H1 ⟨y, r1, N1, t1, s1, g1, ⟨q1, f1⟩, p1⟩ => ?_
  split at p1
  · rename_i o i
    have hv : v = .int i := by
      cases o with
      | false => cases q1; rfl
      | true => obtain ⟨_, _, _, z, _⟩ := q1; exact z.elim
    exact ⟨i, hv, p1.val s1 g1 (.int _)⟩
  · exact p1.elim
theorem rep_fin {y y2 : R} {r0 : En} {N0 : NS} {H0 : Hp} {Q : VK} (p : PostG K Fa Ca pr W (relE K Fa) r0 σ N0 H0 Q (match y, y2 with
    | .val true (.list xs), .val false (.int k) => if k < 2 ^ 63 ∧ -(2 ^ 63) ≤ k ∧ xs.length * k.toNat ≤ sizeLine then .ok (.val true (.list (List.replicate k.toNat xs).flatten)) r else .stuck
    | _, _ => .stuck)) : ∃ xs k, y = .val true (.list xs) ∧ y2 = .val false (.int k) ∧ (k < 2 ^ 63 ∧ -(2 ^ 63) ≤ k ∧ xs.length * k.toNat ≤ sizeLine) ∧ PostG K Fa Ca pr W (relE K Fa) r0 σ N0 H0 Q (.ok (.val true (.list (List.replicate k.toNat xs).flatten)) r) := by
  split at p
  · split at p
    · exact ⟨_, _, rfl, rfl, by assumption, p⟩
    · exact p.elim
  · exact p.elim
theorem fe_rep {c1 c2 : CE} {a b : Expr} (h1 : PE X a (tE K Fa Ca pr W (evE G c1))) (h2 : PE X b (tE K Fa Ca pr W (evE G c2))) : PE X (.BinOp a .Mult b pos) (tE K Fa Ca pr W (evE G (.rep c1 c2))) := by
  refine PE.imp (pe_op op_rep h1 h2) fun σ H Q ⟨r, N, g, h⟩ => ?_
  simp only [evE] at h
  show tE K Fa Ca pr W (evE G c1) σ H _
  refine tG_mono (tG_bind (rel := relE K Fa) g (Stp.refl g) g h) fun v H1 ⟨y, r1, N1, _, s1, g1, q1, p1⟩ => ?_
  refine tG_mono (tG_bind (rel := relE K Fa) g s1 g1 p1) fun v2 H2 ⟨y2, r2, N2, t2, s2, g2, q2, p2⟩ => ?_
  have q1' := RR.stp q1.1 t2 g1
  obtain ⟨xs, k, rfl, rfl, hk, p2⟩ := rep_fin p2
  obtain ⟨a, rfl, h3, ⟨ys, h4, h5⟩, h6⟩ := q1'
  have hv : v2 = .int k := by have := q2.1; cases this; rfl
  exact ⟨a, k, ys, rfl, hv, h4, hk.2.1, hk.1, by rw [h5.length]; exact hk.2.2, fun p hp => p2.newL g s2 g2 hp (h5.rep _)⟩
theorem fe_ife {ct : CT} {c1 c2 : CE} {c a b : Expr} (hc : PT X c (tB K Fa Ca pr W (evT G ct))) (h1 : PE X a (tE K Fa Ca pr W (evE G c1))) (h2 : PE X b (tE K Fa Ca pr W (evE G c2))) : PE X (.IfExp c a b pos) (tE K Fa Ca pr W (evE G (.ife ct c1 c2))) := by
  refine PE.imp (pe_ifExp hc h1 h2) fun σ H Q ⟨r, N, g, h⟩ => ?_
  simp only [evE] at h
  show tB K Fa Ca pr W (evT G ct) σ H _
  refine tG_mono (tG_bind (rel := relB) g (Stp.refl g) g h) fun v H1 ⟨y, r1, N1, t1, s1, g1, q1, p1⟩ => ?_
  cases (show v = y from q1)
  cases v with
  | true => rw [if_pos rfl]; exact ⟨r1, N1, g1, PostG.sub bk_E g s1 p1⟩
  | false => rw [if_neg Bool.false_ne_true]; exact ⟨r1, N1, g1, PostG.sub bk_E g s1 p1⟩
theorem fe_chn {op1 op2 : CmpOp} {c1 c2 c3 : CE} {a b c : Expr} (hK : X.kw = K) (hu : X.A.units + 65 < cLine) (hm : lastMarks [op1, op2] [b, c] = false) (h1 : PE X a (tE K Fa Ca pr W (evE G c1))) (h2 : PE X b (tE K Fa Ca pr W (evE G c2))) (h3 : PE X c (tE K Fa Ca pr W (evE G c3))) :
    PE X (.Compare a [op1, op2] [b, c] pos) (tE K Fa Ca pr W (evE G (.chn op1 op2 c1 c2 c3))) := by
  refine PE.imp (pe_chain (op_cmpE hK hu op1) (op_cmpE hK hu op2) h1 h2 h3 hm) fun σ H Q ⟨r, N, g, h⟩ => ?_
  simp only [evE] at h
  show tE K Fa Ca pr W (evE G c1) σ H _
  refine tG_mono (tG_bind (rel := relE K Fa) g (Stp.refl g) g h) fun v H1 ⟨y, r1, N1, _, s1, g1, q1, p1⟩ => ?_
  refine tG_mono (tG_bind (rel := relE K Fa) g s1 g1 p1) fun v2 H2 ⟨y2, r2, N2, t2, s2, g2, q2, p2⟩ => ?_
  have q1' := RR.stp q1.1 t2 g1
  cases e1 : dref r2 y with
  | none => simp only [e1] at p2; exact p2.elim
  | some d1 =>
    cases e2 : dref r2 y2 with
    | none => simp only [e1, e2] at p2; exact p2.elim
    | some d2 =>
      cases e : cmpD op1 d1 d2 with
      | none => simp only [e1, e2, e] at p2; exact p2.elim
      | some k =>
        refine ⟨N2, d1, d2, k, RR.look q1' g2 e1, RR.look q2.1 g2 e2, e, k, rfl, ?_⟩
        cases k with
        | false =>
          simp only [e1, e2, e] at p2
          rw [if_neg Bool.false_ne_true]
          exact p2.val s2 g2 (.bl false)
        | true =>
          simp only [e1, e2, e] at p2
          rw [if_pos rfl]
          show tE K Fa Ca pr W (evE G c3) σ H2 _
          refine tG_mono (tG_bind (rel := relE K Fa) g s2 g2 p2) fun v3 H3 ⟨y3, r3, N3, t3, s3, g3, q3, p3⟩ => ?_
          have q2' := RR.stp q2.1 t3 g2
          cases e4 : dref r3 y2 with
          | none => simp only [e4] at p3; exact p3.elim
          | some d3 =>
            cases e5 : dref r3 y3 with
            | none => simp only [e4, e5] at p3; exact p3.elim
            | some d4 =>
              cases e6 : cmpD op2 d3 d4 with
              | none => simp only [e4, e5, e6] at p3; exact p3.elim
              | some k =>
                simp only [e4, e5, e6] at p3
                exact ⟨N3, d3, d4, k, RR.look q2' g3 e4, RR.look q3.1 g3 e5, e6, p3.val s3 g3 (.bl k)⟩
/-- a chain as a test -/
theorem ft_chn {op1 op2 : CmpOp} {c1 c2 c3 : CE} {a b c : Expr} (hK : X.kw = K) (hu : X.A.units + 65 < cLine) (hm : lastMarks [op1, op2] [b, c] = false) (h1 : PE X a (tE K Fa Ca pr W (evE G c1))) (h2 : PE X b (tE K Fa Ca pr W (evE G c2))) (h3 : PE X c (tE K Fa Ca pr W (evE G c3))) :
    PT X (.Compare a [op1, op2] [b, c] pos) (tB K Fa Ca pr W (evT G (.ex (.chn op1 op2 c1 c2 c3)))) := by
  refine PT.imp (pt_chain (op_cmpE hK hu op1) (op_cmpE hK hu op2) h1 h2 h3 hm) fun σ H Q ⟨r, N, g, h⟩ => ?_
  simp only [evT, evE] at h
  have e3 : ∀ {α β γ : Type} (x : Rs α) (f : α → En → Rs β) (k : β → En → Rs γ), (x.bind f).bind k = x.bind fun a r => (f a r).bind k := fun x f k => by cases x <;> rfl
  rw [e3] at h
  show tE K Fa Ca pr W (evE G c1) σ H _
  refine tG_mono (tG_bind (rel := relE K Fa) g (Stp.refl g) g h) fun v H1 ⟨y, r1, N1, _, s1, g1, q1, p1⟩ => ?_
  rw [e3] at p1
  refine tG_mono (tG_bind (rel := relE K Fa) g s1 g1 p1) fun v2 H2 ⟨y2, r2, N2, t2, s2, g2, q2, p2⟩ => ?_
  have q1' := RR.stp q1.1 t2 g1
  cases e1 : dref r2 y with
  | none => simp only [e1] at p2; exact p2.elim
  | some d1 =>
    cases e2 : dref r2 y2 with
    | none => simp only [e1, e2] at p2; exact p2.elim
    | some d2 =>
      cases e : cmpD op1 d1 d2 with
      | none => simp only [e1, e2, e] at p2; exact p2.elim
      | some k =>
        refine ⟨N2, d1, d2, k, RR.look q1' g2 e1, RR.look q2.1 g2 e2, e, k, rfl, ?_⟩
        cases k with
        | false =>
          simp only [e1, e2, e] at p2
          rw [if_neg Bool.false_ne_true]
          exact ⟨false, rfl, p2 false H2 N2 s2 g2 rfl⟩
        | true =>
          simp only [e1, e2, e] at p2
          rw [e3] at p2
          rw [if_pos rfl]
          show tE K Fa Ca pr W (evE G c3) σ H2 _
          refine tG_mono (tG_bind (rel := relE K Fa) g s2 g2 p2) fun v3 H3 ⟨y3, r3, N3, t3, s3, g3, q3, p3⟩ => ?_
          have q2' := RR.stp q2.1 t3 g2
          cases e4 : dref r3 y2 with
          | none => simp only [e4] at p3; exact p3.elim
          | some d3 =>
            cases e5 : dref r3 y3 with
            | none => simp only [e4, e5] at p3; exact p3.elim
            | some d4 =>
              cases e6 : cmpD op2 d3 d4 with
              | none => simp only [e4, e5, e6] at p3; exact p3.elim
              | some k =>
                simp only [e4, e5, e6] at p3
                exact ⟨N3, d3, d4, k, RR.look q2' g3 e4, RR.look q3.1 g3 e5, e6, k, rfl, p3 k H3 N3 s3 g3 rfl⟩
end
end E2

set_option Elab.async false
set_option linter.all false
set_option maxRecDepth 100000
set_option maxHeartbeats 1000000
namespace E2
variable [Tbs]
open PySem PySem.Spec PyProof.Rows L2
section
variable {K : Kw} {Fa Ca : Nat → Addr} {pr : List (Nat × Addr)} {W : WX} {r r1 r' : En} {σ : L2.St} {N N1 N' : NS} {H H1 H' : Hp} {v : V} {d : D} {a : Addr} {α β γ δ : Type} {X : Cx} {G : Gs} {pos : Pos}

theorem ixN_lt {n : Nat} {i : Int} {j : Nat} (h : ixN n i = some j) : j < n := (ixN_seq h).2.1
theorem RpA.at {xs : List V} {ds : List D} {i : Int} {w : D} (h : RpA K N H xs ds) (e : atI ds i = some w) : ∃ v, atI xs i = some v ∧ Rp K N H v w := by
  unfold atI at e ⊢
  rw [h.length]
  obtain ⟨j, h1, h2⟩ := Option.bind_eq_some_iff.mp e
  rw [h1]
  exact h.get h2
/-! ### items -/
def rIxE (K : Kw) : R2 := fun x y H Q => ∃ (N : NS) (d e w : D), DR K N H x d ∧ DR K N H y e ∧ idxD d e = some w ∧ ∀ v, Rp K N H v w → Q v H
theorem ix_any (hK : X.kw = K) (hu : X.A.units + 65 < cLine) : IxR X (rIxE K) := by
  subst hK
  intro value slice pins s σ H x y v u Q I rx ry ⟨N, d, e, w, hx, hy, he, q⟩ hs
  unfold idxD at he
  split at he
  · obtain ⟨a, xs, rfl, h1, h2⟩ := hx.lst
    have hy := hy.int
    subst hy
    obtain ⟨v', e1, e2⟩ := h2.at he
    exact ix_list value slice pins s σ H _ _ v u Q I rx ry ⟨a, xs, _, v', rfl, rfl, h1, e1, q v' e2⟩ hs
  · obtain ⟨a, xs, rfl, h1, h2⟩ := hx.tup
    have hy := hy.int
    subst hy
    obtain ⟨v', e1, e2⟩ := h2.at he
    exact ix_tup value slice pins s σ H _ _ v u Q I rx ry ⟨a, xs, _, v', rfl, rfl, h1.sq, e1, q v' e2⟩ hs
  · have hx := hx.str
    have hy := hy.int
    subst hx hy
    split at he
    · obtain ⟨c, e1, rfl⟩ := Option.map_eq_some_iff.mp he
      exact ix_str value slice pins s σ H _ _ v u Q I rx ry ⟨_, _, c, rfl, rfl, by assumption, e1, q _ (.str _)⟩ hs
    · cases he
  · split at he
    · rename_i kvs k hk
      obtain ⟨a, rfl, hd⟩ := hx.dic
      cases rx
      have ty : s.TypeIs (.ref a) "dict" := by
        rcases hd with ⟨ks, hd, _⟩ | ⟨o, ks, hd, hb, _⟩
        · obtain ⟨_, _, vs, _, dd⟩ := dk_of I.hok hd
          exact dd.typeIs
        · exact ⟨o, (I.hok _ _ hd).1, hb.2.2.2.1.1⟩
      unfold subscriptTail
      refine wpAny_bind ?_
      rw [getitemInPython_of_ne ty.not_modules]
      refine wpAny_bind (wpAny_specialOf ty PySem.F.slot_dict_getitem.lookup ?_)
      have fin : wpAny (model X.prog X.w) X.A (subscripted slice false (.ref a) u) (fun r s₃ => wpAny (model X.prog X.w) X.A (letTemporaryGo value (.ref a) r >>= fun _ => pure r) (EP X pins σ Q) X.xe s₃) X.xe s := by
        rw [hs]
        exact wpAny_operating (dgetitem_any rfl hu I hd hy ry hk he fun v' w' s' I' rv' rp => wpAny_bind (wpAny_letTemporaryGo (wpAny_pure ⟨v', H, I', rv', q v' rp⟩)))
      first
        | exact wpAny_pure (wpAny_bind fin)
        | exact wpAny_bind (wpAny_pure (wpAny_bind fin))
        | exact wpAny_bind fin
    · cases he
  · cases he
theorem plainIx_of {b : Expr} (h : (match b with | .Slice _ _ _ _ => false | _ => true) = true) : PlainIx b := by
  intro o i
  cases b <;> first | rfl | cases h
theorem fe_idx {c1 c2 : CE} {a b : Expr} (hK : X.kw = K) (hu : X.A.units + 65 < cLine) (hb : (match b with | .Slice _ _ _ _ => false | _ => true) = true) (h1 : PE X a (tE K Fa Ca pr W (evE G c1))) (h2 : PE X b (tE K Fa Ca pr W (evE G c2))) :
    PE X (.Subscript a b pos) (tE K Fa Ca pr W (evE G (.idx c1 c2))) := by
  refine fe_bin2 (A := c1) (B := c2) (k := fun d f r => match idxD d f with
    | some v => .ok (.val false v) r
    | none => .stuck) (fun r => by simp only [evE] <;> rfl) (PE.imp (pe_ix (ix_any hK hu) h1 h2 (plainIx_of hb)) fun σ H Q h => ?_)
  refine tG_mono h fun x H1 h => tG_mono h fun y H2 ⟨r0, σ', N0, H0, r, N, d, f, g0, sp, g, hx, hy, h⟩ => ?_
  cases e : idxD d f with
  | none => simp only [e] at h; exact h.elim
  | some w =>
    simp only [e] at h
    exact ⟨N, d, f, w, hx, hy, e, fun v hv => h.val sp g hv⟩

/-! ### slices -/
theorem RpA.cut {xs : List V} {ds : List D} (h : RpA K N H xs ds) (lo hi : Option Int) : RpA K N H (cutV xs lo hi) (cutD ds lo hi) := by
  unfold cutV cutD
  rw [h.length]
  exact (h.drop _).take _
def rSlE (K : Kw) (Fa Ca : Nat → Addr) (pr : List (Nat × Addr)) (W : WX) : V → Option Int → Option Int → Hp → VK → Prop := fun x lo hi H Q => ∃ (r0 : En) (σ : L2.St) (N0 : NS) (H0 : Hp) (r : En) (N : NS) (d : D), Good K Fa pr r0 σ N0 H0 ∧ Stp r0 σ N0 H0 r N H ∧ Good K Fa pr r σ N H ∧ DR K N H x d ∧ PostG K Fa Ca pr W (relE K Fa) r0 σ N0 H0 Q (optR r (sliD d lo hi))
theorem sl_any (hK : X.kw = K) : SlR X (rSlE K Fa Ca pr W) := by
  subst hK
  intro pins s σ H x v vl vu lo hi sl Q I rx hs pl pu ⟨r0, σ', N0, H0, r, N, d, g0, sp, g, hx, h⟩
  unfold sliD at h
  split at h
  · obtain ⟨a, xs, rfl, h1, h2⟩ := hx.lst
    exact sl_list pins s σ H _ v vl vu lo hi sl Q I rx hs pl pu ⟨a, xs, rfl, h1, fun p hp => PostG.newL h g0 sp g hp (h2.cut lo hi)⟩
  · obtain ⟨a, xs, rfl, h1, h2⟩ := hx.tup
    refine sl_tupF pins s σ H _ v vl vu lo hi sl Q I rx hs pl pu ⟨a, xs, rfl, h1.sq, fun hw => ?_, fun p ob hp oc od => PostG.newT h g0 sp g hp oc od (h2.cut lo hi)⟩
    refine PostG.val h sp g (.tup h1 ?_)
    have e : cutV xs lo hi = xs := by unfold cutV; rw [hw.1, hw.2]; simp
    rw [← e]
    exact h2.cut lo hi
  · exact h.elim
theorem fo_non : PO X none (tOp K Fa Ca pr W (evO G .non)) := PO.imp po_none fun σ H Q ⟨r, N, g, h⟩ => by
  simp only [evO] at h
  exact h none H N (Stp.refl g) g rfl
theorem fo_som {c : CE} {e : Expr} (h1 : PE X e (tE K Fa Ca pr W (evE G c))) : PO X (some e) (tOp K Fa Ca pr W (evO G (.som c))) := PO.imp (po_some h1) fun σ H Q ⟨r, N, g, h⟩ => by
  simp only [evO] at h
  show tE K Fa Ca pr W (evE G c) σ H _
  refine tG_mono (tG_bind (rel := relE K Fa) g (Stp.refl g) g h) fun v H1 ⟨y, r1, N1, t1, s1, g1, ⟨q1, f1⟩, p1⟩ => ?_
  split at p1
  · rename_i o i
    have hv : v = .int i := by
      cases o with
      | false => cases q1; rfl
      | true => obtain ⟨_, _, _, z, _⟩ := q1; exact z.elim
    exact ⟨i, hv, p1 (some i) H1 N1 s1 g1 rfl⟩
  · exact p1.elim
theorem fe_sli {c : CE} {lo hi : CEo} {e : Expr} {l u : Option Expr} {p2 : Pos} (hK : X.kw = K) (h1 : PE X e (tE K Fa Ca pr W (evE G c))) (h2 : PO X l (tOp K Fa Ca pr W (evO G lo))) (h3 : PO X u (tOp K Fa Ca pr W (evO G hi))) :
    PE X (.Subscript e (.Slice l u none p2) pos) (tE K Fa Ca pr W (evE G (.sli c lo hi))) := by
  refine PE.imp (pe_slice (sl_any (Fa := Fa) (Ca := Ca) (pr := pr) (W := W) hK) h1 h2 h3) fun σ H Q ⟨r, N, g, h⟩ => ?_
  simp only [evE] at h
  show tE K Fa Ca pr W (evE G c) σ H _
  refine tG_mono (tG_bind (rel := relE K Fa) g (Stp.refl g) g h) fun v H1 ⟨y, r1, N1, _, s1, g1, q1, p1⟩ => ?_
  show tOp K Fa Ca pr W (evO G lo) σ H1 _
  refine tG_mono (tG_bind (rel := relO) g s1 g1 p1) fun v2 H2 ⟨y2, r2, N2, t2, s2, g2, q2, p2⟩ => ?_
  show tOp K Fa Ca pr W (evO G hi) σ H2 _
  refine tG_mono (tG_bind (rel := relO) g s2 g2 p2) fun v3 H3 ⟨y3, r3, N3, t3, s3, g3, q3, p3⟩ => ?_
  cases (show v2 = y2 from q2)
  cases (show v3 = y3 from q3)
  have q1' := RR.stp (RR.stp q1.1 t2 g1) t3 g2
  cases e1 : dref r3 y with
  | none => simp only [e1] at p3; exact p3.elim
  | some d1 =>
    simp only [e1] at p3
    exact ⟨r, σ, N, H, r3, N3, d1, g, s3, g3, RR.look q1' g3 e1, p3⟩
end
end E2

set_option Elab.async false
set_option linter.all false
set_option maxRecDepth 100000
set_option maxHeartbeats 1000000
namespace E2
variable [Tbs]
open PySem PySem.Spec PyProof.Rows L2
/-! ## calls of the program's own defs -/
def refAd : List V → List Ag → List Addr
  | .ref a :: vs, .rf _ :: xs => a :: refAd vs xs
  | _ :: vs, _ :: xs => refAd vs xs
  | _, _ => []
section
variable (K : Kw) (Fa Ca : Nat → Addr)
def AgR (N : NS) (H : Hp) (v : V) : Ag → Prop
  | .val d => Rp K N H v d
  | .rf d => ∃ a, v = .ref a ∧ N a ∧ RpM K N H a d
  | .fn k => v = .ref (Fa k)
def AgsR (N : NS) (H : Hp) : List V → List Ag → Prop
  | [], [] => True
  | v :: vs, x :: xs => AgR K Fa N H v x ∧ AgsR N H vs xs
  | _, _ => False
def RfsR (N : NS) (H : Hp) : List Addr → List D → Prop
  | [], [] => True
  | a :: as, d :: ds => (N a ∧ RpM K N H a d) ∧ RfsR N H as ds
  | _, _ => False
def ResR (N0 : NS) (N : NS) (H : Hp) (v : V) (own : Bool) (d : D) : Prop :=
  match own with
  | false => Rp K N H v d
  | true => ∃ a, v = .ref a ∧ N a ∧ RpM K N H a d ∧ ¬ N0 a
/-- what a def promises: what the pure run says -/
def spec (np : Nat) (call : List Ag → Cr) : Sp := fun vs H Q E => ∃ (ags : List Ag) (N : NS), vs.length = np ∧ AgsR K Fa N H vs ags ∧ (refAd vs ags).Nodup ∧ (∀ b, N b → Mut (H b)) ∧ TabO N H ∧
  match call ags with
  | .ok o d refs => ∀ v H' N', Ext (fun b => b ∈ refAd vs ags) N H N' H' → (∀ b, N' b → Mut (H' b)) → ResR K N N' H' v o d → RfsR K N' H' (refAd vs ags) refs → Q v H'
  | .exc x refs => ∀ cls d H' N', Ext (fun b => b ∈ refAd vs ags) N H N' H' → (∀ b, N' b → Mut (H' b)) → XR K Ca x cls d H' → RfsR K N' H' (refAd vs ags) refs → E cls d H'
  | .stuck => False
end
section
variable {K : Kw} {Fa Ca : Nat → Addr} {pr : List (Nat × Addr)} {W : WX} {r r1 r' : En} {σ : L2.St} {N N1 N' : NS} {H H1 H' : Hp} {v : V} {d : D} {a : Addr} {α β γ δ : Type} {X : Cx} {G : Gs} {pos : Pos}

/-- slots and the addresses that stand in them -/
def SlA (σ : L2.St) (r : En) : List Nat → List Addr → Prop
  | [], [] => True
  | i :: is, a :: as => (σ[i]? = some (some (.ref a)) ∧ ∃ d, r[i]? = some (some (.dat true d))) ∧ SlA σ r is as
  | _, _ => False
theorem SlA.mono {r r' : En} : ∀ {is : List Nat} {as : List Addr}, SlA σ r is as → (∀ i ∈ is, r'[i]? = r[i]?) → SlA σ r' is as
  | [], [], _, _ => trivial
  | i :: is, a :: as, h, e => ⟨⟨h.1.1, by rw [e i List.mem_cons_self]; exact h.1.2⟩, SlA.mono h.2 fun j hj => e j (List.mem_cons_of_mem _ hj)⟩
  | [], _ :: _, h, _ => h.elim
  | _ :: _, [], h, _ => h.elim
theorem SlA.mem : ∀ {is : List Nat} {as : List Addr} {a : Addr}, SlA σ r is as → a ∈ as → ∃ i ∈ is, σ[i]? = some (some (.ref a)) ∧ ∃ d, r[i]? = some (some (.dat true d))
  | i :: is, b :: as, a, h, ha => by
    rcases List.mem_cons.mp ha with rfl | ha
    · exact ⟨i, List.mem_cons_self, h.1⟩
    · obtain ⟨j, h1, h2⟩ := SlA.mem h.2 ha
      exact ⟨j, List.mem_cons_of_mem _ h1, h2⟩
  | [], [], _, _, ha => absurd ha (by simp)
  | [], _ :: _, _, h, _ => h.elim
  | _ :: _, [], _, h, _ => h.elim
theorem SlA.nodup (g : Good K Fa pr r σ N H) : ∀ {is : List Nat} {as : List Addr}, SlA σ r is as → is.Nodup → as.Nodup
  | [], [], _, _ => List.nodup_nil
  | i :: is, a :: as, h, n => by
    refine List.nodup_cons.mpr ⟨fun z => ?_, SlA.nodup g h.2 (List.nodup_cons.mp n).2⟩
    obtain ⟨j, h1, h2, d, h3⟩ := SlA.mem h.2 z
    obtain ⟨h4, e, h5⟩ := h.1
    have := g.inj i j e d a h5 h3 h4 h2
    subst this
    exact (List.nodup_cons.mp n).1 h1
  | [], _ :: _, h, _ => h.elim
  | _ :: _, [], h, _ => h.elim
theorem refAd_rf {a : Addr} {d : D} {vs : List V} {xs : List Ag} : refAd (.ref a :: vs) (.rf d :: xs) = a :: refAd vs xs := rfl
theorem refAd_no {v : V} {x : Ag} {vs : List V} {xs : List Ag} (h : ∀ d, x ≠ .rf d) : refAd (v :: vs) (x :: xs) = refAd vs xs := by
  cases x with
  | rf d => exact absurd rfl (h d)
  | _ => cases v <;> rfl
theorem frA_cons_sub {v : V} {x : R} {vs : List V} {xs : List R} : ∀ a ∈ frA vs xs, a ∈ frA (v :: vs) (x :: xs) := fun a q => by
  unfold frA
  split
  · rename_i e1 e2; cases e1; cases e2; exact List.mem_cons_of_mem _ q
  · rename_i e1 e2; cases e1; cases e2; exact q
  · rename_i n; exact (n v vs x xs rfl rfl).elim
theorem frA_cons_nd {v : V} {x : R} {vs : List V} {xs : List R} (nd : (frA (v :: vs) (x :: xs)).Nodup) : (frA vs xs).Nodup := by
  unfold frA at nd
  split at nd
  · rename_i e1 e2; cases e1; cases e2; exact (List.nodup_cons.mp nd).2
  · rename_i e1 e2; cases e1; cases e2; exact nd
  · rename_i n; exact (n v vs x xs rfl rfl).elim
theorem fsh_cons {v : V} {x : R} {vs : List V} {xs : List R} {r0 : En} {N0 : NS} (fs : ∀ a ∈ frA (v :: vs) (x :: xs), N0 a → own r0 σ a) : Fsh r0 σ N0 v x := by
  cases x with
  | val o d' =>
    cases o with
    | false => trivial
    | true => exact fun a q n => fs a (by subst q; exact List.mem_cons_self) n
  | sl i => trivial
  | fn k => trivial
theorem rest_less {x : R} {vs : List V} {xs : List R} (nd : (frA (v :: vs) (x :: xs)).Nodup) (k2 : ∀ v' x', RR K Fa r σ N H v' x' → Apart v x v' x' → RR K Fa r1 σ N1 H v' x') (h : RRs K Fa r σ N H vs xs) : RRs K Fa r1 σ N1 H vs xs :=
  RRs.of_less (fun w y hw hm => k2 w y hw fun a d' e' p1 p2 p3 p4 => by
    subst p1 p2
    exact (List.nodup_cons.mp nd).1 (hm a e' p3 p4)) h
theorem take_sl_eq {i j : Nat} {d : D} {r1 : En} (e : E2.take r (.sl i) = some (d, r1)) (h : i ≠ j) : r1[j]? = r[j]? := by
  simp only [E2.take] at e
  split at e
  · cases e
    exact List.getElem?_set_ne h
  · cases e
theorem passA_ok {r0 : En} {N0 : NS} {H0 : Hp} (g0 : Good K Fa pr r0 σ N0 H0) : ∀ {sig : List Bool} {xs : List R} {vs : List V} {used : List Nat} {r : En} {N : NS} {ags : List Ag} {sls : List Nat} {r' : En}, Stp r0 σ N0 H0 r N H → RRs K Fa r σ N H vs xs → (frA vs xs).Nodup → (∀ a ∈ frA vs xs, N0 a → own r0 σ a) → Good K Fa pr r σ N H →
    passA r used sig xs = some (ags, sls, r') → ∃ N', Good K Fa pr r' σ N' H ∧ Stp r0 σ N0 H0 r' N' H ∧ AgsR K Fa N' H vs ags ∧ (∀ v d, Rp K N H v d → Rp K N' H v d) ∧ SlA σ r' sls (refAd vs ags) ∧ (∀ j ∈ used, r'[j]? = r[j]?) ∧ (∀ j ∈ sls, j ∉ used) ∧ sls.Nodup
  | [], [], vs, used, r, N, ags, sls, r', s, h, nd, fs, g, e => by
    simp only [passA] at e
    cases e
    cases vs with
    | nil => exact ⟨N, g, s, trivial, fun _ _ h => h, trivial, fun _ _ => rfl, fun _ h => absurd h (by simp), List.nodup_nil⟩
    | cons _ _ => exact h.elim
  | _, _ :: _, [], _, _, _, _, _, _, _, h, _, _, _, _ => h.elim
  | false :: bs, .fn k :: xs, v :: vs, used, r, N, ags, sls, r', s, h, nd, fs, g, e => by
    simp only [passA] at e
    split at e
    · rename_i ags1 sls1 r1 e1
      cases e
      obtain ⟨N', g', s', q, k1, a1, u1, n1, d1⟩ := passA_ok g0 s h.2 (frA_cons_nd nd) (fun a q => fs a (frA_cons_sub a q)) g e1
      exact ⟨N', g', s', ⟨h.1, q⟩, k1, by rw [refAd_no (by intro d z; cases z)]; exact a1, u1, n1, d1⟩
    · cases e
  | false :: bs, .val o d :: xs, v :: vs, used, r, N, ags, sls, r', s, h, nd, fs, g, e => by
    simp only [passA] at e
    split at e
    · rename_i ags1 sls1 r1 e1
      cases e
      obtain ⟨N1, g1, s1, q1, k1, k2⟩ := RR.take (dr := (d, r)) g0 s h.1 (fsh_cons fs) g rfl
      obtain ⟨N', g', s', q, k3, a1, u1, n1, d1⟩ := passA_ok g0 s1 (rest_less nd k2 h.2) (frA_cons_nd nd) (fun a q => fs a (frA_cons_sub a q)) g1 e1
      exact ⟨N', g', s', ⟨k3 _ _ q1, q⟩, fun v d h => k3 _ _ (k1 _ _ h), by rw [refAd_no (by intro d z; cases z)]; exact a1, u1, n1, d1⟩
    · cases e
  | false :: bs, .sl i :: xs, v :: vs, used, r, N, ags, sls, r', s, h, nd, fs, g, e => by
    simp only [passA] at e
    split at e
    · cases e
    · rename_i hu
      split at e
      · rename_i d r1 e0
        split at e
        · rename_i ags1 sls1 r2 e1
          cases e
          obtain ⟨N1, g1, s1, q1, k1, k2⟩ := RR.take (dr := (d, r1)) g0 s h.1 trivial g e0
          obtain ⟨N', g', s', q, k3, a1, u1, n1, d1⟩ := passA_ok g0 s1 (rest_less nd k2 h.2) (frA_cons_nd nd) (fun a q => fs a (frA_cons_sub a q)) g1 e1
          exact ⟨N', g', s', ⟨k3 _ _ q1, q⟩, fun v d h => k3 _ _ (k1 _ _ h), by rw [refAd_no (by intro d z; cases z)]; exact a1, fun j hj => (u1 j hj).trans (take_sl_eq e0 (fun z => hu (z ▸ hj))), n1, d1⟩
        · cases e
      · cases e
  | true :: bs, .sl i :: xs, v :: vs, used, r, N, ags, sls, r', s, h, nd, fs, g, e => by
    simp only [passA] at e
    split at e
    · cases e
    · rename_i hu
      split at e
      · rename_i d e0
        split at e
        · rename_i ags1 sls1 r2 e1
          cases e
          obtain ⟨N', g', s', q, k3, a1, u1, n1, d1⟩ := passA_ok g0 s h.2 (frA_cons_nd nd) (fun a q => fs a (frA_cons_sub a q)) g e1
          have ei : r'[i]? = some (some (.dat true d)) := (u1 i List.mem_cons_self).trans e0
          obtain ⟨v', h1, a, rfl, h2, h3⟩ := g'.slot i _ ei
          rw [h.1.1] at h1
          cases h1
          refine ⟨N', g', s', ⟨⟨a, rfl, h2, h3⟩, q⟩, k3, ⟨⟨h.1.1, d, ei⟩, a1⟩, fun j hj => u1 j (List.mem_cons_of_mem _ hj), fun j hj => ?_, List.nodup_cons.mpr ⟨fun z => n1 i z List.mem_cons_self, d1⟩⟩
          rcases List.mem_cons.mp hj with rfl | hj
          · exact hu
          · exact fun z => n1 j hj (List.mem_cons_of_mem _ z)
        · cases e
      · cases e
  | [], _ :: _, _ :: _, _, _, _, _, _, _, _, _, _, _, _, e => by simp [passA] at e
  | true :: _, .val _ _ :: _, _ :: _, _, _, _, _, _, _, _, _, _, _, _, e => by simp [passA] at e
  | true :: _, .fn _ :: _, _ :: _, _, _, _, _, _, _, _, _, _, _, _, e => by simp [passA] at e
  | _ :: _, [], _, _, _, _, _, _, _, _, _, _, _, _, e => by simp [passA] at e
/-- the slots behind a call -/
theorem putRefs_ok {r3 : En} : ∀ {is : List Nat} {as : List Addr} {ds : List D} {r : En}, SlA σ r is as → is.Nodup → RfsR K N' H' as ds → putRefs r is ds = some r3 →
    r3.length = r.length ∧ (∀ j, j ∉ is → r3[j]? = r[j]?) ∧ ∀ j ∈ is, ∃ a ∈ as, ∃ d, σ[j]? = some (some (.ref a)) ∧ r3[j]? = some (some (.dat true d)) ∧ N' a ∧ RpM K N' H' a d
  | [], [], [], r, _, _, _, e => by
    cases e
    exact ⟨rfl, fun _ _ => rfl, fun _ h => absurd h (by simp)⟩
  | i :: is, a :: as, d :: ds, r, h, n, q, e => by
    simp only [putRefs] at e
    obtain ⟨n1, n2⟩ := List.nodup_cons.mp n
    obtain ⟨l, k1, k2⟩ := putRefs_ok (h.2.mono (r' := r.set i (some (.dat true d))) fun j hj => List.getElem?_set_ne (fun z => by subst z; exact n1 hj)) n2 q.2 e
    have hi : i < r.length := by
      obtain ⟨_, d0, h0⟩ := h.1
      rcases Nat.lt_or_ge i r.length with z | z
      · exact z
      · rw [List.getElem?_eq_none z] at h0; cases h0
    refine ⟨by rw [l, List.length_set], fun j hj => ?_, fun j hj => ?_⟩
    · simp only [List.mem_cons, not_or] at hj
      rw [k1 j hj.2]
      exact List.getElem?_set_ne (Ne.symm hj.1)
    · rcases List.mem_cons.mp hj with rfl | hj
      · refine ⟨a, List.mem_cons_self, d, h.1.1, ?_, q.1⟩
        rw [k1 j n1]
        exact getset_self hi
      · obtain ⟨b, hb, z⟩ := k2 j hj
        exact ⟨b, List.mem_cons_of_mem _ hb, z⟩
  | [], [], _ :: _, _, _, _, q, _ => q.elim
  | [], _ :: _, _, _, h, _, _, _ => h.elim
  | _ :: _, [], _, _, h, _, _, _ => h.elim
  | _ :: _, _ :: _, [], _, _, _, q, _ => q.elim
theorem put_good {r3 : En} {is : List Nat} {as : List Addr} {ds : List D} {r0 : En} {N0 : NS} {H0 : Hp} (g0 : Good K Fa pr r0 σ N0 H0) (s : Stp r0 σ N0 H0 r N H) (g : Good K Fa pr r σ N H) (h : SlA σ r is as) (n : is.Nodup) (E : Ext (fun b => b ∈ as) N H N' H') (t : ∀ b, N' b → Mut (H' b)) (q : RfsR K N' H' as ds)
    (e : putRefs r is ds = some r3) : Good K Fa pr r3 σ N' H' ∧ Stp r0 σ N0 H0 r3 N' H' := by
  obtain ⟨l, k1, k2⟩ := putRefs_ok h n q e
  have ownr : ∀ {j : Nat} {d : D}, r3[j]? = some (some (.dat true d)) → ∃ d', r[j]? = some (some (.dat true d')) := fun {j d} hj => by
    by_cases z : j ∈ is
    · obtain ⟨b, hb, d', h1, h2, _⟩ := k2 j z
      obtain ⟨i, hi, h3, d2, h4⟩ := SlA.mem h hb
      -- the slot j itself is owned in r
      have : ∀ {is : List Nat} {as : List Addr}, SlA σ r is as → ∀ j ∈ is, ∃ d', r[j]? = some (some (.dat true d')) := by
        intro is
        induction is with
        | nil => intro as _ j hj; exact absurd hj (by simp)
        | cons i is ih =>
          intro as hs j hj
          cases as with
          | nil => exact hs.elim
          | cons a as =>
            rcases List.mem_cons.mp hj with rfl | hj
            · exact hs.1.2
            · exact ih hs.2 j hj
      exact this h j z
    · rw [k1 j z] at hj
      exact ⟨d, hj⟩
  refine ⟨⟨l.trans g.len, fun j sv ej => ?_, fun i j d f a h1 h2 h3 h4 => ?_, t, g.prs, E.tab g.tab⟩, ⟨?_, fun b ⟨j, d, h1, h2⟩ => s.own b (let ⟨d', z⟩ := ownr h1; ⟨j, d', z, h2⟩), fun j hj => ?_⟩⟩
  · by_cases z : j ∈ is
    · obtain ⟨b, hb, d', h1, h2, h3, h4⟩ := k2 j z
      rw [h2] at ej
      cases ej
      exact ⟨_, h1, b, rfl, h3, h4⟩
    · rw [k1 j z] at ej
      obtain ⟨v, h1, h2⟩ := g.slot j _ ej
      refine ⟨v, h1, h2.ext E g.trk fun a d e1 e2 ha => z ?_⟩
      subst e1 e2
      obtain ⟨i, hi, h3, d2, h4⟩ := SlA.mem h ha
      have := g.inj i j d2 d a h4 ej h3 h1
      subst this
      exact hi
  · obtain ⟨d1, q1⟩ := ownr h1
    obtain ⟨d2, q2⟩ := ownr h2
    exact g.inj i j d1 d2 a q1 q2 h3 h4
  · exact s.ext.trans E (fun b hb => by
      obtain ⟨i, hi, h3, d2, h4⟩ := SlA.mem h hb
      exact .inl (s.own b ⟨i, d2, h4, h3⟩)) fun b hb => mutSome (g0.trk b hb)
  · obtain ⟨o, d, hd⟩ := s.dat j hj
    by_cases z : j ∈ is
    · obtain ⟨b, hb, d', h1, h2, h3, h4⟩ := k2 j z
      exact ⟨true, d', h2⟩
    · exact ⟨o, d, by rw [k1 j z]; exact hd⟩
/-- THE CALL: the arguments' results are in, the def's promise is used -/
theorem callR_ok {k np : Nat} {xs : List R} {vs : List V} {r0 : En} {N0 : NS} {H0 : Hp} {Q : VK} (hl : vs.length = np) (g0 : Good K Fa pr r0 σ N0 H0) (s : Stp r0 σ N0 H0 r N H) (g : Good K Fa pr r σ N H) (h : RRs K Fa r σ N H vs xs) (f : ∀ a ∈ frA vs xs, N0 a → own r0 σ a) (nd : (frA vs xs).Nodup)
    (p : PostG K Fa Ca pr W (relE K Fa) r0 σ N0 H0 Q (callR G k xs r)) : spec K Fa Ca np (G.call k) vs H Q (WE W σ) := by
  unfold callR at p
  split at p
  · exact p.elim
  · rename_i ags slots r1 e1
    obtain ⟨N1, g1, s1, q1, _, a1, _, _, d1⟩ := passA_ok g0 s h nd f g e1
    refine ⟨ags, N1, hl, q1, a1.nodup g1 d1, g1.trk, g1.tab, ?_⟩
    split at p
    · rename_i o d refs ec
      try rw [ec]
      intro v H' N' E t q rf
      split at p
      · rename_i r2 e2
        obtain ⟨g2, s2⟩ := put_good g0 s1 g1 a1 d1 E t rf e2
        refine p v H' N' s2 g2 ⟨?_, ?_⟩
        · cases o with
          | false => exact q
          | true =>
            obtain ⟨a, h1, h2, h3, h4⟩ := q
            refine ⟨a, h1, h2, h3, fun z => ?_⟩
            -- a slot's address stood in N1
            obtain ⟨j, d', z1, z2⟩ := z
            have : own r1 σ a := by
              by_cases hj : j ∈ slots
              · obtain ⟨_, _, k2⟩ := putRefs_ok a1 d1 rf e2
                obtain ⟨b, hb, d2, y1, y2, _⟩ := k2 j hj
                rw [z2] at y1
                cases y1
                obtain ⟨i, _, w1, d3, w2⟩ := SlA.mem a1 hb
                exact ⟨i, d3, w2, w1⟩
              · obtain ⟨_, k1, _⟩ := putRefs_ok a1 d1 rf e2
                rw [k1 j hj] at z1
                exact ⟨j, d', z1, z2⟩
            exact h4 (g1.ownN a this)
        · cases o with
          | false => trivial
          | true =>
            obtain ⟨a, h1, h2, h3, h4⟩ := q
            intro b e n
            rw [h1] at e
            cases e
            by_cases z : own r0 σ a
            · exact z
            · exact absurd (s1.ext.stay a n z) h4
      · exact p.elim
    · rename_i x refs ec
      try rw [ec]
      intro cls d H' N' E t q rf
      split at p
      · rename_i r2 e2
        obtain ⟨g2, s2⟩ := put_good g0 s1 g1 a1 d1 E t rf e2
        exact p cls d H' N' s2 g2 q
      · exact p.elim
    · exact p.elim
end
end E2

set_option Elab.async false
set_option linter.all false
set_option maxRecDepth 100000
set_option maxHeartbeats 1000000
namespace PySem.W
open PySem PySem.Calls PyProof.Rows
section
variable {prog : Program} {w : World} {A : Around} {E : Value → Shared → Prop} {s : Shared}
/-- the items of a tuple, gathered: as those of a list -/
theorem coll_tup {t : Addr} {us : List Value} {Q : List Value → Shared → Prop} (ht : s.heap.IsTuple t us.toArray)
    (h : Q us { s with heap := (s.heap.push (seqObj "list" #[] 0)).update s.heap.objs.size (Obj.mapSeq (· ++ us.toArray)) }) (hz : us.length ≤ sizeLine) :
    wpAny (model prog w) A (collect (.ref t)) Q E s := by
  obtain ⟨ob, hb, hcl, k, hdt⟩ := id ht
  unfold collect
  refine wpAny_bind (wpAny_runValue (codeAny_builtin F.entry_proto_collect ?_))
  show wpAny _ _ (do again (.builtin "list.__iadd__" ⟨[← newList [], .ref t], []⟩)) _ _ s
  refine wpAny_bind (wpAny_newList (wpAny_pure ⟨Code.quiet_builtin _ (by decide +kernel), codeAny_builtin F.entry_list_iadd ?_⟩))
  show wpAny _ _ (Builtin.List.listExtendWith (.ref s.heap.objs.size) (.ref t) (.ref s.heap.objs.size)) _ _ { s with heap := s.heap.push (seqObj "list" #[] 0) }
  unfold Builtin.List.listExtendWith
  have hb' : (s.heap.push (seqObj "list" #[] 0)).get? t = some ob := Heap.get?_push_of_some _ hb
  refine wpAny_bind (wpAny_typeOf (T := "tuple") ⟨ob, hb', hcl⟩ ?_)
  have e1 : (Value.type "tuple" == Value.type "tuple") = true := by rfl
  rw [if_pos (by rw [e1]; simp)]
  refine wpAny_bind (listItems_at hb' hdt ?_)
  refine wpAny_bind (listItems_at (xs := #[]) (n := 0) (Heap.get?_push_size _ rfl) rfl ?_)
  rw [if_neg (by simp)]
  refine wpAny_bind (listUpdate_at (xs := #[]) (n := 0) (Heap.get?_push_size _ rfl) rfl ?_ (Nat.zero_le _) (by show (#[] ++ us.toArray).size ≤ sizeLine + 1; simp only [Array.size_append, List.size_toArray, List.length_nil]; omega))
  refine wpAny_pure ?_
  show wpAny (model prog w) A (do
      let x ← load s.heap.objs.size
      match x.data with
      | .seq ys _ => pure ys.toList
      | _ => unsupported "internal:collect") Q E { s with heap := (s.heap.push (seqObj "list" #[] 0)).update s.heap.objs.size (Obj.mapSeq (· ++ us.toArray)) }
  refine wpAny_bind (wpAny_load (get?_update_seq (Heap.get?_push_size _ rfl) _) ?_)
  show wpAny _ _ (pure ((#[] : Array Value) ++ us.toArray).toList) Q E _
  have e2 : ((#[] : Array Value) ++ us.toArray).toList = us := by simp
  rw [e2]
  exact wpAny_pure h
/-- sorted(t), t a tuple -/
theorem sorted_tupleV {κ : PyProof.Rows.KeyKind} {t : Addr} {us : List Value} {Q : Value → Shared → Prop} (ht : s.heap.IsTuple t us.toArray) (S : SortsAt prog w A.in1.in1 { s with heap := sortingHeap (copyHeap s.heap us) (s.heap.objs.size + 1) us } κ us) (hz : us.length ≤ sizeLine)
    (h : Q (.ref (s.heap.objs.size + 1)) { s with heap := sortedAll s.heap us (sortVals κ false us us).toArray }) : wpAny (model prog w) A (call (.builtin "sorted") [.ref t]) Q E s := by
  refine call_function_entry_kw kind_sorted plain_sorted entry_sorted (args_sorted1 _) ?_
  unfold Builtin.«sorted»
  refine wpAny_bind (m := checkCount "sorted" 1 1 _) (wpAny_pure ?_)
  refine wpAny_bind (coll_tup ht ?_ hz)
  refine wpAny_bind (wpAny_newList ?_ hz)
  have es : ((s.heap.push (seqObj "list" #[] 0)).update s.heap.objs.size (Obj.mapSeq (· ++ us.toArray))).objs.size = s.heap.objs.size + 1 := by
    rw [Heap.size_update, size_push']
  show wpAny _ _ _ _ _ { s with heap := copyHeap s.heap us }
  rw [es]
  refine wpAny_bind (wpAny_holding (wpAny_call_entry_kw slot_list_sort ⟨_, copyHeap_at s.heap us, rfl⟩ entry_list_sort (?_) (args_list_sort _)))
  refine wpAny_mono (list_sort_vals (P := fun f s' => f = .done (.ret .none) ∧ Q (.ref (s.heap.objs.size + 1)) s') (s := { s with heap := copyHeap s.heap us }) (copyHeap_at s.heap us) S hz ⟨rfl, h⟩) (fun f s' hf => ?_) fun _ _ e => e
  obtain ⟨rfl, hq⟩ := hf
  exact ⟨_, rfl, wpAny_pure ⟨_, rfl, hq⟩⟩
end
end PySem.W
namespace E2
variable [Tbs]
open PySem PySem.Spec PyProof.Rows L2
section
variable {K : Kw} {Fa Ca : Nat → Addr} {pr : List (Nat × Addr)} {W : WX} {r r1 r' : En} {σ : L2.St} {N N1 N' : NS} {H H1 H' : Hp} {v : V} {d : D} {a : Addr} {α β γ δ : Type} {X : Cx} {G : Gs} {pos : Pos}

/-! ### sorted -/
theorem sortOk_out {ds : List D} (h : sortOk ds = true) : PySem.W.AllAlike (ds.map id) ∧ PySem.W.Sortable (ds.map id) ∧ (∀ d ∈ ds, d.depth ≤ 60) ∧ ds.length ≤ sizeLine := by
  simp only [sortOk, Bool.and_eq_true, Bool.or_eq_true, List.all_eq_true, decide_eq_true_eq] at h
  obtain ⟨⟨⟨h1, h2⟩, h3⟩, h4⟩ := h
  rw [List.map_id]
  refine ⟨fun d hd e he => h1 d hd e he, ?_, h3, h4⟩
  rcases h2 with h2 | h2
  · refine .inl fun d hd => ?_
    have q := h2 d hd
    split at q
    · exact ⟨_, _, rfl⟩
    · cases q
  · refine .inr fun d hd => ?_
    have q := h2 d hd
    split at q
    · cases q
    · cases q
    · rename_i n1 n2
      exact ⟨n1, fun xs e => n2 xs e⟩
theorem each_rp {its : List Value} : ∀ {xs : List V} {ds : List D}, RpA K N H xs ds → Vals xs its → PySem.W.EachIs (fun v d => ∃ x, L2.RelV x v ∧ Rp K N H x d) its ds := by
  intro xs
  induction its generalizing xs with
  | nil =>
    intro ds h r
    cases r
    cases h
    exact .nil
  | cons u us ih =>
    intro ds h r
    cases r with
    | cons r1 r2 =>
      cases h with
      | cons h1 h2 => exact .cons ⟨_, r1, h1⟩ (ih h2 r2)
theorem rp_each : ∀ {out : List Value} {ds : List D}, PySem.W.EachIs (fun v d => ∃ x, L2.RelV x v ∧ Rp K N H x d) out ds → ∃ xs, Vals xs out ∧ RpA K N H xs ds
  | _, _, .nil => ⟨[], .nil, .nil⟩
  | _, _, .cons ⟨x, h1, h2⟩ t => by
    obtain ⟨xs, h3, h4⟩ := rp_each t
    exact ⟨x :: xs, .cons h1 h3, .cons h2 h4⟩
mutual
theorem Rp.dpA : ∀ (d : D) (v : V), Rp K N H v d → PySem.W.alike d d = true → Dp K.fr H v d
  | .none, _, h, _ => by cases h; exact .non
  | .bool b, _, h, _ => by cases h; exact .bl b
  | .int b, _, h, _ => by cases h; exact .int b
  | .str b, _, h, _ => by cases h; exact .str b
  | .list ds, _, h, c => by
    cases h with
    | lst h ha => exact .lst h.sq (RpA.dpA ds _ ha (by simpa [PySem.W.alike] using c))
  | .tuple ds, _, h, c => by
    cases h with
    | tup h ha => exact .tup h.sq (RpA.dpA ds _ ha (by simpa [PySem.W.alike] using c))
  | .dict ds, _, _, c => by simp [PySem.W.alike] at c
theorem RpA.dpA : ∀ (ds : List D) (vs : List V), RpA K N H vs ds → PySem.W.alikeAll ds ds = true → DpAll K.fr H vs ds
  | [], _, h, _ => by cases h; exact .nil
  | d :: ds, _, h, c => by
    simp only [PySem.W.alikeAll, Bool.and_eq_true] at c
    cases h with
    | cons h t => exact .cons (Rp.dpA d _ h c.1) (RpA.dpA ds _ t c.2)
end
theorem each_reads {X : Cx} {pins : List (Addr × Obj)} {s : Shared} (I : Inv X pins σ H s) (hK : X.kw = K) : ∀ {its : List Value} {ds : List D}, PySem.W.EachIs (fun v d => ∃ x, L2.RelV x v ∧ Rp K N H x d) its ds → (∀ d ∈ ds, PySem.W.alike d d = true) → PySem.W.EachIs (fun v d => ∃ as, Reads s.heap v (id d) as) its ds
  | _, _, .nil, _ => .nil
  | _ :: _, d :: _, .cons ⟨x, h1, h2⟩ t, nd => by
    have q : Dp X.kw.fr H x d := by rw [hK]; exact h2.dpA _ _ (nd _ List.mem_cons_self)
    exact .cons (Dp.reads I _ x _ q h1) (each_reads I hK t fun d hd => nd d (List.mem_cons_of_mem _ hd))
/-- sorted(..) of a list or a tuple of alike data -/
theorem sorted_run {X : Cx} {pins : List (Addr × Obj)} {s : Shared} {Q : VK} {xs : List V} {ds : List D} (I : Inv X pins σ H s) (hK : X.kw = K) (hu : X.A.units + 65 < cLine) (hx : (SqL K.fr H a xs ∨ SqT K.fr H a xs)) (hr : RpA K N H xs ds) (so : sortOk ds = true)
    (q : ∀ p ys, H p = none → RpA K N H ys (ds.mergeSort (PySem.W.dataLe false id)) → Q (.ref p) (upd H p (.lst ys))) : wpAny (model X.prog X.w) X.A (call (.builtin "sorted") [.ref a]) (EP X pins σ Q) X.xe s := by
  obtain ⟨h1, h2, h3, h4⟩ := sortOk_out so
  have nd : ∀ d ∈ ds, PySem.W.alike d d = true := fun d hd => h1 d (by rw [List.map_id]; exact hd) d (by rw [List.map_id]; exact hd)
  have fin : ∀ (its out : List Value), out.length = ds.length → PySem.W.EachIs (fun v d => ∃ x, L2.RelV x v ∧ Rp K N H x d) out (ds.mergeSort (PySem.W.dataLe false id)) → EP X pins σ Q (.ref (s.heap.objs.size + 1)) { s with heap := PyProof.Rows.sortedAll s.heap its (List.toArray out) } := by
    intro its out ho eo
    obtain ⟨ys, h5, h6⟩ := rp_each eo
    obtain ⟨ep, he'⟩ := PyProof.Rows.sortedAll_at s.heap its out.toArray
    have hy : ys.length ≤ sizeLine := by rw [h5.length, ho]; exact h4
    exact ⟨.ref _, upd H (s.heap.objs.size + 1) (.lst ys), I.laid (t' := s.toks) (fun _ _ => PyProof.Rows.sortedAll_old) (Nat.le_succ _) ⟨hy, out, ep, h5, he'⟩, rfl, q _ _ (I.hok.fresh (Nat.le_succ _)) h6⟩
  rcases hx with hx | hx
  · obtain ⟨its, rv, pl, hz⟩ := I.list (hK ▸ hx)
    have e1 := each_rp hr rv
    exact PySem.W.sorted_data (enc := id) pl.isList e1 (each_reads I hK e1 nd) h1 h2 h4 (fun b hb => by have := h3 b hb; simp only [id]; omega) fun out ho eo => fin its out ho eo
  · obtain ⟨its, rv, pl, hz⟩ := I.tuple (hK ▸ hx)
    have e1 := each_rp hr rv
    have e2 := each_reads I hK e1 nd
    have hil : its.length = ds.length := e1.length
    have er' : PySem.W.EachIs (fun v d => ∃ as, Reads (PySem.W.sortingHeap (PySem.W.copyHeap s.heap its) (s.heap.objs.size + 1) its) v (id d) as) its ds := e2.mono fun _ _ ⟨as, q⟩ => ⟨as, PyProof.Rows.Reads.keeps (fun _ _ => PySem.W.sorting_copy_old) q⟩
    refine PySem.W.sorted_tupleV pl (PySem.W.SortsAt.data (s := { s with heap := PySem.W.sortingHeap (PySem.W.copyHeap s.heap its) (s.heap.objs.size + 1) its }) (ds := ds.map id) (by rw [List.map_id]; exact er') h1 h2 (by rw [List.map_id]; intro d hd; have := h3 d hd; show X.A.units + 2 + d.depth < cLine; omega)) (by rw [hil]; exact h4) ?_
    exact fin its _ (by rw [PySem.W.sortVals_length false rfl]; exact hil) (PySem.W.sortVals_data false e1 er' h1)
end
end E2

set_option Elab.async false
set_option linter.all false
set_option maxRecDepth 100000
set_option maxHeartbeats 1000000
namespace E2
variable [Tbs]
open PySem PySem.Spec PyProof.Rows L2
section
variable {K : Kw} {Fa Ca : Nat → Addr} {pr : List (Nat × Addr)} {W : WX} {r r1 r' : En} {σ : L2.St} {N N1 N' : NS} {H H1 H' : Hp} {v : V} {d : D} {a : Addr} {α β γ δ : Type} {X : Cx} {G : Gs} {pos : Pos}

/-! ### built-ins by values -/
def DRs (K : Kw) (N : NS) (H : Hp) : List V → List D → Prop
  | [], [] => True
  | v :: vs, d :: ds => DR K N H v d ∧ DRs K N H vs ds
  | _, _ => False
theorem drefs_ok (g : Good K Fa pr r σ N H) : ∀ {xs : List R} {vs : List V} {ds : List D}, RRs K Fa r σ N H vs xs → drefs r xs = some ds → DRs K N H vs ds
  | [], [], ds, _, e => by cases e; trivial
  | x :: xs, v :: vs, ds, h, e => by
    simp only [drefs] at e
    split at e
    · rename_i d ds' e1 e2
      cases e
      exact ⟨h.1.look g e1, drefs_ok g h.2 e2⟩
    · cases e
  | [], _ :: _, _, h, _ => h.elim
  | _ :: _, [], _, h, _ => h.elim
theorem DRs.one {vs : List V} (h : DRs K N H vs [d]) : ∃ v, vs = [v] ∧ DR K N H v d := by
  cases vs with
  | nil => exact h.elim
  | cons v vs =>
    cases vs with
    | nil => exact ⟨v, rfl, h.1⟩
    | cons _ _ => exact h.2.elim
theorem DRs.two {vs : List V} {e : D} (h : DRs K N H vs [d, e]) : ∃ v w, vs = [v, w] ∧ DR K N H v d ∧ DR K N H w e := by
  cases vs with
  | nil => exact h.elim
  | cons v vs =>
    obtain ⟨w, rfl, q⟩ := DRs.one (vs := vs) h.2
    exact ⟨v, w, rfl, h.1, q⟩
theorem DRs.zero {vs : List V} (h : DRs K N H vs []) : vs = [] := by
  cases vs with
  | nil => rfl
  | cons _ _ => exact h.elim
def rB (K : Kw) (Fa Ca : Nat → Addr) (pr : List (Nat × Addr)) (W : WX) (f : List D → Option (Bool × D)) : List V → Hp → VK → Prop := fun vs H Q => ∃ (r0 : En) (σ : L2.St) (N0 : NS) (H0 : Hp) (r : En) (N : NS) (ds : List D), Good K Fa pr r0 σ N0 H0 ∧ Stp r0 σ N0 H0 r N H ∧ Good K Fa pr r σ N H ∧ DRs K N H vs ds ∧ PostG K Fa Ca pr W (relE K Fa) r0 σ N0 H0 Q (optR r (f ds))
theorem foldmax : ∀ (xs : List Int) (x : Int), (xs.foldl (fun m y => if y > m then y else m) x) ∈ x :: xs ∧ ∀ y ∈ x :: xs, y ≤ xs.foldl (fun m y => if y > m then y else m) x
  | [], x => by simp
  | z :: xs, x => by
    simp only [List.foldl_cons]
    obtain ⟨h1, h2⟩ := foldmax xs (if z > x then z else x)
    constructor
    · rcases List.mem_cons.mp h1 with h | h
      · rw [h]; split <;> simp
      · simp [h]
    · intro y hy
      have h3 := h2 _ List.mem_cons_self
      rcases List.mem_cons.mp hy with rfl | hy
      · refine Int.le_trans ?_ h3
        split <;> omega
      · rcases List.mem_cons.mp hy with rfl | hy
        · refine Int.le_trans ?_ h3
          split <;> omega
        · exact h2 y (List.mem_cons_of_mem _ hy)
theorem foldmin : ∀ (xs : List Int) (x : Int), (xs.foldl (fun m y => if y < m then y else m) x) ∈ x :: xs ∧ ∀ y ∈ x :: xs, xs.foldl (fun m y => if y < m then y else m) x ≤ y
  | [], x => by simp
  | z :: xs, x => by
    simp only [List.foldl_cons]
    obtain ⟨h1, h2⟩ := foldmin xs (if z < x then z else x)
    constructor
    · rcases List.mem_cons.mp h1 with h | h
      · rw [h]; split <;> simp
      · simp [h]
    · intro y hy
      have h3 := h2 _ List.mem_cons_self
      rcases List.mem_cons.mp hy with rfl | hy
      · refine Int.le_trans h3 ?_
        split <;> omega
      · rcases List.mem_cons.mp hy with rfl | hy
        · refine Int.le_trans h3 ?_
          split <;> omega
        · exact h2 y (List.mem_cons_of_mem _ hy)
theorem maxI_eq {ns : List Int} {m k : Int} (e : maxI ns = some k) (h1 : m ∈ ns) (h2 : ∀ y ∈ ns, y ≤ m) : m = k := by
  cases ns with
  | nil => cases e
  | cons x xs =>
    cases e
    obtain ⟨q1, q2⟩ := foldmax xs x
    have := h2 _ q1
    have := q2 _ h1
    omega
theorem minI_eq {ns : List Int} {m k : Int} (e : minI ns = some k) (h1 : m ∈ ns) (h2 : ∀ y ∈ ns, m ≤ y) : m = k := by
  cases ns with
  | nil => cases e
  | cons x xs =>
    cases e
    obtain ⟨q1, q2⟩ := foldmin xs x
    have := h2 _ q1
    have := q2 _ h1
    omega
def bltV : Blt → Value
  | .len => .builtin "len"
  | .tuple => .type "tuple"
  | .list => .type "list"
  | .sorted => .builtin "sorted"
  | .sum => .builtin "sum"
  | .all => .builtin "all"
  | .any => .builtin "any"
  | .min => .builtin "min"
  | .max => .builtin "max"
  | .min2 => .builtin "min"
  | .max2 => .builtin "max"
  | .int => .type "int"
  | .str => .type "str"
  | .abs => .builtin "abs"
theorem cr_blt (hK : X.kw = K) (hc : X.calm = true) (hu : X.A.units + 65 < cLine) (b : Blt) : CallR X (bltV b) (rB K Fa Ca pr W (bltD b)) := by
  subst hK
  intro pins s σ H vs us Q I rr ⟨r0, σ', N0, H0, r, N, ds, g0, sp, g, hd, h⟩
  cases e : bltD b ds with
  | none => rw [e] at h; exact h.elim
  | some ow =>
    obtain ⟨o, w⟩ := ow
    rw [e] at h
    change PostG X.kw Fa Ca pr W (relE X.kw Fa) r0 σ' N0 H0 Q (.ok (.val o w) r) at h
    unfold bltD at e
    split at e
    · cases e
      obtain ⟨v, rfl, q⟩ := hd.one
      obtain ⟨a, xs, rfl, h1, h2⟩ := q.lst
      exact call_len_seq pins s σ H _ us Q I rr ⟨a, xs, rfl, .inl h1, by rw [h2.length]; exact h.val sp g (.int _)⟩
    · cases e
      obtain ⟨v, rfl, q⟩ := hd.one
      obtain ⟨a, xs, rfl, h1, h2⟩ := q.tup
      exact call_len_seq pins s σ H _ us Q I rr ⟨a, xs, rfl, .inr h1.sq, by rw [h2.length]; exact h.val sp g (.int _)⟩
    · split at e
      · cases e
        obtain ⟨v, rfl, q⟩ := hd.one
        have q := q.str
        subst q
        exact call_len_str pins s σ H _ us Q I rr ⟨_, rfl, by assumption, h.val sp g (.int _)⟩
      · cases e
    · split at e
      · rename_i kvs hk
        cases e
        obtain ⟨v, rfl, q⟩ := hd.one
        obtain ⟨a, rfl, q3⟩ := q.dic
        obtain ⟨u, rfl, ru⟩ := rr.one
        cases ru
        obtain ⟨ks, h1, h2⟩ := DicR.flat q3 hk
        exact call_lenD pins s σ H _ _ Q I rr ⟨a, ks, rfl, h1, by rw [h2.length]; exact h.val sp g (.int _)⟩
      · cases e
    · cases e
      obtain ⟨v, rfl, q⟩ := hd.one
      obtain ⟨a, xs, rfl, h1, h2⟩ := q.lst
      exact call_tupF pins s σ H _ us Q I rr ⟨a, xs, rfl, .inl ⟨h1, fun p ob hp oc od => h.newT g0 sp g hp oc od h2⟩⟩
    · cases e
      obtain ⟨v, rfl, q⟩ := hd.one
      obtain ⟨a, xs, rfl, h1, h2⟩ := q.tup
      exact call_tupF pins s σ H _ us Q I rr ⟨a, xs, rfl, .inr ⟨h1.sq, h.val sp g (.tup h1 h2)⟩⟩
    · cases e
      obtain ⟨v, rfl, q⟩ := hd.one
      obtain ⟨a, xs, rfl, h1, h2⟩ := q.lst
      exact call_list_of pins s σ H _ us Q I rr ⟨a, xs, rfl, .inl h1, fun p hp => h.newL g0 sp g hp h2⟩
    · cases e
      obtain ⟨v, rfl, q⟩ := hd.one
      obtain ⟨a, xs, rfl, h1, h2⟩ := q.tup
      exact call_list_of pins s σ H _ us Q I rr ⟨a, xs, rfl, .inr h1.sq, fun p hp => h.newL g0 sp g hp h2⟩
    · split at e
      · cases e
        obtain ⟨v, rfl, q⟩ := hd.one
        obtain ⟨a, xs, rfl, h1, h2⟩ := q.lst
        obtain ⟨u, rfl, ru⟩ := rr.one
        cases ru
        exact sorted_run I rfl hu (.inl h1) h2 (by assumption) fun p ys hp hy => h.newL g0 sp g hp hy
      · cases e
    · split at e
      · cases e
        obtain ⟨v, rfl, q⟩ := hd.one
        obtain ⟨a, xs, rfl, h1, h2⟩ := q.tup
        obtain ⟨u, rfl, ru⟩ := rr.one
        cases ru
        exact sorted_run I rfl hu (.inr h1.sq) h2 (by assumption) fun p ys hp hy => h.newL g0 sp g hp hy
      · cases e
    · obtain ⟨ns, e1, e2⟩ := Option.map_eq_some_iff.mp e
      cases e2
      obtain ⟨v, rfl, q⟩ := hd.one
      obtain ⟨a, xs, rfl, h1, h2⟩ := q.lst
      obtain ⟨rfl, _⟩ := h2.ints e1
      exact cr_sum hc pins s σ H _ us Q I rr ⟨a, ns, rfl, h1, h.val sp g (.int _)⟩
    · obtain ⟨ns, e1, e2⟩ := Option.map_eq_some_iff.mp e
      cases e2
      obtain ⟨v, rfl, q⟩ := hd.one
      obtain ⟨a, xs, rfl, h1, h2⟩ := q.lst
      obtain ⟨rfl, _⟩ := h2.bools e1
      exact cr_all hc pins s σ H _ us Q I rr ⟨a, ns, rfl, h1, h.val sp g (.bl _)⟩
    · obtain ⟨ns, e1, e2⟩ := Option.map_eq_some_iff.mp e
      cases e2
      obtain ⟨v, rfl, q⟩ := hd.one
      obtain ⟨a, xs, rfl, h1, h2⟩ := q.lst
      obtain ⟨rfl, _⟩ := h2.bools e1
      exact cr_any hc pins s σ H _ us Q I rr ⟨a, ns, rfl, h1, h.val sp g (.bl _)⟩
    · obtain ⟨m, e0, e2⟩ := Option.map_eq_some_iff.mp e
      cases e2
      obtain ⟨ns, e1, e3⟩ := Option.bind_eq_some_iff.mp e0
      obtain ⟨v, rfl, q⟩ := hd.one
      obtain ⟨a, xs, rfl, h1, h2⟩ := q.lst
      obtain ⟨rfl, _⟩ := h2.ints e1
      exact cr_max hc pins s σ H _ us Q I rr ⟨a, ns, rfl, h1, by cases ns <;> simp [maxI] at e3 ⊢, fun m' q1 q2 => by rw [maxI_eq e3 q1 q2]; exact h.val sp g (.int _)⟩
    · obtain ⟨m, e0, e2⟩ := Option.map_eq_some_iff.mp e
      cases e2
      obtain ⟨ns, e1, e3⟩ := Option.bind_eq_some_iff.mp e0
      obtain ⟨v, rfl, q⟩ := hd.one
      obtain ⟨a, xs, rfl, h1, h2⟩ := q.lst
      obtain ⟨rfl, _⟩ := h2.ints e1
      exact cr_min hc pins s σ H _ us Q I rr ⟨a, ns, rfl, h1, by cases ns <;> simp [minI] at e3 ⊢, fun m' q1 q2 => by rw [minI_eq e3 q1 q2]; exact h.val sp g (.int _)⟩
    · cases e
      obtain ⟨v, w, rfl, q1, q2⟩ := hd.two
      have q1 := q1.int
      have q2 := q2.int
      subst q1 q2
      exact call_max2 hc pins s σ H _ us Q I rr ⟨_, _, rfl, h.val sp g (.int _)⟩
    · cases e
      obtain ⟨v, w, rfl, q1, q2⟩ := hd.two
      have q1 := q1.int
      have q2 := q2.int
      subst q1 q2
      exact call_min2 hc pins s σ H _ us Q I rr ⟨_, _, rfl, h.val sp g (.int _)⟩
    · cases e
      obtain ⟨v, rfl, q⟩ := hd.one
      have q := q.int
      subst q
      exact call_int1 pins s σ H _ us Q I rr (.inl ⟨_, rfl, h.val sp g (.int _)⟩)
    · cases e
      obtain ⟨v, rfl, q⟩ := hd.one
      have q := q.bool
      subst q
      exact call_int1 pins s σ H _ us Q I rr (.inr ⟨_, rfl, h.val sp g (.int _)⟩)
    · split at e
      · cases e
        obtain ⟨v, rfl, q⟩ := hd.one
        have q := q.int
        subst q
        exact call_str_int pins s σ H _ us Q I rr ⟨_, rfl, by assumption, h.val sp g (.str _)⟩
      · cases e
    · cases e
      obtain ⟨v, rfl, q⟩ := hd.one
      have q := q.int
      subst q
      exact call_abs pins s σ H _ us Q I rr ⟨_, rfl, h.val sp g (.int _)⟩
    · cases e
def isTyB : Value → Bool
  | .type _ => true
  | _ => false
theorem fe_blt {b : Blt} {c : CE} {cs : CEs} {x : Str} {p : Pos} {e : Expr} {es : List Expr} (hK : X.kw = K) (hc : X.calm = true) (hu : X.A.units + 65 < cLine) (hg : Gl X x) (hm : X.mg x = none) (hv : bootBuiltins x = some (bltV b)) (hn : x ≠ "__name__") (hdb : (x == ("__debug__" : Str)) = false)
    (hp : (e :: es).all plainX = true) (h1 : PA X (e :: es) (tL K Fa Ca pr W (evEs G cs))) : PE X (.Call (.Name x p) (e :: es) [] pos) (tE K Fa Ca pr W (evE G (.blt b cs))) := by
  simp only [List.all_cons, Bool.and_eq_true] at hp
  have base : PE X (.Call (.Name x p) (e :: es) [] pos) (tCB (rB K Fa Ca pr W (bltD b)) (tL K Fa Ca pr W (evEs G cs))) := by
    have c := cr_blt (X := X) (Fa := Fa) (Ca := Ca) (pr := pr) (W := W) hK hc hu b
    cases hb : bltV b with
    | builtin id =>
      rw [hb] at c hv
      exact pe_callB c hg hm hv h1 hn hdb (star_cons hp.1) (back_any hp.2)
    | type T =>
      rw [hb] at c hv
      exact pe_callTy c hg hm hv h1 hn hdb (star_cons hp.1) (back_any hp.2)
    | _ => cases b <;> cases hb
  refine PE.imp base fun σ H Q ⟨r, N, g, h⟩ => ?_
  simp only [evE] at h
  show tL K Fa Ca pr W (evEs G cs) σ H _
  refine tG_mono (tG_bind (rel := relL K Fa) g (Stp.refl g) g h) fun vs H1 ⟨ys, r1, N1, t1, s1, g1, ⟨q1, f1, n1⟩, p1⟩ => ?_
  cases e : drefs r1 ys with
  | none => simp only [e] at p1; exact p1.elim
  | some ds =>
    simp only [e] at p1
    exact ⟨r, σ, N, H, r1, N1, ds, g, s1, g1, drefs_ok g1 q1 e, p1⟩
end
end E2

set_option Elab.async false
set_option linter.all false
set_option maxRecDepth 100000
set_option maxHeartbeats 1000000
namespace E2
variable [Tbs]
open PySem PySem.Spec PyProof.Rows L2
section
variable {K : Kw} {Fa Ca : Nat → Addr} {pr : List (Nat × Addr)} {W : WX} {r r1 r' : En} {σ : L2.St} {N N1 N' : NS} {H H1 H' : Hp} {v : V} {d : D} {a : Addr} {α β γ δ : Type} {X : Cx} {G : Gs} {pos : Pos}

/-! ### methods that only look -/
theorem indexD_at {x : D} : ∀ {ds : List D} {n j : Nat}, indexD x ds n = some j → ∃ z, ds[j - n]? = some z ∧ n ≤ j ∧ PyData.eqv z x = true ∧ ∀ (m : Nat) (z' : D), n + m < j → ds[m]? = some z' → PyData.eqv z' x = false
  | [], n, j, h => by cases h
  | y :: ys, n, j, h => by
    simp only [indexD] at h
    by_cases e : PyData.eqv y x = true
    · rw [if_pos e] at h
      cases h
      exact ⟨y, by simp, Nat.le_refl _, e, fun m z' hm _ => absurd hm (by omega)⟩
    · rw [if_neg e] at h
      obtain ⟨z, h1, h2, h3, h4⟩ := indexD_at h
      refine ⟨z, ?_, by omega, h3, fun m z' hm hz => ?_⟩
      · have e2 : j - n = (j - (n + 1)) + 1 := by omega
        rw [e2]
        simpa using h1
      · cases m with
        | zero =>
          cases hz
          simpa using e
        | succ m => exact h4 m z' (by omega) (by simpa using hz)
/-- the place of an equal one, in a tuple -/
theorem tuple_place {pins : List (Addr × Obj)} {s : Shared} {xs : List V} {ds : List D} {y : V} {e : D} {u : Value} {j : Nat} {z : D} {Q : VK} (hu : X.A.units + 65 < cLine) (I : Inv X pins σ H s) (hx : SqT X.kw.fr H a xs) (hd : DpAll X.kw.fr H xs ds) (hy : Dp X.kw.fr H y e) (ry : RelV y u)
    (s1 : SeqAt.shaped (.list ds) = true) (s2 : SeqAt.shaped e = true) (hz : ds[j]? = some z) (hzj : PyData.eqv z e = true) (hno : ∀ (m : Nat) (z' : D), m < j → ds[m]? = some z' → PyData.eqv z' e = false) (q : Q (.int (j : Nat)) H) :
    wpAny (model X.prog X.w) X.A (call (.builtin "tuple.index") [.ref a, u]) (EP X pins σ Q) X.xe s := by
  obtain ⟨qs, ru⟩ := Dp.reads I e y u hy ry
  have lay : PyData.canLayAll0 ds = true := SeqAt.canLay_of_shaped s1
  have room : X.A.units + 1 + min (PyData.depthAll ds) e.depth < cLine := room_in_shaped s2 hu
  obtain ⟨vs, rv, ⟨⟨c0, d0, t0, l0⟩, w1, w2, n, w3⟩, hlen⟩ := I.tuple hx
  simp only at w2 w3
  subst w2 w3
  obtain ⟨ps, rd⟩ := Dp.readsAll I ds _ vs hd rv
  have l1 : vs.length = ds.length := SeqAt.ReadsAll.length ds vs ps rd
  have l2 : vs.map (SeqAt.readOf s.heap) = ds := SeqAt.readsAll_map ds vs ps lay rd
  have jl : j < ds.length := (List.getElem?_eq_some_iff.mp hz).1
  have pick : ∀ (m : Nat) (hm : m < vs.toArray.size) (z' : D), ds[m]? = some z' → SeqAt.readOf s.heap vs.toArray[m] = z' := fun m hm z' q' => by
    have hm' : m < vs.length := by simpa using hm
    rw [← l2, List.getElem?_map, List.getElem?_eq_getElem hm'] at q'
    simpa using q'
  have jv : j < vs.toArray.size := by rw [List.size_toArray]; omega
  exact call_meets PySem.F.slot_tuple_index ⟨_, w1, rfl⟩ PySem.F.entry_tuple_index (PySem.F.args_tuple_index_2 _ _)
    (_root_.TI.tuple_indexAt a vs.toArray n d0 l0 u (fun w => PyData.eqv (SeqAt.readOf s.heap w) e) j jv (by show PyData.eqv _ e = true; rw [pick j jv z hz]; exact hzj)
      (fun m hm lt => by
        have g : ds[m]? = some ds[m] := List.getElem?_eq_getElem (by omega)
        show PyData.eqv _ e = false
        rw [pick m hm _ g]
        exact hno m _ lt g))
    ⟨w1, SeqAt.items_eqAt (vs := vs.toArray) (show ReadsAll s.heap vs.toArray.toList ds ps from rd) ru lay (SeqAt.canLay_of_shaped s2) room, .int (j : Nat), H, I.tok _, ⟨_, rfl⟩, q⟩
/-- what is of the built-in type T, bearing no dict -/
def TyO (X : Cx) (x : V) (H : Hp) (T : String) : Prop := ∀ (pins : List (Addr × Obj)) (σ : L2.St) (s : Shared) (u : Value), Inv X pins σ H s → RelV x u → s.TypeIs u T ∧ ∀ a, u = .ref a → ∃ ob, s.heap.get? a = some ob ∧ ob.dict = none
def builtT : D → String
  | .list _ => "list"
  | .tuple _ => "tuple"
  | .dict _ => "dict"
  | _ => ""
theorem DR.tyO (hK : X.kw = K) {T : String} (h : DR K N H v d) (e : builtT d = T) (ne : T ≠ "") : TyO X v H T := by
  subst hK
  intro pins σ s u I ru
  cases d with
  | list ds =>
    cases e
    obtain ⟨a, xs, rfl, h1, h2⟩ := h.lst
    exact tyV_is I ru (.inl ⟨rfl, xs, h1⟩)
  | tuple ds =>
    cases e
    obtain ⟨a, xs, rfl, h1, h2⟩ := h.tup
    cases ru
    rcases h1 with ⟨o, h1, hc, hn⟩ | ⟨o, its, n, h1, hn, hc, _⟩
    · have q := (I.hok _ _ h1).1
      exact ⟨⟨o, q, hc⟩, fun b eb => by cases eb; exact ⟨o, q, hn⟩⟩
    · have q := I.kIn _ _ h1
      exact ⟨⟨o, q, hc⟩, fun b eb => by cases eb; exact ⟨o, q, hn⟩⟩
  | dict ds =>
    cases e
    obtain ⟨a, rfl, hd⟩ := h.dicR
    rcases hd with ⟨ks, hd, _⟩ | ⟨o, ks, hd, hb, _⟩
    · have q := isD_at I (a := a) (.inl ⟨ks, .inl hd⟩)
      cases ru
      exact ⟨q.1, q.2.1⟩
    · cases ru
      have q := (I.hok _ _ hd).1
      exact ⟨⟨o, q, hb.2.2.2.1.1⟩, fun b eb => by cases eb; exact ⟨o, q, hb.2.2.2.1.2.1⟩⟩
  | _ => exact absurd e.symm ne
def methN : Meth → Str
  | .index => "index"
  | .get => "get"
  | .get2 => "get"
theorem methT_ty {m : Meth} (ne : methT m d ≠ "") : builtT d = methT m d := by
  cases m <;> cases d <;> first | rfl | exact absurd rfl ne
theorem methT_some {m : Meth} {ds : List D} {w : Bool × D} (h : methD m d ds = some w) : methT m d ≠ "" := by
  unfold methD at h
  split at h <;> first | (simp only [methT]; decide) | cases h
theorem methT_same {m : Meth} {d e : D} (h : tyName d = tyName e) : methT m d = methT m e := by
  cases d <;> cases e <;> first | (cases m <;> rfl) | (simp [tyName] at h)
theorem DR.frz (h : DR K N H v d) (e : frzD d = true) : Rp K N H v d := by
  rcases h with h | ⟨a, _, _, h⟩
  · exact h
  · cases d <;> first | exact h.elim | cases e
/-- the call of the method -/
def rMeth (K : Kw) (Fa Ca : Nat → Addr) (pr : List (Nat × Addr)) (W : WX) (m : Meth) : V → List V → Hp → VK → Prop := fun x vs H Q => ∃ (r0 : En) (σ : L2.St) (N0 : NS) (H0 : Hp) (r : En) (N : NS) (d : D) (ds : List D), Good K Fa pr r0 σ N0 H0 ∧ Stp r0 σ N0 H0 r N H ∧ Good K Fa pr r σ N H ∧ DR K N H x d ∧ DRs K N H vs ds ∧ PostG K Fa Ca pr W (relE K Fa) r0 σ N0 H0 Q (optR r (methD m d ds))
theorem dget_any {pins : List (Addr × Obj)} {s : Shared} {E : Value → Shared → Prop} {u : Value} {y : V} {kvs : List (D × D)} {k : D} {Q : Value → Shared → Prop} (hK : X.kw = K) (hu : X.A.units + 65 < cLine) (I : Inv X pins σ H s)
    (hd : DicR K N H a kvs) (hy : DR K N H y k) (ry : RelV y u) (hk : likeKeys kvs k = true)
    (h : ∀ v w' s', Inv X pins σ H s' → RelV v w' → Rp K N H v ((dGet kvs k).getD .none) → Q w' s') : wpAny (model X.prog X.w) X.A (call (.builtin "dict.get") [.ref a, u]) Q E s := by
  simp only [likeKeys, Bool.or_eq_true, Bool.and_eq_true] at hk
  rcases hk with ⟨ha, hk⟩ | ⟨ha, hk⟩
  · obtain ⟨q, rfl⟩ := flatK_key hk
    have ey := hy.key
    subst ey
    obtain ⟨ks, hd, rk⟩ := hd.flat ha
    have g := rk.get q
    refine d_get1 (by omega) I (o := valV ks q) (.inl ⟨ks, q, .inl hd, rfl, rfl⟩) ry fun w' s' I' rw' => h _ w' s' I' rw' ?_
    cases e1 : valV ks q <;> cases e2 : dGet kvs (kD q) <;> rw [e1, e2] at g <;> first | exact g | exact .non | exact g.elim
  · obtain ⟨q, rfl, hq⟩ := tupK_key hk
    obtain ⟨b, rfl, hb⟩ := hy.tkey
    cases ry
    obtain ⟨ks, dd, ns, rt, _⟩ := hd.tup I hK ha
    have g := rt.get (.tup q)
    refine call_meetsIn PySem.F.slot_dict_get dd.typeIs PySem.F.entry_dict_get (PySem.F.args_dict_get_2 _ _) (meetsH_dict_get (nestedKind X.prog X.w) a b ns) ⟨nroom hu, _, ks, ⟨hb.nested I hK _ _ _ rfl, hq⟩, dd, ?_⟩
    cases e1 : atKey ks (.tup q) with
    | none =>
      cases e2 : dGet kvs (NestedKey.tup q).data with
      | none => exact h .non _ _ (I.tok _) rfl (by rw [e2]; exact .non)
      | some z => rw [e1, e2] at g; exact g.elim
    | some p =>
      cases e2 : dGet kvs (NestedKey.tup q).data with
      | none => rw [e1, e2] at g; exact g.elim
      | some z =>
        rw [e1, e2] at g
        obtain ⟨v, rv, rp⟩ := g
        exact h v _ _ (I.tok _) rv (by rw [e2]; exact rp)
theorem dget2_any {pins : List (Addr × Obj)} {s : Shared} {E : Value → Shared → Prop} {u z : Value} {y x : V} {kvs : List (D × D)} {k e : D} {Q : Value → Shared → Prop} (hK : X.kw = K) (hu : X.A.units + 65 < cLine) (I : Inv X pins σ H s)
    (hd : DicR K N H a kvs) (hy : DR K N H y k) (ry : RelV y u) (hx : Rp K N H x e) (rx : RelV x z) (hk : likeKeys kvs k = true)
    (h : ∀ v w' s', Inv X pins σ H s' → RelV v w' → Rp K N H v ((dGet kvs k).getD e) → Q w' s') : wpAny (model X.prog X.w) X.A (call (.builtin "dict.get") [.ref a, u, z]) Q E s := by
  simp only [likeKeys, Bool.or_eq_true, Bool.and_eq_true] at hk
  rcases hk with ⟨ha, hk⟩ | ⟨ha, hk⟩
  · obtain ⟨q, rfl⟩ := flatK_key hk
    have ey := hy.key
    subst ey
    obtain ⟨ks, hd, rk⟩ := hd.flat ha
    have g := rk.get q
    refine d_get2 (by omega) I (o := valV ks q) (.inl ⟨ks, q, .inl hd, rfl, rfl⟩) ry rx fun w' s' I' rw' => h _ w' s' I' rw' ?_
    cases e1 : valV ks q <;> cases e2 : dGet kvs (kD q) <;> rw [e1, e2] at g <;> first | exact g | exact hx | exact g.elim
  · obtain ⟨q, rfl, hq⟩ := tupK_key hk
    obtain ⟨b, rfl, hb⟩ := hy.tkey
    cases ry
    obtain ⟨ks, dd, ns, rt, _⟩ := hd.tup I hK ha
    have g := rt.get (.tup q)
    refine call_meetsIn PySem.F.slot_dict_get dd.typeIs PySem.F.entry_dict_get (PySem.F.args_dict_get_3 _ _ _) (meetsH_dict_get_default (nestedKind X.prog X.w) a b ns z) ⟨nroom hu, _, ks, ⟨hb.nested I hK _ _ _ rfl, hq⟩, dd, ?_⟩
    cases e1 : atKey ks (.tup q) with
    | none =>
      cases e2 : dGet kvs (NestedKey.tup q).data with
      | none => exact h x _ _ (I.tok _) rx (by rw [e2]; exact hx)
      | some z => rw [e1, e2] at g; exact g.elim
    | some p =>
      cases e2 : dGet kvs (NestedKey.tup q).data with
      | none => rw [e1, e2] at g; exact g.elim
      | some z =>
        rw [e1, e2] at g
        obtain ⟨v, rv, rp⟩ := g
        exact h v _ _ (I.tok _) rv (by rw [e2]; exact rp)
def methI : String → Meth → String
  | "list", .index => "list.index"
  | "tuple", .index => "tuple.index"
  | _, _ => "dict.get"
theorem meth_run (hK : X.kw = K) (hu : X.A.units + 65 < cLine) {pins : List (Addr × Obj)} {s : Shared} {m : Meth} {x : V} {vs : List V} {u : Value} {us : List Value} {Q : VK} {ds : List D} {r0 : En} {N0 : NS} {H0 : Hp} {σ' : L2.St} (I : Inv X pins σ H s) (rx : RelV x u) (rv : Vals vs us)
    (g0 : Good K Fa pr r0 σ' N0 H0) (sp : Stp r0 σ' N0 H0 r N H) (g : Good K Fa pr r σ' N H) (hx : DR K N H x d) (hd : DRs K N H vs ds) (h : PostG K Fa Ca pr W (relE K Fa) r0 σ' N0 H0 Q (optR r (methD m d ds))) :
    wpAny (model X.prog X.w) X.A (call (.builtin (methI (methT m d) m)) (u :: us)) (EP X pins σ Q) X.xe s := by
  subst hK
  cases e : methD m d ds with
  | none => rw [e] at h; exact h.elim
  | some ow =>
    obtain ⟨o, w⟩ := ow
    rw [e] at h
    change PostG X.kw Fa Ca pr W (relE X.kw Fa) r0 σ' N0 H0 Q (.ok (.val o w) r) at h
    unfold methD at e
    split at e
    · split at e
      · rename_i xs y hs
        obtain ⟨j, e1, e2⟩ := Option.map_eq_some_iff.mp e
        cases e2
        obtain ⟨z, h1, _, h3, h4⟩ := indexD_at e1
        obtain ⟨v, rfl, hv⟩ := hd.one
        obtain ⟨a, ys, rfl, _, _⟩ := hx.lst
        exact mt_indexD hu pins s σ H _ _ u us Q I rx rv ⟨a, v, _, _, j, z, rfl, rfl, hx.dpS hs.1, hv.dpS hs.2, hs.1, hs.2, h1, h3, fun m z' lt q => h4 m z' (by omega) q, h.val sp g (.int _)⟩
      · cases e
    · split at e
      · rename_i xs y hs
        obtain ⟨j, e1, e2⟩ := Option.map_eq_some_iff.mp e
        cases e2
        obtain ⟨z, h1, _, h3, h4⟩ := indexD_at e1
        obtain ⟨v, rfl, hv⟩ := hd.one
        obtain ⟨a, ys, rfl, q1, q2⟩ := hx.tup
        obtain ⟨w, rfl, rw'⟩ := rv.one
        cases rx
        exact tuple_place hu I q1.sq (RpA.dp _ _ q2 (SeqAt.canLay_of_shaped hs.1)) (hv.dpS hs.2) rw' hs.1 hs.2 h1 h3 (fun m z' lt q => h4 m z' (by omega) q) (h.val sp g (.int _))
      · cases e
    · split at e
      · rename_i kvs k hk
        cases e
        obtain ⟨v, rfl, hv⟩ := hd.one
        obtain ⟨a, rfl, hdd⟩ := hx.dicR
        obtain ⟨w, rfl, rw'⟩ := rv.one
        cases rx
        exact dget_any rfl hu I hdd hv rw' hk fun v' w' s' I' rv' rp => ⟨v', H, I', rv', h.val sp g rp⟩
      · cases e
    · split at e
      · rename_i kvs k x' hk
        cases e
        obtain ⟨v, z, rfl, hv, hz⟩ := hd.two
        obtain ⟨a, rfl, hdd⟩ := hx.dicR
        cases rv with
        | cons rv1 rv2 =>
          obtain ⟨w, rfl, rw'⟩ := Vals.one rv2
          cases rx
          exact dget2_any rfl hu I hdd hv rv1 (hz.frz hk.2) rw' hk.1 fun v' w' s' I' rv' rp => ⟨v', H, I', rv', h.val sp g rp⟩
      · cases e
    · cases e
theorem methI_of (m : Meth) (d : D) (ne : methT m d ≠ "") : PlainAttrs (methT m d) ∧ Slot (methT m d) (methN m) (methI (methT m d) m) ∧ typeOf (.builtin (methI (methT m d) m)) = pure (.type "method_descriptor") := by
  cases m <;> cases d <;> first
    | exact absurd rfl ne
    | exact ⟨PySem.F.plainAttrs_list, PySem.F.slot_list_index, PySem.F.type_list_index⟩
    | exact ⟨PySem.F.plainAttrs_tuple, PySem.F.slot_tuple_index, PySem.F.type_tuple_index⟩
    | exact ⟨PySem.F.plainAttrs_dict, PySem.F.slot_dict_get, PySem.F.type_dict_get⟩
theorem fe_meth {m : Meth} {c : CE} {cs : CEs} {o e : Expr} {es : List Expr} {apos cpos : Pos} (hK : X.kw = K) (hu : X.A.units + 65 < cLine) (hbase : ∀ n, attributeBase o n X.env (eval o X.env) = eval o X.env) (hline : (apos.endLine == cpos.line) = true) (hp : (e :: es).all plainX = true) (hl : (e :: es).length < 30)
    (h1 : PE X o (tE K Fa Ca pr W (evE G c))) (h2 : PA X (e :: es) (tL K Fa Ca pr W (evEs G cs))) : PE X (.Call (.Attribute o (methN m) apos) (e :: es) [] cpos) (tE K Fa Ca pr W (evE G (.meth m c cs))) := by
  have hp' := hp
  simp only [List.all_cons, Bool.and_eq_true] at hp'
  refine ⟨fun pins s σ H Q I ⟨r, N, g, h⟩ => ?_⟩
  simp only [evE] at h
  refine wpAny_Call_method_late (hbase _) (back_few hp hl) hline rfl (thn (h1.run pins s σ H _ I (tG_bind (rel := relE K Fa) g (Stp.refl g) g h)) fun ov s1 ⟨x, H1, I1, rx, y, r1, N1, t1, sp1, g1, ⟨q1, f1⟩, p1⟩ => ?_)
  cases ed : dref r1 y with
  | none => simp only [ed] at p1; exact p1.elim
  | some d0 =>
    simp only [ed] at p1
    have dr0 := q1.look g1 ed
    by_cases ne : methT m d0 = ""
    · rw [if_pos ne] at p1
      exact p1.elim
    · rw [if_neg ne] at p1
      obtain ⟨z1, z2, z3⟩ := methI_of m d0 ne
      obtain ⟨w1, w2⟩ := dr0.tyO hK (methT_ty ne) ne pins σ s1 ov I1 rx
      refine ⟨methT m d0, _, z1, z2, z3, w1, w2, ?_⟩
      have hA := h2.run cpos pins s1 σ H1 _ I1 (tG_bind (rel := relL K Fa) g sp1 g1 p1)
      rw [star_cons hp'.1] at hA ⊢
      refine Calls.callWith_builtin (by show (false || (backTo cpos (starEach es X.env)).any (·.1)) = false; rw [back_any hp'.2]; rfl) (Calls.evalArgs_plain ?_)
      refine thn hA fun us s2 ⟨vs, H2, I2, rv, ys, r2, N2, t2, sp2, g2, ⟨q2, f2, n2⟩, p2⟩ => ?_
      have q1' := RR.stp q1 t2 g1
      cases e1 : dref r2 y with
      | none => simp only [e1] at p2; exact p2.elim
      | some d1 =>
        cases e2 : drefs r2 ys with
        | none => simp only [e1, e2] at p2; exact p2.elim
        | some ds =>
          simp only [e1, e2] at p2
          split at p2
          · rename_i same
            rw [methT_same same]
            exact meth_run hK hu I2 rx rv g sp2 g2 (q1'.look g2 e1) (drefs_ok g2 q2 e2) p2
          · exact p2.elim
end
end E2

set_option Elab.async false
set_option linter.all false
set_option maxRecDepth 100000
set_option maxHeartbeats 1000000
namespace E2
variable [Tbs]
open PySem PySem.Spec PyProof.Rows L2
section
variable {K : Kw} {Fa Ca : Nat → Addr} {pr : List (Nat × Addr)} {W : WX} {r r1 r' : En} {σ : L2.St} {N N1 N' : NS} {H H1 H' : Hp} {v : V} {d : D} {a : Addr} {α β γ δ : Type} {X : Cx} {G : Gs} {pos : Pos}

/-! ### isinstance(x, T) -/
theorem DR.tyX (h : DR K N H v d) (nd : ∀ kvs, d ≠ .dict kvs) : TyX K.fr H v (.type (tyName d)) := by
  rcases h with h | ⟨a, rfl, _, h⟩
  · cases h with
    | non => exact .base .non
    | bl b => exact .base (.bl b)
    | int b => exact .base (.int b)
    | str b => exact .base (.str b)
    | lst h _ =>
      rcases h with ⟨h | ⟨o, h⟩, _⟩ | ⟨o, its, n, h, hc, _⟩
      · exact .base (.lst h)
      · exact .base (.frz h)
      · exact .kList h hc
    | tup h _ =>
      rcases h with ⟨o, h, _⟩ | ⟨o, its, n, h, _, hc, _⟩
      · exact .fTuple h
      · exact .kTuple h hc
    | dk _ _ _ => exact absurd rfl (nd _)
    | dt _ _ _ _ => exact absurd rfl (nd _)
  · cases d with
    | list ds => obtain ⟨xs, h, _⟩ := h; exact .base (.lst h)
    | dict ds => exact absurd rfl (nd _)
    | _ => exact h.elim
theorem isTyD_out {t : String} {b : Bool} (h : isTyD d t = some b) : (∀ kvs, d ≠ .dict kvs) ∧ kitB (tyName d) t = some b := by
  unfold isTyD at h
  split at h
  · cases h
  · rename_i hn
    exact ⟨fun kvs z => hn kvs z, h⟩
theorem fe_isin {c : CE} {T : String} {x : Str} {p p2 : Pos} {e : Expr} (hK : X.kw = K) (hg : Gl X "isinstance") (hm : X.mg "isinstance" = none) (hg2 : Gl X x) (hm2 : X.mg x = none) (hv2 : bootBuiltins x = some (.type T)) (hn : x ≠ "__name__") (hdb : (x == ("__debug__" : Str)) = false) (hpl : plainX e = true)
    (h1 : PE X e (tE K Fa Ca pr W (evE G c))) : PE X (.Call (.Name "isinstance" p) [e, .Name x p2] [] pos) (tE K Fa Ca pr W (evE G (.isin c T))) := by
  subst hK
  have hnm : PE X (.Name x p2) (tC (.ty T)) := pe_bltn hg2 hm2 hv2 rfl hn hdb
  refine PE.imp (pe_callB (id := "isinstance") call_isi hg hm (by rfl) (pa_cons h1 (pa_cons hnm pa_nil (star_cons (by rfl))) (star_cons hpl)) (by decide) (by decide) (star_cons hpl) (back_any (by rfl))) fun σ H Q ⟨r, N, g, h⟩ => ?_
  simp only [evE] at h
  show tE X.kw Fa Ca pr W (evE G c) σ H _
  refine tG_mono (tG_bind (rel := relE X.kw Fa) g (Stp.refl g) g h) fun v H1 ⟨y, r1, N1, t1, s1, g1, ⟨q1, f1⟩, p1⟩ => ?_
  cases e : dref r1 y with
  | none => simp only [e] at p1; exact p1.elim
  | some d =>
    simp only [e] at p1
    cases e2 : isTyD d T with
    | none => simp only [e2] at p1; exact p1.elim
    | some b =>
      simp only [e2] at p1
      obtain ⟨nd, hk⟩ := isTyD_out e2
      exact ⟨v, .ty T, _, _, b, rfl, .ty T, (q1.look g1 e).tyX nd, kit_ty hk, p1.val s1 g1 (.bl b)⟩

/-! ### list(range(..)), tuple(range(..)) -/
theorem rg_rp (a b : Int) : RpA K N H (rgV a b) (rngI a b) := by
  unfold rgV rngI
  generalize List.range (b - a).toNat = l
  induction l with
  | nil => exact .nil
  | cons i l ih => exact .cons (.int _) ih
def tRgF (te : L2.St → Hp → (Int → Int → Hp → Prop) → Prop) : TE := fun σ H Q => te σ H fun a b H1 => RgOk a b ∧ NewT H1 Q (rgV a b)
theorem pe_rgF {e : Expr} {te : L2.St → Hp → (Int → Int → Hp → Prop) → Prop} {p : Pos} (hc : X.calm = true) (hg : Gl X "tuple") (hm : X.mg "tuple" = none) (he : PRg X e te) (na : plainX e = true) : PE X (.Call (.Name "tuple" p) [e] [] pos) (tRgF te) :=
  ⟨fun pins s σ H Q I h => Call_ (ld_blt I hg hm boot_tuple (PyProof.Rows.callWith_type1 (args_cons (thn (he pins s σ H _ I h) fun x s1 ⟨rr, a, b, t1, t2, t3, H1, ex, isr, I1, ok, q⟩ => args_nil (by
    subst ex
    obtain ⟨b1, b2, b3, b4, b5⟩ := ok
    refine call_tuple_range (n := (b - a).toNat) (I1.ok.hd hc) isr (small_one b1 b2 b3 b4) (rangeSize_nat a b) b5 fun h' tk acc hk hi => ?_
    have z := pushQ (I1.kept (t' := tk) hk) (vals_rg hi) (by rw [rgV_length, sizeLine_eq]; omega) q
    rw [Array.toArray_toList] at z
    exact z)) (star_cons na)) (star_cons na)))⟩
inductive RgArgs (X : Cx) (K : Kw) (Fa Ca : Nat → Addr) (pr : List (Nat × Addr)) (W : WX) (G : Gs) : List Expr → CEs → Prop
  | one {e : Expr} {c : CE} (hp : plainX e = true) (h : PE X e (tE K Fa Ca pr W (evE G c))) : RgArgs X K Fa Ca pr W G [e] (.cons c .nil)
  | two {e f : Expr} {c b : CE} (hp : plainX e = true) (hp2 : plainX f = true) (h : PE X e (tE K Fa Ca pr W (evE G c))) (h2 : PE X f (tE K Fa Ca pr W (evE G b))) : RgArgs X K Fa Ca pr W G [e, f] (.cons c (.cons b .nil))
/-- what the bounds are, and what is still to do -/
def tRgE (K : Kw) (Fa Ca : Nat → Addr) (pr : List (Nat × Addr)) (W : WX) (G : Gs) (cs : CEs) : L2.St → Hp → (Int → Int → Hp → Prop) → Prop := fun σ H Q => ∃ (r : En) (N : NS), Good K Fa pr r σ N H ∧
  match evEs G cs r with
  | .ok xs r' => ∃ ds is, drefs r' xs = some ds ∧ rngD ds = some is ∧ ∀ a b H' N', Stp r σ N H r' N' H' → Good K Fa pr r' σ N' H' → is = rngI a b → rngOk a b = true → (rngFew ds = true → (b - a).toNat ≤ 2 ^ 24) → Q a b H'
  | .exc x r' => ∀ cls d H' N', Stp r σ N H r' N' H' → Good K Fa pr r' σ N' H' → XR K Ca x cls d H' → W cls d σ H'
  | .stuck => False
theorem prg_E {es : List Expr} {cs : CEs} {p : Pos} (hg : Gl X "range") (hm : X.mg "range" = none) (ra : RgArgs X K Fa Ca pr W G es cs) : PRg X (.Call (.Name "range" p) es [] pos) (tRgE K Fa Ca pr W G cs) := by
  cases ra with
  | @one e c hp h =>
    intro pins s σ H Q I ⟨r, N, g, h'⟩
    refine prg_1 hg hm h (star_cons hp) pins s σ H Q I ⟨r, N, g, ?_⟩
    have ee : evEs G (.cons c .nil) r = (evE G c r).bind fun x r1 => .ok [x] r1 := by simp only [evEs]; rfl
    rw [ee] at h'
    cases ev : evE G c r with
    | stuck => rw [ev] at h'; exact h'.elim
    | exc x r' => rw [ev] at h'; exact h'
    | ok y r' =>
      rw [ev] at h'
      obtain ⟨ds, is, e1, e2, q⟩ := h'
      intro v H' N' st g' rl
      simp only [drefs] at e1
      split at e1
      · rename_i d ds' ed ed'
        cases ed'
        cases e1
        have lk := rl.1.look g' ed
        cases d <;> simp only [rngD] at e2 <;> try (cases e2)
        rename_i n
        split at e2
        · cases e2
          refine ⟨n, lk.int, q 0 n H' N' st g' rfl (by assumption) fun z => ?_⟩
          simpa [rngFew] using z
        · cases e2
      · cases e1
  | @two e f c b hp hp2 h h2 =>
    intro pins s σ H Q I ⟨r, N, g, h'⟩
    refine prg_2 hg hm h h2 (star_cons hp) (star_cons hp2) (back_any (by simp [hp2])) pins s σ H Q I ⟨r, N, g, ?_⟩
    have ee : evEs G (.cons c (.cons b .nil)) r = (evE G c r).bind fun x r1 => (evE G b r1).bind fun y r2 => .ok [x, y] r2 := by
      simp only [evEs]
      cases evE G c r <;> first | rfl | (simp only [Rs.bind]; rename_i y r'; cases evE G b r' <;> rfl)
    rw [ee] at h'
    cases ev : evE G c r with
    | stuck => rw [ev] at h'; exact h'.elim
    | exc x r' => rw [ev] at h'; exact h'
    | ok y r' =>
      rw [ev] at h'
      intro v H' N' st g' rl
      refine ⟨r', N', g', ?_⟩
      simp only [Rs.bind] at h'
      cases ev2 : evE G b r' with
      | stuck => rw [ev2] at h'; exact h'.elim
      | exc x r2 =>
        rw [ev2] at h'
        exact fun cls d H2 N2 st2 g2 xr => h' cls d H2 N2 (st.trans g st2) g2 xr
      | ok z r2 =>
        rw [ev2] at h'
        obtain ⟨ds, is, e1, e2, q⟩ := h'
        intro w H2 N2 st2 g2 rl2
        have rl1 := RR.stp rl.1 st2 g'
        simp only [drefs] at e1
        cases ed : dref r2 y with
        | none => rw [ed] at e1; cases e1
        | some d =>
          cases ed2 : dref r2 z with
          | none => rw [ed, ed2] at e1; cases e1
          | some d2 =>
            rw [ed, ed2] at e1
            cases e1
            have lk := rl1.look g2 ed
            have lk2 := rl2.1.look g2 ed2
            cases d <;> cases d2 <;> simp only [rngD] at e2 <;> try (cases e2)
            rename_i n m
            split at e2
            · cases e2
              refine ⟨n, m, lk.int, lk2.int, q n m H2 N2 (st.trans g st2) g2 rfl (by assumption) fun z => ?_⟩
              simpa [rngFew] using z
            · cases e2
theorem rngOk_out {a b : Int} (h : rngOk a b = true) (h2 : (b - a).toNat ≤ 2 ^ 24) : RgOk a b := by
  simp only [rngOk, decide_eq_true_eq] at h
  exact ⟨h.1, h.2.1, h.2.2.1, h.2.2.2, h2⟩
theorem fe_rngL {es : List Expr} {cs : CEs} {p p2 pos2 : Pos} (hc : X.calm = true) (hgl : Gl X "list") (hml : X.mg "list" = none) (hg : Gl X "range") (hm : X.mg "range" = none) (ra : RgArgs X K Fa Ca pr W G es cs) :
    PE X (.Call (.Name "list" p) [.Call (.Name "range" p2) es [] pos2] [] pos) (tE K Fa Ca pr W (evE G (.rng false cs))) := by
  refine PE.imp (pe_listRg hc hgl hml (prg_E hg hm ra) (star_cons (by rfl))) fun σ H Q ⟨r, N, g, h⟩ => ⟨r, N, g, ?_⟩
  simp only [evE] at h
  cases ev : evEs G cs r with
  | stuck => rw [ev] at h; exact h.elim
  | exc x r' => rw [ev] at h; exact h
  | ok xs r' =>
    rw [ev] at h
    simp only [Rs.bind] at h
    cases e1 : drefs r' xs with
    | none => simp only [e1] at h; exact h.elim
    | some ds =>
      cases e2 : rngD ds with
      | none => simp only [e1, e2] at h; exact h.elim
      | some is =>
        simp only [e1, e2] at h
        split at h
        · rename_i hf
          simp only [Bool.false_eq_true, if_false] at h
          exact ⟨ds, is, e1, e2, fun a b H' N' st g' ei ok few => ⟨rngOk_out ok (few hf), fun p hp => h.newL g st g' hp (ei ▸ rg_rp a b)⟩⟩
        · exact h.elim
theorem fe_rngT {es : List Expr} {cs : CEs} {p p2 pos2 : Pos} (hc : X.calm = true) (hgl : Gl X "tuple") (hml : X.mg "tuple" = none) (hg : Gl X "range") (hm : X.mg "range" = none) (ra : RgArgs X K Fa Ca pr W G es cs) :
    PE X (.Call (.Name "tuple" p) [.Call (.Name "range" p2) es [] pos2] [] pos) (tE K Fa Ca pr W (evE G (.rng true cs))) := by
  refine PE.imp (pe_rgF hc hgl hml (prg_E hg hm ra) (by rfl)) fun σ H Q ⟨r, N, g, h⟩ => ⟨r, N, g, ?_⟩
  simp only [evE] at h
  cases ev : evEs G cs r with
  | stuck => rw [ev] at h; exact h.elim
  | exc x r' => rw [ev] at h; exact h
  | ok xs r' =>
    rw [ev] at h
    simp only [Rs.bind] at h
    cases e1 : drefs r' xs with
    | none => simp only [e1] at h; exact h.elim
    | some ds =>
      cases e2 : rngD ds with
      | none => simp only [e1, e2] at h; exact h.elim
      | some is =>
        simp only [e1, e2] at h
        split at h
        · rename_i hf
          simp only [if_true] at h
          exact ⟨ds, is, e1, e2, fun a b H' N' st g' ei ok few => ⟨rngOk_out ok (few hf), fun p ob hp oc od => h.newT g st g' hp oc od (ei ▸ rg_rp a b)⟩⟩
        · exact h.elim

/-! ### globals: constants, defs -/
/-- a constant of the module, whatever the heap is -/
def GcR (K : Kw) (v : V) (d : D) : Prop := ∀ (N : NS) (H : Hp), Rp K N H v d
theorem fe_gc {g : Nat} {x : Str} {u : Value} {w : V} {dd : D} (hg : Gl X x) (hm : X.mg x = some u) (hr : RelV w u) (hd : G.gcs g = some dd) (hw : GcR K w dd) (hdb : (x == ("__debug__" : Str)) = false) : PE X (.Name x pos) (tE K Fa Ca pr W (evE G (.gc g))) :=
  PE.imp (pe_glob hg hm hr hdb) fun σ H Q ⟨r, N, g, h⟩ => by
    simp only [evE, hd] at h
    exact PostG.val h (Stp.refl g) g (hw N H)
theorem fe_fnv {k : Nat} {x : Str} (hg : Gl X x) (hm : X.mg x = some (.ref (Fa k))) (hdb : (x == ("__debug__" : Str)) = false) : PE X (.Name x pos) (tE K Fa Ca pr W (evE G (.fnv k))) :=
  PE.imp (pe_glob hg hm (v := .ref (Fa k)) rfl hdb) fun σ H Q ⟨r, N, g, h⟩ => by
    simp only [evE] at h
    exact h (.ref (Fa k)) H N (Stp.refl g) g ⟨rfl, trivial⟩
end
end E2

set_option Elab.async false
set_option linter.all false
set_option maxRecDepth 100000
set_option maxHeartbeats 1000000
namespace E2
variable [Tbs]
open PySem PySem.Spec PyProof.Rows L2
section
variable {K : Kw} {Fa Ca : Nat → Addr} {pr : List (Nat × Addr)} {W : WX} {r r1 r' : En} {σ : L2.St} {N N1 N' : NS} {H H1 H' : Hp} {v : V} {d : D} {a : Addr} {α β γ δ : Type} {X : Cx} {G : Gs} {pos : Pos}

/-! ### methods that change the list in a slot -/
theorem ext_own {o : HO} (ha : N a) (hs : Mut (H a)) : Ext (fun b => b ∈ [a]) N H N (upd H a o) where
  keep := fun b u e n _ => by rw [upd_ne (fun z => n (by simp [z]))]; exact e
  tab := tabs_mut ha hs
  new := fun b h => .inl h
  stay := fun b h _ => h
  sub := fun b h => by simp only [List.mem_singleton] at h; rw [h]; exact ha
  there := fun b h => by
    by_cases z : b = a
    · subst z; rw [upd_same]; simp
    · rw [upd_ne z]; exact h
/-- the thing in slot i is written -/
theorem own_write {i : Nat} {d d' : D} {o : HO} {r0 : En} {N0 : NS} {H0 : Hp} (g0 : Good K Fa pr r0 σ N0 H0) (s : Stp r0 σ N0 H0 r N H) (g : Good K Fa pr r σ N H) (hi : r[i]? = some (some (.dat true d))) (hs : σ[i]? = some (some (.ref a))) (mo : Mut (some o))
    (rm : Fz N H N (upd H a o) → RpM K N (upd H a o) a d') : Good K Fa pr (r.set i (some (.dat true d'))) σ N (upd H a o) ∧ Stp r0 σ N0 H0 (r.set i (some (.dat true d'))) N (upd H a o) := by
  obtain ⟨v, h1, a', rfl, h2, h3⟩ := g.slot i _ hi
  rw [hs] at h1
  cases h1
  have E := ext_own (o := o) h2 (g.trk a h2)
  have sl : SlA σ r [i] [a] := ⟨⟨hs, d, hi⟩, trivial⟩
  refine put_good g0 s g sl (by simp) E (fun b hb => ?_) (ds := [d']) ⟨⟨h2, rm E.rps⟩, trivial⟩ (by simp [putRefs])
  by_cases z : b = a
  · subst z; rw [upd_same]; exact mo
  · rw [upd_ne z]; exact g.trk b hb
theorem own_list (g : Good K Fa pr r σ N H) {i : Nat} {ds : List D} (hi : r[i]? = some (some (.dat true (.list ds)))) : ∃ a xs, σ[i]? = some (some (.ref a)) ∧ N a ∧ H a = some (.lst xs) ∧ RpA K N H xs ds := by
  obtain ⟨v, h1, a, rfl, h2, xs, h3, h4⟩ := g.slot i _ hi
  exact ⟨a, xs, h1, h2, h3, h4⟩
def mutN : MMeth → Str
  | .append => "append"
  | .pop => "pop"
  | .popAt => "pop"
  | .insert => "insert"
  | .extend => "extend"
def mutI : MMeth → String
  | .append => "list.append"
  | .pop => "list.pop"
  | .popAt => "list.pop"
  | .insert => "list.insert"
  | .extend => "list.extend"
theorem mutD_list {m : MMeth} {ds : List D} {w : D × D} (h : mutD m d ds = some w) : ∃ xs, d = .list xs := by
  unfold mutD at h
  split at h <;> first | exact ⟨_, rfl⟩ | cases h
theorem RpA.oneR {vs : List V} {y : D} (h : RpA K N H vs [y]) : ∃ v, vs = [v] ∧ Rp K N H v y := by
  cases h with
  | cons h t => cases t; exact ⟨_, rfl, h⟩
theorem seqIx_pos {k : Int} {n : Nat} (h : 0 ≤ k) (l : k.toNat < n) : seqIndex? k n = some k.toNat := by
  unfold seqIndex?
  have e : (if k < 0 then k + (n : Int) else k) = k := if_neg (by omega)
  simp only [e]
  rw [if_pos (by simp only [Bool.and_eq_true, decide_eq_true_eq]; omega)]
theorem mut_run {pins : List (Addr × Obj)} {s : Shared} {m : MMeth} {vs : List V} {us : List Value} {Q : VK} {ds : List D} {i : Nat} {w d' : D} {r0 : En} {N0 : NS} {H0 : Hp} (I : Inv X pins σ H s) (rv : Vals vs us)
    (g0 : Good K Fa pr r0 σ N0 H0) (sp : Stp r0 σ N0 H0 r N H) (g : Good K Fa pr r σ N H) (hd : RpA K N H vs ds) (hi : r[i]? = some (some (.dat true d))) (e : mutD m d ds = some (w, d')) (hs : σ[i]? = some (some (.ref a)))
    (h : PostG K Fa Ca pr W (relE K Fa) r0 σ N0 H0 Q (.ok (.val false w) (r.set i (some (.dat true d'))))) :
    wpAny (model X.prog X.w) X.A (call (.builtin (mutI m)) (.ref a :: us)) (EP X pins σ Q) X.xe s := by
  obtain ⟨xs, rfl⟩ := mutD_list e
  obtain ⟨a', ys, h1, h2, h3, h4⟩ := own_list g hi
  rw [hs] at h1
  cases h1
  have fin : ∀ {zs : List V} {es : List D} {v : V}, d' = .list es → RpA K N H zs es → Rp K N H v w → Q v (upd H a (.lst zs)) := fun {zs es v} e1 q1 q2 => by
    subst e1
    obtain ⟨g', s'⟩ := own_write (o := .lst zs) (d' := .list es) g0 sp g hi hs trivial fun st => ⟨zs, upd_same, q1.keep st g.trk⟩
    exact h.val s' g' (q2.ext (ext_own h2 (g.trk a h2)) g.trk)
  unfold mutD at e
  split at e
  · rename_i xs' y q
    cases q
    split at e
    · cases e
      obtain ⟨v, rfl, rv'⟩ := hd.oneR
      exact mt_append pins s σ H (.ref a) _ (.ref a) us Q I rfl rv ⟨a, ys, v, rfl, rfl, h3, by rw [h4.length]; assumption, fin rfl (h4.append (.cons rv' .nil)) .non⟩
    · cases e
  · rename_i xs' q
    cases q
    split at e
    · rename_i y hy
      cases e
      cases hd
      obtain ⟨v, hv, rp⟩ := h4.get hy
      rw [← h4.length] at hv
      exact mt_pop pins s σ H (.ref a) _ (.ref a) us Q I rfl rv ⟨a, ys, v, rfl, rfl, h3, hv, fin rfl h4.dropLast rp⟩
    · cases e
  · rename_i xs' k q
    cases q
    split at e
    · rename_i hk
      split at e
      · rename_i y hy
        cases e
        obtain ⟨v, hv, rp⟩ := h4.get hy
        obtain ⟨v1, rfl, rk⟩ := hd.oneR
        cases rk
        have lt := (List.getElem?_eq_some_iff.mp hv).1
        exact mt_popAt pins s σ H (.ref a) _ (.ref a) us Q I rfl rv ⟨a, ys, k, k.toNat, v, rfl, rfl, h3, by omega, hk.2, seqIx_pos hk.1 lt, hv, fin rfl (h4.eraseIdx _) rp⟩
      · cases e
    · cases e
  · cases e
theorem mutI_of (m : MMeth) : PlainAttrs "list" ∧ Slot "list" (mutN m) (mutI m) ∧ typeOf (.builtin (mutI m)) = pure (.type "method_descriptor") := by
  cases m
  · exact ⟨PySem.F.plainAttrs_list, PySem.F.slot_list_append, PySem.F.type_list_append⟩
  · exact ⟨PySem.F.plainAttrs_list, PySem.F.slot_list_pop, PySem.F.type_list_pop⟩
  · exact ⟨PySem.F.plainAttrs_list, PySem.F.slot_list_pop, PySem.F.type_list_pop⟩
  · exact ⟨PySem.F.plainAttrs_list, PySem.F.slot_list_insert, PySem.F.type_list_insert⟩
  · exact ⟨PySem.F.plainAttrs_list, PySem.F.slot_list_extend, PySem.F.type_list_extend⟩
theorem typeIs_list {pins : List (Addr × Obj)} {s : Shared} {xs : List V} (I : Inv X pins σ H s) (h : H a = some (.lst xs)) : s.TypeIs (.ref a) "list" ∧ ∀ b, Value.ref a = .ref b → ∃ ob, s.heap.get? b = some ob ∧ ob.dict = none :=
  tyV_is I (x := .ref a) rfl (.inl ⟨rfl, xs, .inl (.inl h)⟩)
theorem fe_mut {m : MMeth} {cs : CEs} {i : Nat} {x : Str} {p apos cpos : Pos} {e : Expr} {es : List Expr} (hN : X.N[i]? = some x) (hv : Vis X.env.scope x) (hd : (x == ("__debug__" : Str)) = false) (hcd : (x == ("__classdict__" : Str)) = false) (hbase : ∀ n, attributeBase (.Name x p) n X.env (eval (.Name x p) X.env) = eval (.Name x p) X.env) (hline : (apos.endLine == cpos.line) = true) (hp : (e :: es).all plainX = true) (hl : (e :: es).length < 30)
    (h2 : PA X (e :: es) (tL K Fa Ca pr W (evEs G cs))) : PE X (.Call (.Attribute (.Name x p) (mutN m) apos) (e :: es) [] cpos) (tE K Fa Ca pr W (evE G (.mut m i cs))) := by
  have hp' := hp
  simp only [List.all_cons, Bool.and_eq_true] at hp'
  refine ⟨fun pins s σ H Q I ⟨r, N, g, h⟩ => ?_⟩
  simp only [evE] at h
  split at h
  · rename_i ds0 ei
    obtain ⟨a, xs, k1, k2, k3, k4⟩ := own_list g ei
    refine wpAny_Call_method_late (hbase _) (back_few hp hl) hline rfl (thn ((pe_var (pos := p) hN hv hd hcd).run pins s σ H (fun v H1 => v = .ref a ∧ H1 = H) I ⟨.ref a, k1, rfl, rfl⟩) fun u s1 ⟨v, H1, I1, rx, e1, e2⟩ => ?_)
    subst e1 e2
    cases rx
    obtain ⟨z1, z2, z3⟩ := mutI_of m
    obtain ⟨w1, w2⟩ := typeIs_list I1 k3
    refine ⟨"list", _, z1, z2, z3, w1, w2, ?_⟩
    have hA := h2.run cpos pins s1 σ H1 _ I1 (tG_bind (rel := relL K Fa) g (Stp.refl g) g h)
    rw [star_cons hp'.1] at hA ⊢
    refine Calls.callWith_builtin (by show (false || (backTo cpos (starEach es X.env)).any (·.1)) = false; rw [back_any hp'.2]; rfl) (Calls.evalArgs_plain ?_)
    refine thn hA fun us s2 ⟨vs, H2, I2, rv, ys, r2, N2, t2, sp2, g2, ⟨q2, f2, n2⟩, p2⟩ => ?_
    cases e1 : takes r2 ys with
    | none => simp only [e1] at p2; exact p2.elim
    | some dr =>
      obtain ⟨ds, r3⟩ := dr
      simp only [e1] at p2
      obtain ⟨N3, g3, s3, q3, _⟩ := takes_ok g (dr := (ds, r3)) sp2 q2 n2 f2 g2 e1
      split at p2
      · rename_i d ei3
        split at p2
        · rename_i w d' em
          exact mut_run I2 rv g s3 g3 q3 ei3 em k1 p2
        · exact p2.elim
      · exact p2.elim
  · exact h.elim
theorem fe_mut0 {m : MMeth} {i : Nat} {x : Str} {p apos cpos : Pos} (hN : X.N[i]? = some x) (hv : Vis X.env.scope x) (hd : (x == ("__debug__" : Str)) = false) (hcd : (x == ("__classdict__" : Str)) = false) (hbase : ∀ n, attributeBase (.Name x p) n X.env (eval (.Name x p) X.env) = eval (.Name x p) X.env) (hline : (apos.endLine == cpos.line) = true) :
    PE X (.Call (.Attribute (.Name x p) (mutN m) apos) [] [] cpos) (tE K Fa Ca pr W (evE G (.mut m i .nil))) := by
  refine ⟨fun pins s σ H Q I ⟨r, N, g, h⟩ => ?_⟩
  simp only [evE, evEs, Rs.bind, takes] at h
  split at h
  · rename_i ds0 ei
    obtain ⟨a, xs, k1, k2, k3, k4⟩ := own_list g ei
    refine wpAny_Call_method0_late (hbase _) hline (thn ((pe_var (pos := p) hN hv hd hcd).run pins s σ H (fun v H1 => v = .ref a ∧ H1 = H) I ⟨.ref a, k1, rfl, rfl⟩) fun u s1 ⟨v, H1, I1, rx, e1, e2⟩ => ?_)
    subst e1 e2
    cases rx
    obtain ⟨z1, z2, z3⟩ := mutI_of m
    obtain ⟨w1, w2⟩ := typeIs_list I1 k3
    refine ⟨"list", _, z1, z2, z3, w1, w2, Calls.callWith_builtin rfl (PySem.evalArgs_none ?_)⟩
    split at h
    · rename_i d ei3
      split at h
      · rename_i w d' em
        exact mut_run I1 .nil g (Stp.refl g) g .nil ei3 em k1 h
      · exact h.elim
    · exact h.elim
  · exact h.elim

/-! ### calls of defs -/
theorem passA_len : ∀ {sig : List Bool} {xs : List R} {r : En} {used : List Nat} {w : List Ag × List Nat × En}, passA r used sig xs = some w → sig.length = xs.length
  | [], [], _, _, _, _ => rfl
  | false :: bs, .fn k :: xs, r, used, w, e => by
    simp only [passA] at e
    split at e
    · rename_i e1; exact congrArg (· + 1) (passA_len e1)
    · cases e
  | false :: bs, .val o d :: xs, r, used, w, e => by
    simp only [passA] at e
    split at e
    · rename_i e1; exact congrArg (· + 1) (passA_len e1)
    · cases e
  | false :: bs, .sl i :: xs, r, used, w, e => by
    simp only [passA] at e
    split at e
    · cases e
    · split at e
      · split at e
        · rename_i e1; exact congrArg (· + 1) (passA_len e1)
        · cases e
      · cases e
  | true :: bs, .sl i :: xs, r, used, w, e => by
    simp only [passA] at e
    split at e
    · cases e
    · split at e
      · split at e
        · rename_i e1; exact congrArg (· + 1) (passA_len e1)
        · cases e
      · cases e
  | [], _ :: _, _, _, _, e => by simp [passA] at e
  | _ :: _, [], _, _, _, e => by simp [passA] at e
  | true :: _, .val _ _ :: _, _, _, _, e => by simp [passA] at e
  | true :: _, .fn _ :: _, _, _, _, e => by simp [passA] at e
theorem RRs.length : ∀ {vs : List V} {xs : List R}, RRs K Fa r σ N H vs xs → vs.length = xs.length
  | [], [], _ => rfl
  | _ :: _, _ :: _, h => congrArg (· + 1) (RRs.length h.2)
  | [], _ :: _, h => h.elim
  | _ :: _, [], h => h.elim
/-- what is known of the def k -/
structure FD (X : Cx) (K : Kw) (Fa Ca : Nat → Addr) (G : Gs) (kr k : Nat) (fd : FuncData) (ps : List Str) : Prop where
  ok : FnOk X.prog X.w X.K X.mg X.base (L2.CX X.prog X.w) kr (Fa k) fd ps (spec K Fa Ca ps.length (G.call k))
  keep : PySem.W.keepIn X.K (.ref (Fa k)) = true
  binds : Binds X.K fd ps []
  np : (G.sig k).length = ps.length
theorem FD.spec {kr k : Nat} {fd : FuncData} {ps : List Str} (F : FD X K Fa Ca G kr k fd ps) {xs : List R} {vs : List V} {r0 : En} {N0 : NS} {H0 : Hp} {Q : VK} (g0 : Good K Fa pr r0 σ N0 H0) (s : Stp r0 σ N0 H0 r N H) (g : Good K Fa pr r σ N H) (h : RRs K Fa r σ N H vs xs) (f : ∀ a ∈ frA vs xs, N0 a → own r0 σ a) (nd : (frA vs xs).Nodup)
    (p : PostG K Fa Ca pr W (relE K Fa) r0 σ N0 H0 Q (callR G k xs r)) : E2.spec K Fa Ca ps.length (G.call k) vs H Q (WE W σ) := by
  refine callR_ok ?_ g0 s g h f nd p
  cases e : passA r [] (G.sig k) xs with
  | none => unfold callR at p; rw [e] at p; exact p.elim
  | some w => rw [h.length, ← passA_len e, F.np]
theorem fe_call {k kr : Nat} {fd : FuncData} {ps : List Str} {cs : CEs} {x : Str} {p : Pos} {e : Expr} {es : List Expr} (F : FD X K Fa Ca G kr k fd ps) (hr : Room kr X.A) (tk : Takes X W) (hg : Gl X x) (hm : X.mg x = some (.ref (Fa k))) (hdb : (x == ("__debug__" : Str)) = false) (hp : (e :: es).all plainX = true)
    (h1 : PA X (e :: es) (tL K Fa Ca pr W (evEs G cs))) : PE X (.Call (.Name x p) (e :: es) [] pos) (tE K Fa Ca pr W (evE G (.call k cs))) := by
  simp only [List.all_cons, Bool.and_eq_true] at hp
  refine PE.imp (pe_callS F.ok hr hg hm F.keep F.binds (E := WE W) (fun σ => passAt tk σ) h1 hdb (star_cons hp.1) (back_any hp.2)) fun σ H Q ⟨r, N, g, h⟩ => ?_
  simp only [evE] at h
  show tL K Fa Ca pr W (evEs G cs) σ H _
  exact tG_mono (tG_bind (rel := relL K Fa) g (Stp.refl g) g h) fun vs H1 ⟨ys, r1, N1, t1, s1, g1, ⟨q1, f1, n1⟩, p1⟩ => F.spec g s1 g1 q1 f1 n1 p1
theorem frA_nil : frA [] [] = [] := by simp [frA]
theorem fe_call0 {k kr : Nat} {fd : FuncData} {ps : List Str} {x : Str} {p : Pos} (F : FD X K Fa Ca G kr k fd ps) (hr : Room kr X.A) (tk : Takes X W) (hg : Gl X x) (hm : X.mg x = some (.ref (Fa k))) (hdb : (x == ("__debug__" : Str)) = false) :
    PE X (.Call (.Name x p) [] [] pos) (tE K Fa Ca pr W (evE G (.call k .nil))) := by
  refine ⟨fun pins s σ H Q I ⟨r, N, g, h⟩ => wpAny_Call_Name_kw (ld_glob I hg hm ?_ hdb)⟩
  simp only [evE, evEs, Rs.bind] at h
  exact PySem.W.callWith_K0 I.kIn F.keep (run_fnS (us := []) F.ok hr F.binds (passAt tk σ) I .nil (F.spec (xs := []) g (Stp.refl g) g trivial (fun a z => absurd z (by simp [frA])) (by simp [frA]) h))
/-- a def that stands in a slot -/
theorem fe_callv {kr i : Nat} {cs : CEs} {x : Str} {p : Pos} {e : Expr} {es : List Expr} (F : ∀ k, G.sig k ≠ [] → ∃ fd ps, FD X K Fa Ca G kr k fd ps) (hr : Room kr X.A) (tk : Takes X W) (hN : X.N[i]? = some x) (hv : Vis X.env.scope x) (hdb : (x == ("__debug__" : Str)) = false) (hcd : (x == ("__classdict__" : Str)) = false) (hp : (e :: es).all plainX = true)
    (h1 : PA X (e :: es) (tL K Fa Ca pr W (evEs G cs))) : PE X (.Call (.Name x p) (e :: es) [] pos) (tE K Fa Ca pr W (evE G (.callv i cs))) := by
  simp only [List.all_cons, Bool.and_eq_true] at hp
  refine ⟨fun pins s σ H Q I ⟨r, N, g, h⟩ => ?_⟩
  simp only [evE] at h
  split at h
  · rename_i k ei
    split at h
    · rename_i hs
      obtain ⟨v, h3, h4⟩ := g.slot i _ ei
      have h4 : v = .ref (Fa k) := h4
      subst h4
      obtain ⟨fd, ps, F⟩ := F k hs.2
      refine wpAny_Call_Name_kw (thn ((pe_var (pos := p) hN hv hdb hcd).run pins s σ H (fun v H1 => v = .ref (Fa k) ∧ H1 = H) I ⟨_, h3, rfl, rfl⟩) fun u s1 ⟨v, H1, I1, rx, e1, e2⟩ => ?_)
      subst e1 e2
      cases rx
      refine PySem.W.callWith_K (h₀ := X.base) I1.ok.mod.kin F.keep (thn (h1.run pos pins s1 σ H1 _ I1 (tG_bind (rel := relL K Fa) g (Stp.refl g) g h)) fun us s2 ⟨vs, H2, I2, rv, ys, r2, N2, t2, s2, g2, ⟨q2, f2, n2⟩, p2⟩ => ⟨I2.kIn, ?_⟩) (star_cons hp.1) (back_any hp.2)
      exact run_fnS F.ok hr F.binds (passAt tk σ) I2 rv (F.spec g s2 g2 q2 f2 n2 p2)
    · exact h.elim
  · exact h.elim
end
end E2

set_option Elab.async false
set_option linter.all false
set_option maxRecDepth 100000
set_option maxHeartbeats 2000000
/-! ## enumerate over a tuple -/
namespace PySem
open AutoSeq1 (wpAny_loadPart')
theorem meetsEnT (l : Addr) (items : Array Value) (n : Nat) (dct : Option Addr) (sl : Array (Option Value)) :
    Meets (Builtin.«enumerate.__new__» ⟨[.type "enumerate", .ref l], []⟩) (fun _ R s => s.heap.get? l = some { cls := .type "tuple", dict := dct, data := .seq items n, slots := sl } ∧
      R (.ok (.ret (.ref (s.heap.push { cls := .type "tuple_iterator", data := .fields #[.ref l, .int 0 0] }).objs.size)))
        { s with heap := (s.heap.push { cls := .type "tuple_iterator", data := .fields #[.ref l, .int 0 0] }).push { cls := .type "enumerate", data := .fields #[.none, .bool false, .ref s.heap.objs.size, rawInt 0, .none, .none] } }) :=
  .of_wp fun prog w A R s h => by
    obtain ⟨h0, g0, d0, t0, os0⟩ := s
    obtain ⟨hl, h⟩ := h
    have sub := sub_enumerate
    have isT : Heap.IsTuple (Shared.heap ⟨h0, g0, d0, t0, os0⟩) l items := ⟨_, hl, rfl, n, rfl⟩
    wp_walk using wpAny_loadPart' hl
    refine wpAny_stack_any fun _ => wpAny_pure ?_
    split
    · rename_i c _ _ _ _ _
      by_cases hc : (c == Value.type "enumerate") = true
      · simp only [hc]
        wp_walk using wpAny_loadPart' hl, wpAny_pyIter_tuple isT
        exact ⟨_, rfl, h⟩
      · simp only [hc]
        wp_walk using wpAny_loadPart' hl, wpAny_pyIter_tuple isT
        exact ⟨_, rfl, h⟩
    · wp_walk using wpAny_loadPart' hl, wpAny_pyIter_tuple isT
      exact ⟨_, rfl, h⟩
theorem callEnT {prog : Program} {w : World} {A : Around} {E : Value → Shared → Prop} {s : Shared} {l : Addr} {items : Array Value} {Q : Value → Shared → Prop} (ht : s.heap.IsTuple l items)
    (h : ∀ h', IsEnum h' (s.heap.objs.size + 1) s.heap.objs.size 0 .none → h'.IsTupleIter s.heap.objs.size l 0 → (∀ b o, s.heap.get? b = some o → h'.get? b = some o) → Q (.ref (s.heap.objs.size + 1)) { s with heap := h' }) :
    wpAny (model prog w) A (call (.type "enumerate") [.ref l]) Q E s := by
  obtain ⟨⟨c, dct, dt, sl⟩, q1, q2, n, q3⟩ := ht
  simp only at q2 q3
  subst q2 q3
  refine callType_new F.called_enumerate (by decide) (F.typeCall_enumerate_1 _) (F.newCall_enumerate_1 _) (fun obj => F.args_object_init_2 obj _) F.entry_enumerate_new (meetsEnT l items n dct sl) ⟨q1, ?_⟩
  generalize hi : ({ cls := .type "tuple_iterator", data := .fields #[.ref l, .int 0 0] } : Obj) = ito
  have sz : (s.heap.push ito).objs.size = s.heap.objs.size + 1 := Heap.size_push ..
  rw [sz]
  have en : IsEnum ((s.heap.push ito).push { cls := .type "enumerate", data := .fields #[.none, .bool false, .ref s.heap.objs.size, rawInt 0, .none, .none] }) (s.heap.objs.size + 1) s.heap.objs.size 0 .none := by
    have z := Heap.get?_push_size (s.heap.push ito) (o := { cls := .type "enumerate", data := .fields #[.none, .bool false, .ref s.heap.objs.size, rawInt 0, .none, .none] }) rfl
    rw [sz] at z
    exact z
  have ii : (s.heap.push ito).get? s.heap.objs.size = some ito := Heap.get?_push_size _ (by subst hi; rfl)
  exact ⟨⟨_, en, rfl⟩, h _ en ⟨ito, Heap.get?_push_of_some _ ii, by subst hi; rfl, by subst hi; rfl⟩ fun b o x => Heap.get?_push_of_some _ (Heap.get?_push_of_some _ x)⟩
end PySem
namespace E2
variable [Tbs]
open PySem PySem.Spec PyProof.Rows L2
def IteT (K : PySem.W.Frag) (a : Addr) : It :=
  ⟨fun i H => ∃ (xs : List V) (x : V), SqT K H a xs ∧ xs[i]? = some x, fun i H v H' => ∃ T x, v = .ref T ∧ H T = none ∧ H' = upd H T (.tup [.int (i : Nat), x]) ∧ ∀ xs, SqT K H a xs → xs[i]? = some x, fun i H => ∃ xs : List V, SqT K H a xs ∧ xs.length ≤ i⟩
theorem turnEnT {P : Program} {w : World} {K : PySem.W.Frag} {elts : List Expr} {kk : Nat} {tpos : Pos} (a e it : Addr) :
    Turn P w K (.Tuple elts kk tpos) (IteT K a) [e, it] e (fun i h => (∃ old, IsEnum h e it ((i : Nat) : Int) old) ∧ h.IsTupleIter it a i ∧ e ≠ it) where
  mem := by simp
  obj := fun i h ⟨⟨old, he⟩, ⟨o, ho, hc, hd⟩, _⟩ b hb => by
    simp only [List.mem_cons, List.not_mem_nil, or_false] at hb
    rcases hb with rfl | rfl
    · exact ⟨_, he, fun v q => nomatch q⟩
    · exact ⟨o, ho, fun v q => by rw [hd] at q; cases q⟩
  keep := fun i h h' ⟨⟨old, he⟩, hi, hne⟩ k => ⟨⟨old, k e (by simp) _ he⟩, hi.at fun o q => k it (by simp) o q, hne⟩
  item := by
    intro X hP hw hK hc i pins s σ H E I hf ⟨⟨old, he⟩, hit, hne⟩ ⟨xs, x, hq, hx⟩
    subst hP hw hK
    obtain ⟨its, rv, p, hz⟩ := I.tuple hq
    obtain ⟨u, hu, ru⟩ := rv.get hx
    have ee : e < s.heap.objs.size := Heap.lt_size he
    have ei : it < s.heap.objs.size := by obtain ⟨_, q, _⟩ := hit; exact Heap.lt_size q
    have ha : a ≠ it := fun z => by
      have q1 := (hf it (by simp)).1
      subst z
      rcases hq with (h | ⟨o, h⟩) | ⟨o, _, _, h, hcl, _⟩
      · rw [h] at q1; cases q1
      · rw [h] at q1; cases q1
      · obtain ⟨o', h2, h3, _⟩ := hit
        rw [I.kIn _ _ h] at h2
        cases h2
        rw [hcl] at h3
        injection h3 with h3
        exact absurd h3 (by decide)
    have hae : e ∉ [it, a] := by
      simp only [List.mem_cons, List.not_mem_nil, or_false, not_or]
      refine ⟨hne, fun z => ?_⟩
      obtain ⟨o, h2, h3, _⟩ := p
      rw [← z, he] at h2
      cases h2
      injection h3 with h3
      exact absurd h3 (by decide)
    have lt : i < its.toArray.size := by
      rw [List.size_toArray]
      exact (List.getElem?_eq_some_iff.mp hu).1
    refine wpAny_pyNext_enum_itemD (Draws.tuple (A := X.A.in1) (I.ok.hd hc) it a ha its.toArray) he ⟨hit, show s.heap.IsTuple a its.toArray from p⟩ lt hne hae fun y h' tk hy ho hst hT hsz hk => ?_
    have ey : y = u := by
      have : its.toArray[i]? = some u := by simpa using hu
      rw [this] at hy
      exact (Option.some.inj hy).symm
    subst ey
    refine ⟨_, rfl, wpAny_letOwnedTupleGo_enum (s := { s with heap := h', toks := tk + 1 }) ho fun h'' he' sb => ?_⟩
    have hT2 : h''.get? s.heap.objs.size = some { cls := .type "tuple", data := .seq #[.int i tk, y] } := (sb.2 _ (Nat.ne_of_gt ee)).trans hT
    have new : ObjOk X.prog X.w (upd H s.heap.objs.size (.tup [.int (i : Nat), x])) h'' s.heap.objs.size (.tup [.int (i : Nat), x]) :=
      ⟨by show 2 ≤ sizeLine; decide, [.int i tk, y], .cons ⟨_, rfl⟩ (.cons ru .nil), _, hT2, rfl, _, rfl⟩
    have I1 := I.turnedNew (t' := tk + 1) (ch := [e, it]) (h' := h'') (fun b ob hb q => (sb.2 b (fun z => hb (by simp [z]))).trans (hk b ob (fun z => hb (by simp [z])) (fun z => hb (by simp [z])) q)) hf (Nat.le_refl _) new
    refine ⟨.ref s.heap.objs.size, _, I1, rfl, ⟨_, x, rfl, I.hok.fresh (Nat.le_refl _), rfl, fun ys hy => by rw [I.tuple_inj hy hq]; exact hx⟩, ⟨⟨y, ?_⟩, hst.1.at fun o q => (sb.2 it (Ne.symm hne)).trans q, hne⟩, fun b hb => ?_⟩
    · have e1 : ((i + 1 : Nat) : Int) = (i : Int) + 1 := by omega
      rw [e1]
      exact he'
    · have hb' : b < s.heap.objs.size := by
        simp only [List.mem_cons, List.not_mem_nil, or_false] at hb
        rcases hb with rfl | rfl <;> assumption
      rw [upd_ne (Nat.ne_of_lt hb')]
      exact (hf b hb).1
  done := by
    intro X hP hw hK hc i pins s σ H E I hf ⟨⟨old, he⟩, hit, hne⟩ ⟨xs, hq, hx⟩
    subst hP hw hK
    obtain ⟨its, rv, p, hz⟩ := I.tuple hq
    obtain ⟨f0, f1, f2, f3, f4, f5⟩ := hf it (by simp)
    have hl := rv.length
    have D : wpAny (model X.prog X.w) X.A (pyNext (.ref e)) (fun r s1 => r = none ∧ Inv X pins σ H s1) E s := by
      have hT : s.TypeIs (.ref e) "enumerate" := ⟨_, he, rfl⟩
      unfold pyNext
      refine wpAny_bind (wpAny_attempt (wpAny_callSpecial?_slot (name := Str.ofString "__next__") hT F.slot_enumerate_next (wpAny_call_entry F.slot_enumerate_next hT F.entry_enumerate_next ?_ (F.args_enumerate_next_1 _))))
      show wpAny _ _ (field (.ref e) 2 >>= _) _ _ _
      refine wpAny_bind (wpAny_field he rfl (x := .ref it) rfl ?_)
      refine wpAny_bind (wpAny_nextOf_tuple_end (I.ok.hd hc) hit (show s.heap.IsTuple a its.toArray from p) (by simp; omega) fun h' x he' ⟨o, ho, hcl⟩ => ?_)
      refine wpAny_bind (wpAny_isInstance (T := "StopIteration") (b := true) ⟨o, ho, hcl⟩ isSubtype_stop ?_)
      exact wpAny_pure ⟨rfl, I.turned (t' := s.toks) (fun b o hb q => he' b o hb q) f0 f1 f3 f4 f5⟩
    exact D
  self := fun A i s Q E ⟨⟨_, he⟩, _⟩ h => wpAny_pyIter_enum he h
end E2

set_option Elab.async false
set_option linter.all false
set_option maxRecDepth 100000
set_option maxHeartbeats 2000000
namespace E2
variable [Tbs]
open PySem PySem.Spec PyProof.Rows L2 RZ
/-! ## iterators -/
section
variable (K : Kw)
/-- an item that a walk gives: as it stands, or in a new pair -/
def ItR (tq : Tg) (N : NS) (H : Hp) (x : V) (H' : Hp) (d : D) : Prop := (H' = H ∧ Rp K N H x d) ∨ ∃ T xs es, (∃ ts, tq = .tup ts) ∧ x = .ref T ∧ H T = none ∧ H' = upd H T (.tup xs) ∧ d = .tuple es ∧ RpA K N H xs es
def WkD (tq : Tg) (J : It) (ds : List D) (N : NS) (H : Hp) : Prop := ∃ (G : Hp → Prop) (Y : Nat → Hp → V → Hp → Prop), Walk J ds.length G Y ∧ ∀ N' H', Fz N H N' H' → G H' ∧ ∀ i x H'' d, Y i H' x H'' → ds[i]? = some d → ItR K tq N' H' x H'' d
def relI (tq : Tg) : Rel (List D) It := fun ds _ _ _ _ N H J => WkD K tq J ds N H
abbrev tIt (tq : Tg) (Fa Ca : Nat → Addr) (pr : List (Nat × Addr)) (W : WX) (f : En → Rs (List D)) : TI := tG K Fa Ca pr W (relI K tq) f
end
section
variable {K : Kw} {Fa Ca : Nat → Addr} {pr : List (Nat × Addr)} {W : WX} {r r1 r' : En} {σ : L2.St} {N N1 N' : NS} {H H1 H' : Hp} {v : V} {d : D} {a : Addr} {α β γ δ : Type} {X : Cx} {G : Gs} {pos : Pos} {tg : Expr} {tq : Tg}
theorem Fz.refl : Fz N H N H := fun _ _ e n _ => ⟨e, n⟩
theorem LsR.fz {xs : List V} (h : LsR K N H a xs) (f : Fz N H N' H') : SqL K.fr H' a xs := by
  rcases h with ⟨h | ⟨o, h⟩, n⟩ | h
  · exact .inl (.inl (f _ _ h n (by intro _ z; cases z)).1)
  · exact .inl (.inr ⟨o, (f _ _ h n (by intro _ z; cases z)).1⟩)
  · exact .inr h
theorem Tp.fz {xs : List V} (h : Tp K H a xs) (t : ∀ b, N b → Mut (H b)) (f : Fz N H N' H') : SqT K.fr H' a xs := by
  rcases h with ⟨o, h, c⟩ | h
  · refine .inl (.inr ⟨o, (f _ _ h (fun z => ?_) (by intro _ z; cases z)).1⟩)
    have := t a z
    rw [h] at this
    exact this
  · exact Tp.sq (H := H') (.inr h)
theorem RpA.fz {xs : List V} {ds : List D} (h : RpA K N H xs ds) (t : ∀ b, N b → Mut (H b)) (f : Fz N H N' H') : RpA K N' H' xs ds := h.keep f t
theorem wk_list {xs : List V} {ds : List D} (h : LsR K N H a xs) (ra : RpA K N H xs ds) (t : ∀ b, N b → Mut (H b)) : WkD K tq (Itl K.fr a) ds N H := by
  refine ⟨_, YAt xs, ra.length ▸ walk_list, fun N' H' f => ⟨h.fz f, fun i x H'' d y e => .inl ⟨y.1, ?_⟩⟩⟩
  obtain ⟨z, h1, h2⟩ := (ra.fz t f).get e
  rw [y.2] at h1
  cases h1
  exact h2
theorem wk_tup {xs : List V} {ds : List D} (h : Tp K H a xs) (ra : RpA K N H xs ds) (t : ∀ b, N b → Mut (H b)) : WkD K tq (Itt K.fr a) ds N H := by
  refine ⟨_, YAt xs, ra.length ▸ walk_tup, fun N' H' f => ⟨h.fz t f, fun i x H'' d y e => .inl ⟨y.1, ?_⟩⟩⟩
  obtain ⟨z, h1, h2⟩ := (ra.fz t f).get e
  rw [y.2] at h1
  cases h1
  exact h2
theorem rngI_length (a b : Int) : (rngI a b).length = (b - a).toNat := by simp [rngI]
theorem rngI_get {a b : Int} {i : Nat} {d : D} (h : (rngI a b)[i]? = some d) : d = .int (a + i) := by
  unfold rngI at h
  rw [List.getElem?_map] at h
  obtain ⟨j, h1, h2⟩ := Option.map_eq_some_iff.mp h
  obtain ⟨h3, h4⟩ := List.getElem?_eq_some_iff.mp h1
  simp at h4
  rw [← h2, ← h4]
theorem wk_range (a b : Int) : WkD K tq (Itr a (b - a).toNat) (rngI a b) N H := by
  refine ⟨fun _ => True, YFn fun i => .int (a + i), rngI_length a b ▸ walk_range, fun N' H' f => ⟨trivial, fun i x H'' d y e => .inl ⟨y.1, ?_⟩⟩⟩
  rw [y.2, rngI_get e]
  exact .int _
theorem enumT_length : ∀ (n : Nat) (ds : List D), (enumT n ds).length = ds.length
  | _, [] => rfl
  | n, d :: ds => congrArg (· + 1) (enumT_length (n + 1) ds)
theorem enumT_get : ∀ {n : Nat} {ds : List D} {i : Nat} {d : D}, (enumT n ds)[i]? = some d → ∃ e, ds[i]? = some e ∧ d = .tuple [.int ((n + i : Nat)), e]
  | _, [], _, _, h => by simp [enumT] at h
  | n, x :: ds, 0, d, h => by
    simp only [enumT, List.getElem?_cons_zero] at h
    cases h
    exact ⟨x, rfl, rfl⟩
  | n, x :: ds, i + 1, d, h => by
    simp only [enumT, List.getElem?_cons_succ] at h
    obtain ⟨e, h1, h2⟩ := enumT_get h
    exact ⟨e, h1, by rw [h2]; congr 4; omega⟩
theorem pairItem (ht : ∃ ts, tq = .tup ts) {xs : List V} {es : List D} {x : V} {H'' : Hp} {d : D} {p q : Nat → Option V} {i : Nat} (y : YPair p q i H' x H'') (f : ∀ u w, p i = some u → q i = some w → ∃ e1 e2, d = .tuple [e1, e2] ∧ Rp K N' H' u e1 ∧ Rp K N' H' w e2) : ItR K tq N' H' x H'' d := by
  obtain ⟨T, u, w, h1, h2, h3, h4, h5⟩ := y
  obtain ⟨e1, e2, h6, h7, h8⟩ := f u w h4 h5
  exact .inr ⟨T, [u, w], [e1, e2], ht, h1, h2, h3, h6, .cons h7 (.cons h8 .nil)⟩
theorem walk_enumT {K : PySem.W.Frag} {xs : List V} : Walk (IteT K a) xs.length (fun H => SqT K H a xs) (YPair (fun i => some (.int (i : Nat))) (fun i => xs[i]?)) :=
  ⟨fun i _ hi q => ⟨xs, xs[i], q, by simp [hi]⟩, fun _ q => ⟨xs, q, Nat.le_refl _⟩, fun i _ _ _ _ q ⟨T, x, h1, h2, h3, h4⟩ => ⟨T, .int (i : Nat), x, h1, h2, h3, rfl, h4 xs q⟩⟩
theorem walk_zipT {K : PySem.W.Frag} {b : Addr} {xs ys : List V} {n : Nat} (hn : n = min xs.length ys.length) : Walk (ItzT K a b) n (fun H => SqT K H a xs ∧ SqT K H b ys) (YPair (fun i => xs[i]?) (fun i => ys[i]?)) :=
  ⟨fun i _ hi q => ⟨xs, ys, xs[i]'(by omega), ys[i]'(by omega), q.1, q.2, by simp [show i < xs.length by omega], by simp [show i < ys.length by omega]⟩, fun _ q => ⟨xs, ys, q.1, q.2, by omega⟩, fun i _ _ _ _ q ⟨T, x, z, h1, h2, h3, h4, h5⟩ => ⟨T, x, z, h1, h2, h3, h4 xs q.1, h5 ys q.2⟩⟩
theorem wk_enumL (ht : ∃ ts, tq = .tup ts) {xs : List V} {ds : List D} (h : LsR K N H a xs) (ra : RpA K N H xs ds) (t : ∀ b, N b → Mut (H b)) : WkD K tq (Ite K.fr a) (enumT 0 ds) N H := by
  refine ⟨_, _, (enumT_length 0 ds).trans ra.length.symm ▸ walk_enum, fun N' H' f => ⟨h.fz f, fun i x H'' d y e => pairItem ht (xs := []) (es := []) y fun u w p q => ?_⟩⟩
  obtain ⟨e1, h1, h2⟩ := enumT_get e
  obtain ⟨z, h3, h4⟩ := (ra.fz t f).get h1
  rw [h3] at q
  cases q
  cases p
  exact ⟨_, e1, by rw [h2, Nat.zero_add], .int _, h4⟩
theorem wk_enumT (ht : ∃ ts, tq = .tup ts) {xs : List V} {ds : List D} (h : Tp K H a xs) (ra : RpA K N H xs ds) (t : ∀ b, N b → Mut (H b)) : WkD K tq (IteT K.fr a) (enumT 0 ds) N H := by
  refine ⟨_, _, (enumT_length 0 ds).trans ra.length.symm ▸ walk_enumT, fun N' H' f => ⟨h.fz t f, fun i x H'' d y e => pairItem ht (xs := []) (es := []) y fun u w p q => ?_⟩⟩
  obtain ⟨e1, h1, h2⟩ := enumT_get e
  obtain ⟨z, h3, h4⟩ := (ra.fz t f).get h1
  rw [h3] at q
  cases q
  cases p
  exact ⟨_, e1, by rw [h2, Nat.zero_add], .int _, h4⟩
theorem zipT_length : ∀ (xs ys : List D), (zipT xs ys).length = min xs.length ys.length
  | [], _ => by simp [zipT]
  | _ :: _, [] => by simp [zipT]
  | x :: xs, y :: ys => by simp only [zipT, List.length_cons, zipT_length xs ys]; omega
theorem zipT_get : ∀ {xs ys : List D} {i : Nat} {d : D}, (zipT xs ys)[i]? = some d → ∃ e f, xs[i]? = some e ∧ ys[i]? = some f ∧ d = .tuple [e, f]
  | [], _, _, _, h => by simp [zipT] at h
  | _ :: _, [], _, _, h => by simp [zipT] at h
  | x :: xs, y :: ys, 0, d, h => by
    simp only [zipT, List.getElem?_cons_zero] at h
    cases h
    exact ⟨x, y, rfl, rfl, rfl⟩
  | x :: xs, y :: ys, i + 1, d, h => by
    simp only [zipT, List.getElem?_cons_succ] at h
    obtain ⟨e, f, h1, h2, h3⟩ := zipT_get h
    exact ⟨e, f, h1, h2, h3⟩
theorem zipV_len {xs ys : List V} {ds es : List D} (r1 : RpA K N H xs ds) (r2 : RpA K N H ys es) : (zipT ds es).length = min xs.length ys.length := by rw [zipT_length, r1.length, r2.length]
theorem wk_zipL (ht : ∃ ts, tq = .tup ts) {b : Addr} {xs ys : List V} {ds es : List D} (h : LsR K N H a xs) (ra : RpA K N H xs ds) (h2 : LsR K N H b ys) (rb : RpA K N H ys es) (t : ∀ b, N b → Mut (H b)) : WkD K tq (Itz K.fr a b) (zipT ds es) N H := by
  refine ⟨_, _, walk_zip (zipV_len ra rb), fun N' H' f => ⟨⟨h.fz f, h2.fz f⟩, fun i x H'' d y e => pairItem ht (xs := []) (es := []) y fun u w p q => ?_⟩⟩
  obtain ⟨e1, e2, h3, h4, h5⟩ := zipT_get e
  obtain ⟨z, h6, h7⟩ := (ra.fz t f).get h3
  obtain ⟨z2, h8, h9⟩ := (rb.fz t f).get h4
  rw [h6] at p
  rw [h8] at q
  cases p
  cases q
  exact ⟨e1, e2, h5, h7, h9⟩
theorem wk_zipT (ht : ∃ ts, tq = .tup ts) {b : Addr} {xs ys : List V} {ds es : List D} (h : Tp K H a xs) (ra : RpA K N H xs ds) (h2 : Tp K H b ys) (rb : RpA K N H ys es) (t : ∀ b, N b → Mut (H b)) : WkD K tq (ItzT K.fr a b) (zipT ds es) N H := by
  refine ⟨_, _, walk_zipT (zipV_len ra rb), fun N' H' f => ⟨⟨h.fz t f, h2.fz t f⟩, fun i x H'' d y e => pairItem ht (xs := []) (es := []) y fun u w p q => ?_⟩⟩
  obtain ⟨e1, e2, h3, h4, h5⟩ := zipT_get e
  obtain ⟨z, h6, h7⟩ := (ra.fz t f).get h3
  obtain ⟨z2, h8, h9⟩ := (rb.fz t f).get h4
  rw [h6] at p
  rw [h8] at q
  cases p
  cases q
  exact ⟨e1, e2, h5, h7, h9⟩

/-! ### the iterators of the program -/
theorem Inv.fresh1 {pins : List (Addr × Obj)} {s : Shared} (I : Inv X pins σ H s) : ∀ b ∈ [s.heap.objs.size], FpOk X pins H b := fun b hb => by
  rw [List.mem_singleton.mp hb]
  exact I.fpOk (Nat.le_refl _) (I.hok.fresh (Nat.le_refl _))
theorem fi_seq {c : CE} {e : Expr} (hK : X.kw = K) (h1 : PE X e (tE K Fa Ca pr W (evE G c))) : PI X tg e (tIt K tq Fa Ca pr W (evI G (.seq c))) := by
  subst hK
  refine ⟨fun pins s σ H R I ⟨r, N, g, h⟩ => ?_⟩
  simp only [evI] at h
  refine thn (h1.run pins s σ H _ I (tG_bind (rel := relE X.kw Fa) g (Stp.refl g) g h)) fun v s1 ⟨x, H1, I1, rx, y, r1, N1, t1, s1', g1, ⟨q1, f1⟩, p1⟩ => ?_
  cases e1 : take r1 y with
  | none => simp only [e1] at p1; exact p1.elim
  | some dr =>
    obtain ⟨d, r2⟩ := dr
    simp only [e1] at p1
    obtain ⟨N2, g2, s2, q2, _⟩ := RR.take (dr := (d, r2)) g s1' q1 f1 g1 e1
    cases d <;> simp only [seqOf] at p1 <;> try exact p1.elim
    · cases q2 with
      | lst hl ra =>
        cases rx
        obtain ⟨its, rv, p, hz⟩ := I1.list hl.sq
        exact wpAny_pyIter_list p.isList ⟨_, [_], _, _, H1, rfl, I1.kept (t' := s1.toks) fun b o e => Heap.get?_push_of_some _ e, turn_list _ _, ⟨_, Heap.get?_push_size _ rfl, rfl, rfl⟩, Inv.fresh1 I1, p1 _ H1 N2 s2 g2 (wk_list hl ra g2.trk)⟩
    · cases q2 with
      | tup hl ra =>
        cases rx
        obtain ⟨its, rv, p, hz⟩ := I1.tuple hl.sq
        exact wpAny_pyIter_tuple (show s1.heap.IsTuple _ its.toArray from p) ⟨_, [_], _, _, H1, rfl, I1.kept (t' := s1.toks) fun b o e => Heap.get?_push_of_some _ e, turn_tuple _ _, ⟨_, Heap.get?_push_size _ rfl, rfl, rfl⟩, Inv.fresh1 I1, p1 _ H1 N2 s2 g2 (wk_tup hl ra g2.trk)⟩
theorem PI.imp {e : Expr} {t t' : TI} (h : PI X tg e t) (i : ∀ σ H Q, t' σ H Q → t σ H Q) : PI X tg e t' := ⟨fun pins s σ H Q I q => h.run pins s σ H Q I (i σ H Q q)⟩
theorem rng_fin {ys : List R} {vs : List V} {R : It → Hp → Prop} {r0 : En} {N0 : NS} {H0 : Hp} (s : Stp r0 σ N0 H0 r N H) (g : Good K Fa pr r σ N H) (q : RRs K Fa r σ N H vs ys) (p : PostG K Fa Ca pr W (relI K tq) r0 σ N0 H0 R (match drefs r ys with
    | some ds => match rngD ds with
      | some is => .ok is r
      | none => .stuck
    | none => .stuck)) : (∃ j : Int, vs = [.int j] ∧ -(2 ^ 62) ≤ j ∧ j < 2 ^ 62 ∧ R (Itr 0 j.toNat) H) ∨ ∃ i j : Int, vs = [.int i, .int j] ∧ (-(2 ^ 62) ≤ i ∧ i < 2 ^ 62 ∧ -(2 ^ 62) ≤ j ∧ j < 2 ^ 62) ∧ R (Itr i (j - i).toNat) H := by
  cases e : drefs r ys with
  | none => simp only [e] at p; exact p.elim
  | some ds =>
    simp only [e] at p
    have dr := drefs_ok g q e
    cases e2 : rngD ds with
    | none => simp only [e2] at p; exact p.elim
    | some is =>
      simp only [e2] at p
      unfold rngD at e2
      split at e2
      · split at e2
        · rename_i n ok
          cases e2
          obtain ⟨v, rfl, hv⟩ := dr.one
          have hv := hv.int
          subst hv
          simp only [rngOk, decide_eq_true_eq] at ok
          have z := p _ H N s g (wk_range 0 n)
          rw [Int.sub_zero] at z
          exact .inl ⟨n, rfl, ok.2.2.1, ok.2.2.2, z⟩
        · cases e2
      · split at e2
        · rename_i n m ok
          cases e2
          obtain ⟨v, w, rfl, hv, hw⟩ := dr.two
          have hv := hv.int
          have hw := hw.int
          subst hv hw
          simp only [rngOk, decide_eq_true_eq] at ok
          exact .inr ⟨n, m, rfl, ok, p _ H N s g (wk_range n m)⟩
        · cases e2
      · cases e2
theorem RRs.one {y : R} (h : RR K Fa r σ N H v y) : RRs K Fa r σ N H [v] [y] := ⟨h, trivial⟩
theorem fi_rng1 {c : CE} {e : Expr} {p : Pos} (hg : Gl X "range") (hm : X.mg "range" = none) (hp : plainX e = true) (h1 : PE X e (tE K Fa Ca pr W (evE G c))) : PI X tg (.Call (.Name "range" p) [e] [] pos) (tIt K tq Fa Ca pr W (evI G (.rng (.cons c .nil)))) := by
  refine PI.imp (pi_range1 hg hm (pa_cons h1 pa_nil (star_cons hp)) (star_cons hp)) fun σ H R ⟨r, N, g, h⟩ => ?_
  simp only [evI] at h
  have ee : evEs G (.cons c .nil) r = (evE G c r).bind fun x r1 => .ok [x] r1 := by simp only [evEs]; rfl
  rw [ee] at h
  have e3 : ∀ {α β γ : Type} (x : Rs α) (f : α → En → Rs β) (k : β → En → Rs γ), (x.bind f).bind k = x.bind fun a r => (f a r).bind k := fun x f k => by cases x <;> rfl
  rw [e3] at h
  show tE K Fa Ca pr W (evE G c) σ H _
  refine tG_mono (tG_bind (rel := relE K Fa) g (Stp.refl g) g h) fun v H1 ⟨y, r1, N1, t1, s1, g1, ⟨q1, f1⟩, p1⟩ => ?_
  rcases rng_fin s1 g1 (RRs.one q1) p1 with ⟨j, e1, h2⟩ | ⟨i, j, e1, h2⟩
  · exact ⟨j, e1, h2⟩
  · cases e1
theorem fi_rng2 {c d : CE} {e f : Expr} {p : Pos} (hg : Gl X "range") (hm : X.mg "range" = none) (hp : plainX e = true) (hp2 : plainX f = true) (h1 : PE X e (tE K Fa Ca pr W (evE G c))) (h2 : PE X f (tE K Fa Ca pr W (evE G d))) : PI X tg (.Call (.Name "range" p) [e, f] [] pos) (tIt K tq Fa Ca pr W (evI G (.rng (.cons c (.cons d .nil))))) := by
  have st : ∀ {env : Env}, starEach [e, f] env = [(false, eval e env), (false, eval f env)] := fun {env} => by rw [star_cons hp, star_cons hp2]; rfl
  refine PI.imp (pi_range2 hg hm (pa_cons h1 (pa_cons h2 pa_nil (star_cons hp2)) (star_cons hp)) st (by rw [star_cons hp2]; rfl)) fun σ H R ⟨r, N, g, h⟩ => ?_
  simp only [evI] at h
  have e3 : ∀ {α β γ : Type} (x : Rs α) (f : α → En → Rs β) (k : β → En → Rs γ), (x.bind f).bind k = x.bind fun a r => (f a r).bind k := fun x f k => by cases x <;> rfl
  have ee : evEs G (.cons c (.cons d .nil)) r = (evE G c r).bind fun x r1 => (evE G d r1).bind fun y r2 => .ok [x, y] r2 := by
    simp only [evEs]
    cases evE G c r <;> first | rfl | (simp only [Rs.bind]; rename_i y r'; cases evE G d r' <;> rfl)
  rw [ee, e3] at h
  show tE K Fa Ca pr W (evE G c) σ H _
  refine tG_mono (tG_bind (rel := relE K Fa) g (Stp.refl g) g h) fun v H1 ⟨y, r1, N1, t1, s1, g1, ⟨q1, f1⟩, p1⟩ => ?_
  rw [e3] at p1
  show tE K Fa Ca pr W (evE G d) σ H1 _
  refine tG_mono (tG_bind (rel := relE K Fa) g s1 g1 p1) fun v2 H2 ⟨y2, r2, N2, t2, s2, g2, ⟨q2, f2⟩, p2⟩ => ?_
  have qq : RRs K Fa r2 σ N2 H2 [v, v2] [y, y2] := ⟨q1.stp t2 g1, q2, trivial⟩
  rcases rng_fin (vs := [v, v2]) (ys := [y, y2]) s2 g2 qq p2 with ⟨j, e1, h2⟩ | ⟨i, j, e1, h2⟩
  · cases e1
  · exact ⟨i, j, e1, h2⟩
theorem fi_enum (ht : ∃ ts, tq = .tup ts) {c : CE} {e : Expr} {p tpos : Pos} {elts : List Expr} {kk : Nat} (hK : X.kw = K) (hg : Gl X "enumerate") (hm : X.mg "enumerate" = none) (hp : plainX e = true) (h1 : PE X e (tE K Fa Ca pr W (evE G c))) :
    PI X (.Tuple elts kk tpos) (.Call (.Name "enumerate" p) [e] [] pos) (tIt K tq Fa Ca pr W (evI G (.enum (.cons c .nil)))) := by
  subst hK
  have h2 : PA X [e] (tL X.kw Fa Ca pr W (evEs G (.cons c .nil))) := fe_cons hp h1 fe_nil
  refine ⟨fun pins s σ H R I ⟨r, N, g, h⟩ => ?_⟩
  simp only [evI] at h
  refine Call_ (ld_blt I hg hm boot_enumerate (PyProof.Rows.callWith_type1 (thn (h2.run pos pins s σ H _ I (tG_bind (rel := relL X.kw Fa) g (Stp.refl g) g h)) fun us s1 ⟨vs, H1, I1, rv, ys, r1, N1, t1, sp, g1, ⟨q1, f1, n1⟩, p1⟩ => ?_) (star_cons hp) rfl))
  split at p1
  · rename_i d r2 e1
    obtain ⟨N2, g2, s2, q2, _⟩ := takes_ok g (dr := ([d], r2)) sp q1 n1 f1 g1 e1
    obtain ⟨v, rfl, rd⟩ := RpA.oneR q2
    obtain ⟨u, rfl, ru⟩ := rv.one
    have fr2 : ∀ b ∈ [s1.heap.objs.size + 1, s1.heap.objs.size], FpOk X pins H1 b := fun b hb => by
      have hle : s1.heap.objs.size ≤ b := by
        simp only [List.mem_cons, List.not_mem_nil, or_false] at hb
        omega
      exact I1.fpOk hle (I1.hok.fresh hle)
    cases d <;> simp only [seqOf] at p1 <;> try exact p1.elim
    · cases rd with
      | lst hl ra =>
        cases ru
        obtain ⟨its, rv', pl, hz⟩ := I1.list hl.sq
        exact call_enumerate_list pl.isList fun h' he hit _ hk => wpAny_pyIter_enum he ⟨_, [_, _], _, _, H1, rfl, I1.kept (t' := s1.toks) hk, turn_enum _ _ _, ⟨⟨.none, he⟩, hit, Nat.succ_ne_self _⟩, fr2, p1 _ H1 N2 s2 g2 (wk_enumL ht hl ra g2.trk)⟩
    · cases rd with
      | tup hl ra =>
        cases ru
        obtain ⟨its, rv', pl, hz⟩ := I1.tuple hl.sq
        exact callEnT (show s1.heap.IsTuple _ its.toArray from pl) fun h' he hit hk => wpAny_pyIter_enum he ⟨_, [_, _], _, _, H1, rfl, I1.kept (t' := s1.toks) hk, turnEnT _ _ _, ⟨⟨.none, he⟩, hit, Nat.succ_ne_self _⟩, fr2, p1 _ H1 N2 s2 g2 (wk_enumT ht hl ra g2.trk)⟩
  · exact p1.elim
theorem fi_zip (ht : ∃ ts, tq = .tup ts) {cs : CEs} {e f : Expr} {p tpos : Pos} {elts : List Expr} {kk : Nat} (hK : X.kw = K) (hg : Gl X "zip") (hm : X.mg "zip" = none) (hp : plainX e = true) (hp2 : plainX f = true) (h1 : PA X [e, f] (tL K Fa Ca pr W (evEs G cs))) :
    PI X (.Tuple elts kk tpos) (.Call (.Name "zip" p) [e, f] [] pos) (tIt K tq Fa Ca pr W (evI G (.zip cs))) := by
  subst hK
  refine PI.imp (pi_zipA hg hm h1 (star_cons hp) (back_any (by simp [hp2]))) fun σ H R ⟨r, N, g, h⟩ => ?_
  simp only [evI] at h
  show tL X.kw Fa Ca pr W (evEs G cs) σ H _
  refine tG_mono (tG_bind (rel := relL X.kw Fa) g (Stp.refl g) g h) fun vs H1 ⟨ys, r1, N1, t1, s1, g1, ⟨q1, f1, n1⟩, p1⟩ => ?_
  split at p1
  · rename_i d e' r2 e1
    obtain ⟨N2, g2, s2, q2, _⟩ := takes_ok g (dr := ([d, e'], r2)) s1 q1 n1 f1 g1 e1
    cases q2 with
    | cons rd q2 =>
      obtain ⟨w, rfl, rw'⟩ := RpA.oneR q2
      unfold zipD at p1
      split at p1
      · rename_i zs ez
        split at ez
        · cases ez
          cases rd with
          | lst h2 ra =>
            cases rw' with
            | lst h3 rb => exact ⟨_, _, _, _, rfl, .inl ⟨h2.sq, h3.sq, p1 _ H1 N2 s2 g2 (wk_zipL ht h2 ra h3 rb g2.trk)⟩⟩
        · cases ez
          cases rd with
          | tup h2 ra =>
            cases rw' with
            | tup h3 rb => exact ⟨_, _, _, _, rfl, .inr ⟨h2.sq, h3.sq, p1 _ H1 N2 s2 g2 (wk_zipT ht h2 ra h3 rb g2.trk)⟩⟩
        · cases ez
      · exact p1.elim
  · exact p1.elim
end
end E2

set_option Elab.async false
set_option linter.all false
set_option maxRecDepth 100000
set_option maxHeartbeats 2000000
namespace E2
variable [Tbs]
open PySem PySem.Spec PyProof.Rows L2
/-! ## slots written -/
/-- slots that are not by-reference parameters -/
def NoPr (pr : List (Nat × Addr)) (i : Nat) : Prop := ∀ p ∈ pr, p.1 ≠ i
section
variable {K : Kw} {Fa Ca : Nat → Addr} {pr : List (Nat × Addr)} {W : WX} {r r1 r2 r' : En} {σ σ2 : L2.St} {N N1 N' : NS} {H H1 H' : Hp} {v : V} {d : D} {a : Addr} {α β γ δ : Type} {X : Cx} {G : Gs} {pos : Pos} {tg : Expr} {tq : Tg}
theorem set_ne {α : Type} {l : List α} {i j : Nat} {x : α} (h : i ≠ j) : (l.set i x)[j]? = l[j]? := List.getElem?_set_ne h
theorem set_eq {α : Type} {l : List α} {i : Nat} {x y : α} (h : (l.set i x)[i]? = some y) : x = y := by
  rw [List.getElem?_set] at h
  split at h
  · split at h
    · exact Option.some.inj h
    · cases h
  · exact absurd rfl (by assumption)
theorem own_put {i : Nat} {s : Option Sv} {u : Option V} {b : Addr} (h : own (r.set i s) (σ.set i u) b) : own r σ b ∨ ∃ d, s = some (.dat true d) ∧ u = some (.ref b) := by
  obtain ⟨j, d, h1, h2⟩ := h
  by_cases z : i = j
  · subst z
    exact .inr ⟨d, set_eq h1, set_eq h2⟩
  · rw [set_ne z] at h1 h2
    exact .inl ⟨j, d, h1, h2⟩
theorem Good.put {i : Nat} {s : Sv} (g : Good K Fa pr r σ N H) (hi : i < r.length) (np : NoPr pr i) (h : SvR K Fa N H v s) (na : ∀ a d, s = .dat true d → v = .ref a → ¬ own r σ a) : Good K Fa pr (r.set i (some s)) (σ.set i (some v)) N H := by
  refine ⟨by rw [List.length_set, List.length_set]; exact g.len, fun j s' e => ?_, fun j k d e a h1 h2 h3 h4 => ?_, g.trk, fun p hp => by rw [set_ne (Ne.symm (np p hp))]; exact g.prs p hp, g.tab⟩
  · by_cases z : i = j
    · subst z
      have := set_eq e
      cases this
      exact ⟨v, getset_self (by rw [← g.len]; exact hi), h⟩
    · rw [set_ne z] at e ⊢
      exact g.slot j s' e
  · by_cases z : i = j
    · by_cases z2 : i = k
      · exact z.symm.trans z2
      · subst z
        rw [set_ne z2] at h2 h4
        have e1 := set_eq h1
        have e2 := set_eq h3
        exact absurd ⟨k, e, h2, h4⟩ (na a d (Option.some.inj e1) (Option.some.inj e2))
    · rw [set_ne z] at h1 h3
      by_cases z2 : i = k
      · subst z2
        have e1 := set_eq h2
        have e2 := set_eq h4
        exact absurd ⟨j, d, h1, h3⟩ (na a e (Option.some.inj e1) (Option.some.inj e2))
      · rw [set_ne z2] at h2 h4
        exact g.inj j k d e a h1 h2 h3 h4
theorem Good.drop {i : Nat} {u : Option V} (g : Good K Fa pr r σ N H) (np : NoPr pr i) : Good K Fa pr (r.set i none) (σ.set i u) N H := by
  have ne : ∀ {j : Nat} {s : Sv}, (r.set i none)[j]? = some (some s) → i ≠ j ∧ r[j]? = some (some s) := fun {j s} e => by
    by_cases z : i = j
    · subst z
      have := set_eq e
      cases this
    · exact ⟨z, by rwa [set_ne z] at e⟩
  refine ⟨by rw [List.length_set, List.length_set]; exact g.len, fun j s' e => ?_, fun j k d e a h1 h2 h3 h4 => ?_, g.trk, fun p hp => by rw [set_ne (Ne.symm (np p hp))]; exact g.prs p hp, g.tab⟩
  · obtain ⟨z, e⟩ := ne e
    rw [set_ne z]
    exact g.slot j s' e
  · obtain ⟨z1, h1⟩ := ne h1
    obtain ⟨z2, h2⟩ := ne h2
    rw [set_ne z1] at h3
    rw [set_ne z2] at h4
    exact g.inj j k d e a h1 h2 h3 h4
/-- a slot of which less is said -/
theorem Good.wipe : ∀ {vs : List Nat}, (∀ i ∈ vs, NoPr pr i) → Good K Fa pr r σ N H → Good K Fa pr (wipeE r vs) (L2.wipe σ vs) N H
  | [], _, g => g
  | v :: vs, np, g => (Good.wipe (vs := vs) (fun i hi => np i (List.mem_cons_of_mem _ hi)) g).drop (np v List.mem_cons_self)
theorem wipeE_len : ∀ vs : List Nat, (wipeE r vs).length = r.length
  | [] => rfl
  | v :: vs => by unfold wipeE; rw [List.length_set, wipeE_len vs]
theorem wipeE_out {j : Nat} : ∀ {vs : List Nat}, j ∉ vs → (wipeE r vs)[j]? = r[j]?
  | [], _ => rfl
  | v :: vs, h => by
    simp only [List.mem_cons, not_or] at h
    unfold wipeE
    rw [set_ne (Ne.symm h.1), wipeE_out h.2]
theorem wipe_out {j : Nat} : ∀ {vs : List Nat}, j ∉ vs → (L2.wipe σ vs)[j]? = σ[j]?
  | [], _ => rfl
  | v :: vs, h => by
    simp only [List.mem_cons, not_or] at h
    unfold L2.wipe
    rw [set_ne (Ne.symm h.1), wipe_out h.2]
theorem wipeE_in {j : Nat} {s : Sv} : ∀ {vs : List Nat}, (wipeE r vs)[j]? = some (some s) → j ∉ vs ∧ r[j]? = some (some s)
  | [], h => ⟨by simp, h⟩
  | v :: vs, h => by
    unfold wipeE at h
    by_cases z : v = j
    · subst z
      have := set_eq h
      cases this
    · rw [set_ne z] at h
      obtain ⟨h1, h2⟩ := wipeE_in h
      exact ⟨by simp only [List.mem_cons, not_or]; exact ⟨fun e => z e.symm, h1⟩, h2⟩
theorem wipe_in {j : Nat} {u : V} : ∀ {vs : List Nat}, (L2.wipe σ vs)[j]? = some (some u) → j ∉ vs ∧ σ[j]? = some (some u) := fun h => ⟨(wipe_some h).2, (wipe_some h).1⟩
theorem own_wipe {vs : List Nat} {b : Addr} (h : own (wipeE r vs) (L2.wipe σ vs) b) : own r σ b := by
  obtain ⟨j, d, h1, h2⟩ := h
  exact ⟨j, d, (wipeE_in h1).2, (wipe_in h2).2⟩
theorem wipe_len (vs : List Nat) : (L2.wipe σ vs).length = σ.length := wipe_length σ vs
theorem wipe_at {j : Nat} : ∀ {vs : List Nat}, j ∈ vs → (L2.wipe σ vs)[j]? = if j < σ.length then some none else none
  | v :: vs, h => by
    unfold L2.wipe
    by_cases z : v = j
    · subst z
      rw [List.getElem?_set, if_pos rfl, wipe_length]
    · rw [set_ne z]
      exact wipe_at ((List.mem_cons.mp h).resolve_left fun e => z e.symm)
/-- two states that differ in vs at most are one when these are wiped -/
theorem wipe_eq {vs : List Nat} (hl : σ2.length = σ.length) (h : ∀ j, j ∉ vs → σ2[j]? = σ[j]?) : L2.wipe σ2 vs = L2.wipe σ vs :=
  List.ext_getElem? fun j => by
    by_cases z : j ∈ vs
    · rw [wipe_at z, wipe_at z, hl]
    · rw [wipe_out z, wipe_out z, h j z]

/-! ### targets -/
mutual
def tgS : Tg → List Nat
  | .nm i => [i]
  | .tup ts => tgSs ts
def tgSs : List Tg → List Nat
  | [] => []
  | t :: ts => tgS t ++ tgSs ts
end
section
variable (K : Kw)
mutual
def gB : Tg → TG
  | .nm i => gName i
  | .tup ts => gTup K.fr ts.length (gBs ts)
def gBs : List Tg → TGs
  | [] => gNil
  | t :: ts => gCons (gB t) (gBs ts)
end
end
/-- what a store into names leaves -/
structure Bnd (r r2 : En) (σ σ2 : L2.St) (js : List Nat) : Prop where
  len : r2.length = r.length
  lenσ : σ2.length = σ.length
  out : ∀ j, j ∉ js → r2[j]? = r[j]? ∧ σ2[j]? = σ[j]?
  ins : ∀ j ∈ js, ∃ d, r2[j]? = some (some (.dat false d))
theorem Bnd.own {js : List Nat} (b : Bnd r r2 σ σ2 js) {x : Addr} (h : E2.own r2 σ2 x) : E2.own r σ x := by
  obtain ⟨j, d, h1, h2⟩ := h
  by_cases z : j ∈ js
  · obtain ⟨d', e⟩ := b.ins j z
    rw [h1] at e
    cases e
  · obtain ⟨e1, e2⟩ := b.out j z
    exact ⟨j, d, e1 ▸ h1, e2 ▸ h2⟩
theorem Bnd.trans {r3 : En} {σ3 : L2.St} {js ks : List Nat} (b : Bnd r r2 σ σ2 js) (c : Bnd r2 r3 σ2 σ3 ks) : Bnd r r3 σ σ3 (js ++ ks) where
  len := c.len.trans b.len
  lenσ := c.lenσ.trans b.lenσ
  out := fun j hj => by
    simp only [List.mem_append, not_or] at hj
    exact ⟨(c.out j hj.2).1.trans (b.out j hj.1).1, (c.out j hj.2).2.trans (b.out j hj.1).2⟩
  ins := fun j hj => by
    by_cases z : j ∈ ks
    · exact c.ins j z
    · rw [(c.out j z).1]
      exact b.ins j ((List.mem_append.mp hj).resolve_right z)
/-- what may be bound to a target -/
def ItV (K : Kw) (N : NS) (H : Hp) (v : V) (d : D) : Tg → Prop
  | .nm _ => Rp K N H v d
  | .tup _ => Rp K N H v d ∨ ∃ a xs ds, v = .ref a ∧ d = .tuple ds ∧ SqT K.fr H a xs ∧ RpA K N H xs ds
theorem Rp.itV {tq : Tg} (h : Rp K N H v d) : ItV K N H v d tq := by
  cases tq with
  | nm i => exact h
  | tup ts => exact .inl h
mutual
theorem bind_ok : ∀ (t : Tg) {v : V} {d : D} {r r2 : En} {σ : L2.St} {Q : L2.St → Hp → Prop}, bindT d r t = some r2 → Good K Fa pr r σ N H → (∀ j ∈ tgS t, NoPr pr j) → ItV K N H v d t → (∀ σ2, Good K Fa pr r2 σ2 N H → Bnd r r2 σ σ2 (tgS t) → Q σ2 H) → gB K t v σ H Q
  | .nm i, v, d, r, r2, σ, Q, e, g, np, hv, q => by
    unfold bindT at e
    split at e
    · rename_i hi
      cases e
      refine q (σ.set i (some v)) (g.put hi (np i (by simp [tgS])) (s := .dat false d) hv fun a d e => nomatch e) ⟨List.length_set, List.length_set, fun j hj => ?_, fun j hj => ⟨d, ?_⟩⟩
      · simp only [tgS, List.mem_singleton] at hj
        exact ⟨set_ne (Ne.symm hj), set_ne (Ne.symm hj)⟩
      · simp only [tgS, List.mem_singleton] at hj
        subst hj
        exact getset_self hi
    · cases e
  | .tup ts, v, d, r, r2, σ, Q, e, g, np, hv, q => by
    unfold bindT at e
    split at e
    · rename_i ds
      have hv' : ∃ a xs, v = .ref a ∧ SqT K.fr H a xs ∧ RpA K N H xs ds := by
        rcases hv with hv | ⟨a, xs, ds', h1, h2, h3, h4⟩
        · cases hv with
          | tup h1 h2 => exact ⟨_, _, rfl, h1.sq, h2⟩
        · cases h2
          exact ⟨a, xs, h1, h3, h4⟩
      obtain ⟨a, xs, h1, h2, h3⟩ := hv'
      obtain ⟨hl, hb⟩ := bind_oks ts e g np h3 q
      exact ⟨a, xs, h1, h2, hl, hb⟩
    · cases e
theorem bind_oks : ∀ (ts : List Tg) {xs : List V} {ds : List D} {r r2 : En} {σ : L2.St} {Q : L2.St → Hp → Prop}, bindTs ds r ts = some r2 → Good K Fa pr r σ N H → (∀ j ∈ tgSs ts, NoPr pr j) → RpA K N H xs ds → (∀ σ2, Good K Fa pr r2 σ2 N H → Bnd r r2 σ σ2 (tgSs ts) → Q σ2 H) → xs.length = ts.length ∧ gBs K ts xs σ H Q
  | [], xs, ds, r, r2, σ, Q, e, g, np, hv, q => by
    unfold bindTs at e
    split at e
    · cases e
      cases hv
      exact ⟨rfl, rfl, q σ g ⟨rfl, rfl, fun _ _ => ⟨rfl, rfl⟩, fun j hj => absurd hj (by simp [tgSs])⟩⟩
    · cases e
  | t :: ts, xs, ds, r, r2, σ, Q, e, g, np, hv, q => by
    unfold bindTs at e
    split at e
    · rename_i d ds'
      split at e
      · rename_i r1 e1
        cases hv with
        | @cons v vs _ _ h1 h2 =>
          have len : vs.length = ts.length := bindTs_len ts e ▸ h2.length
          refine ⟨congrArg (· + 1) len, v, vs, rfl, bind_ok t e1 g (fun j hj => np j (by simp [tgSs, hj])) h1.itV fun σ1 g1 b1 => ?_⟩
          exact (bind_oks ts e g1 (fun j hj => np j (by simp [tgSs, hj])) h2 fun σ2 g2 b2 => q σ2 g2 (b1.trans b2)).2
      · cases e
    · cases e
theorem bindTs_len : ∀ (ts : List Tg) {ds : List D} {r r2 : En}, bindTs ds r ts = some r2 → ds.length = ts.length
  | [], ds, r, r2, e => by
    unfold bindTs at e
    split at e
    · rfl
    · cases e
  | t :: ts, ds, r, r2, e => by
    unfold bindTs at e
    split at e
    · split at e
      · exact congrArg (· + 1) (bindTs_len ts e)
      · cases e
    · cases e
end
end
end E2

set_option Elab.async false
set_option linter.all false
set_option maxRecDepth 100000
set_option maxHeartbeats 2000000
namespace E2
variable [Tbs]
open PySem PySem.Spec PyProof.Rows L2
/-! ## comprehensions -/
abbrev WF : WX := fun _ _ _ _ => False
section
variable {K : Kw} {Fa Ca : Nat → Addr} {pr : List (Nat × Addr)} {W : WX} {r r1 r2 r' : En} {σ σ2 : L2.St} {N N1 N' : NS} {H H1 H' : Hp} {v : V} {d : D} {a : Addr} {α β γ δ : Type} {X : Cx} {G : Gs} {pos : Pos} {tg : Expr} {tq : Tg} {vs : List Nat} {Dr : Addr}
theorem Ext.mono {O O' : NS} (E : Ext O N H N' H') (i : ∀ b, O b → O' b) (s : ∀ b, O' b → N b) : Ext O' N H N' H' := ⟨fun b o e n t => E.keep b o e (fun z => n (i b z)) t, E.tab, E.new, fun b h n => E.stay b h fun z => n (i b z), s, E.there⟩
theorem wipe_twice (vs : List Nat) : L2.wipe (L2.wipe σ vs) vs = L2.wipe σ vs := wipe_eq (wipe_length σ vs) fun j hj => wipe_out hj
/-- between the turns of a comprehension that began at (r1, N1, H1): the new thing at Dr holds dd -/
structure LcI (K : Kw) (Fa : Nat → Addr) (pr : List (Nat × Addr)) (vs : List Nat) (r1 : En) (σ : L2.St) (N1 : NS) (H1 : Hp) (Dr : Addr) (dd : D) (r' : En) (N' : NS) (H' : Hp) : Prop where
  len : r'.length = r1.length
  g : Good K Fa pr (wipeE r' vs) (L2.wipe σ vs) N' H'
  s : Stp (wipeE r1 vs) (L2.wipe σ vs) N1 H1 (wipeE r' vs) N' H'
  nD : N' Dr
  m : RpM K N' H' Dr dd
  no : ¬ own (wipeE r' vs) (L2.wipe σ vs) Dr
  t1 : ∀ b, N1 b → H1 b ≠ none
theorem LcI.start (g : Good K Fa pr r1 σ N1 H1) (np : ∀ i ∈ vs, NoPr pr i) (hD : H1 Dr = none) {o : HO} (mo : Mut (some o)) (m : ∀ N', RpM K N' (upd H1 Dr o) Dr d) : LcI K Fa pr vs r1 σ N1 H1 Dr d r1 (fun b => N1 b ∨ b = Dr) (upd H1 Dr o) := by
  have gw := g.wipe np
  have E : Ext (fun _ => False) N1 H1 (fun b => N1 b ∨ b = Dr) (upd H1 Dr o) := ext_newL hD fun _ z => z.elim
  exact ⟨rfl, gw.ext0 E (trk_newL hD mo g.trk), gw.stp0 E, .inr rfl, m _, gw.noOwn hD, fun b z => mutSome (g.trk b z)⟩
theorem LcI.fz {dd : D} (I : LcI K Fa pr vs r1 σ N1 H1 Dr dd r' N' H') : Fz N1 H1 N' H' := I.s.ext.rps
/-- inside a turn -/
structure InI (K : Kw) (Fa : Nat → Addr) (pr : List (Nat × Addr)) (vs : List Nat) (r1 : En) (σ : L2.St) (N1 : NS) (H1 : Hp) (Dr : Addr) (dd : D) (r : En) (σ2 : L2.St) (N : NS) (H : Hp) : Prop where
  len : r.length = r1.length
  t1 : ∀ b, N1 b → H1 b ≠ none
  g : Good K Fa pr r σ2 N H
  nD : N Dr
  m : RpM K N H Dr dd
  no : ¬ own r σ2 Dr
  sw : L2.wipe σ2 vs = L2.wipe σ vs
  base : Stp (wipeE r1 vs) (L2.wipe σ vs) N1 H1 (wipeE r vs) N H
  ow : ∀ b, own r σ2 b → own (wipeE r1 vs) (L2.wipe σ vs) b
theorem wipe_sub {us : List Nat} (h : ∀ i ∈ us, i ∈ vs) : L2.wipe (L2.wipe σ us) vs = L2.wipe σ vs := wipe_eq (wipe_length σ us) fun j hj => wipe_out fun z => hj (h j z)
theorem wipeE_at {j : Nat} : ∀ {vs : List Nat}, j ∈ vs → (wipeE r vs)[j]? = if j < r.length then some none else none
  | v :: vs, h => by
    unfold wipeE
    by_cases z : v = j
    · subst z
      rw [List.getElem?_set, if_pos rfl, wipeE_len]
    · rw [set_ne z]
      exact wipeE_at ((List.mem_cons.mp h).resolve_left fun e => z e.symm)
theorem wipeE_eq {vs : List Nat} (hl : r2.length = r.length) (h : ∀ j, j ∉ vs → r2[j]? = r[j]?) : wipeE r2 vs = wipeE r vs :=
  List.ext_getElem? fun j => by
    by_cases z : j ∈ vs
    · rw [wipeE_at z, wipeE_at z, hl]
    · rw [wipeE_out z, wipeE_out z, h j z]
theorem wipeE_sub {us : List Nat} (h : ∀ i ∈ us, i ∈ vs) : wipeE (wipeE r us) vs = wipeE r vs := wipeE_eq (wipeE_len us) fun j hj => wipeE_out fun z => hj (h j z)
theorem wipeE_twice (vs : List Nat) : wipeE (wipeE r vs) vs = wipeE r vs := wipeE_sub fun _ h => h
theorem LcI.inn {dd : D} (I : LcI K Fa pr vs r1 σ N1 H1 Dr dd r' N' H') : InI K Fa pr vs r1 σ N1 H1 Dr dd (wipeE r' vs) (L2.wipe σ vs) N' H' :=
  ⟨(wipeE_len vs).trans I.len, I.t1, I.g, I.nD, I.m, I.no, wipe_twice vs, (wipeE_twice (r := r') vs).symm ▸ I.s, I.s.own⟩
theorem InI.lcI {dd : D} (J : InI K Fa pr vs r1 σ N1 H1 Dr dd r σ2 N H) (np : ∀ i ∈ vs, NoPr pr i) : LcI K Fa pr vs r1 σ N1 H1 Dr dd r N H :=
  ⟨J.len, J.sw ▸ J.g.wipe np, J.base, J.nD, J.m, fun z => J.no (own_wipe (σ := σ2) (vs := vs) (J.sw ▸ z)), J.t1⟩
/-- steps inside a turn -/
theorem InI.step {dd : D} {r5 : En} {N5 : NS} {H5 : Hp} (J : InI K Fa pr vs r1 σ N1 H1 Dr dd r σ2 N H) (s : Stp r σ2 N H r5 N5 H5) (g : Good K Fa pr r5 σ2 N5 H5) : InI K Fa pr vs r1 σ N1 H1 Dr dd r5 σ2 N5 H5 := by
  refine ⟨(g.len.trans J.g.len.symm).trans J.len, J.t1, g, s.ext.stay _ J.nD J.no, J.m.ext s.ext J.g.trk J.no, fun z => J.no (s.own _ z), J.sw, ⟨J.base.ext.trans s.ext (fun b h => .inl (J.ow b h)) J.t1, fun b h => J.ow b (s.own b (own_wipe (σ := σ2) (vs := vs) (J.sw.symm ▸ h))), fun i h => ?_⟩, fun b h => J.ow b (s.own b h)⟩
  obtain ⟨o, d, h1⟩ := J.base.dat i h
  obtain ⟨hi, h2⟩ := wipeE_in h1
  obtain ⟨o', d', h3⟩ := s.dat i ⟨o, d, h2⟩
  exact ⟨o', d', by rw [wipeE_out hi]; exact h3⟩
theorem InI.out {dd : D} {r5 : En} {N5 : NS} {H5 : Hp} (J : InI K Fa pr vs r1 σ N1 H1 Dr dd r σ2 N H) (np : ∀ i ∈ vs, NoPr pr i) (s : Stp r σ2 N H r5 N5 H5) (g : Good K Fa pr r5 σ2 N5 H5) : LcI K Fa pr vs r1 σ N1 H1 Dr dd r5 N5 H5 := (J.step s g).lcI np
/-- fewer slots are seen -/
theorem InI.wipe {dd : D} {us : List Nat} (J : InI K Fa pr vs r1 σ N1 H1 Dr dd r σ2 N H) (np : ∀ i ∈ us, NoPr pr i) (h : ∀ i ∈ us, i ∈ vs) : InI K Fa pr vs r1 σ N1 H1 Dr dd (wipeE r us) (L2.wipe σ2 us) N H :=
  ⟨(wipeE_len us).trans J.len, J.t1, J.g.wipe np, J.nD, J.m, fun z => J.no (own_wipe z), (wipe_sub h).trans J.sw, (wipeE_sub (r := r) h).symm ▸ J.base, fun b z => J.ow b (own_wipe z)⟩
/-- a new pair -/
theorem InI.pair {dd : D} {T : Addr} {o : HO} (J : InI K Fa pr vs r1 σ N1 H1 Dr dd r σ2 N H) (hT : H T = none) : InI K Fa pr vs r1 σ N1 H1 Dr dd r σ2 N (upd H T o) := by
  have E : Ext (fun _ => False) N H N (upd H T o) := ext_newT hT fun _ z => z.elim
  exact J.step (J.g.stp0 E) (J.g.ext0 E (trk_newT hT J.g.trk))
/-- names are bound -/
theorem InI.bnd {dd : D} {rb : En} {σ3 : L2.St} {js : List Nat} (J : InI K Fa pr vs r1 σ N1 H1 Dr dd r σ2 N H) (g : Good K Fa pr rb σ3 N H) (b : Bnd r rb σ2 σ3 js) (hj : ∀ j ∈ js, j ∈ vs) : InI K Fa pr vs r1 σ N1 H1 Dr dd rb σ3 N H := by
  have sw : L2.wipe σ3 vs = L2.wipe σ2 vs := wipe_eq b.lenσ fun j h => (b.out j fun z => h (hj j z)).2
  have ew : wipeE rb vs = wipeE r vs := wipeE_eq b.len fun j h => (b.out j fun z => h (hj j z)).1
  exact ⟨b.len.trans J.len, J.t1, g, J.nD, J.m, fun z => J.no (b.own z), sw.trans J.sw, ew.symm ▸ J.base, fun x z => J.ow x (b.own z)⟩
/-- an item comes and is bound -/
theorem InI.item {dd : D} {x : V} {H'' : Hp} {rb : En} {us : List Nat} {R : L2.St → Hp → Prop} (J : InI K Fa pr vs r1 σ N1 H1 Dr dd (wipeE r us) (L2.wipe σ2 us) N' H') (np : ∀ i ∈ us, NoPr pr i) (hu : ∀ i ∈ us, i ∈ vs) (hj : ∀ j ∈ tgS tq, j ∈ us) (it : ItR K tq N' H' x H'' d) (e : bindT d (wipeE r us) tq = some rb)
    (h : ∀ σ3, InI K Fa pr vs r1 σ N1 H1 Dr dd rb σ3 N' H'' → L2.wipe σ3 us = L2.wipe σ2 us → R σ3 H'') : gB K tq x (L2.wipe σ2 us) H'' fun σ3 H2 => L2.wipe σ3 us = L2.wipe σ2 us ∧ R σ3 H2 := by
  have st : InI K Fa pr vs r1 σ N1 H1 Dr dd (wipeE r us) (L2.wipe σ2 us) N' H'' ∧ ItV K N' H'' x d tq := by
    rcases it with ⟨rfl, h⟩ | ⟨T, xs, es, ⟨ts, rfl⟩, rfl, hT, rfl, rfl, ra⟩
    · exact ⟨J, h.itV⟩
    · have E : Ext (fun _ => False) N' H' N' (upd H' T (.tup xs)) := ext_newT hT fun _ z => z.elim
      exact ⟨J.pair hT, .inr ⟨T, xs, es, rfl, rfl, .inl (.inl upd_same), ra.ext E J.g.trk⟩⟩
  obtain ⟨J2, iv⟩ := st
  refine bind_ok tq e J2.g (fun j hj' => np j (hj j hj')) iv fun σ3 g3 b3 => ?_
  have hw : L2.wipe σ3 us = L2.wipe σ2 us := (wipe_eq b3.lenσ fun j hj' => (b3.out j fun z => hj' (hj j z)).2).trans (wipe_twice us)
  exact ⟨hw, h σ3 (J2.bnd g3 b3 fun j z => hu j (hj j z)) hw⟩
theorem LcI.item {dd : D} {x : V} {H'' : Hp} {rb : En} {R : L2.St → Hp → Prop} (I : LcI K Fa pr vs r1 σ N1 H1 Dr dd r' N' H') (np : ∀ i ∈ vs, NoPr pr i) (hj : ∀ j ∈ tgS tq, j ∈ vs) (it : ItR K tq N' H' x H'' d) (e : bindT d (wipeE r' vs) tq = some rb)
    (h : ∀ σ2, InI K Fa pr vs r1 σ N1 H1 Dr dd rb σ2 N' H'' → L2.wipe σ2 vs = L2.wipe σ vs → R σ2 H'') : gB K tq x (L2.wipe σ vs) H'' fun σ2 H2 => L2.wipe σ2 vs = L2.wipe σ vs ∧ R σ2 H2 :=
  InI.item I.inn np (fun _ h => h) hj it e h
/-- Dr is written -/
theorem InI.write {dd dd' : D} {o : HO} (J : InI K Fa pr vs r1 σ N1 H1 Dr dd r σ2 N H) (hD : H1 Dr = none) (mo : Mut (some o)) (m : Fz N H N (upd H Dr o) → RpM K N (upd H Dr o) Dr dd') : InI K Fa pr vs r1 σ N1 H1 Dr dd' r σ2 N (upd H Dr o) := by
  have E : Ext (fun b => b = Dr) N H N (upd H Dr o) := ⟨fun b u e n _ => by rw [upd_ne n]; exact e, tabs_mut J.nD (J.g.trk _ J.nD), fun b h => .inl h, fun b h _ => h, fun b h => h ▸ J.nD, fun b h => by
    by_cases z : b = Dr
    · subst z; rw [upd_same]; simp
    · rw [upd_ne z]; exact h⟩
  have t2 : ∀ b, N b → Mut (upd H Dr o b) := fun b h => by
    by_cases z : b = Dr
    · subst z; rw [upd_same]; exact mo
    · rw [upd_ne z]; exact J.g.trk b h
  refine ⟨J.len, J.t1, ⟨J.g.len, fun i s e => ?_, J.g.inj, t2, J.g.prs, E.tab J.g.tab⟩, J.nD, m E.rps, J.no, J.sw, ⟨J.base.ext.trans E (fun b h => .inr (h ▸ hD)) J.t1, J.base.own, J.base.dat⟩, J.ow⟩
  obtain ⟨v, h1, h2⟩ := J.g.slot i s e
  exact ⟨v, h1, h2.ext E J.g.trk fun a d e1 e2 z => J.no (z ▸ ⟨i, d, e1 ▸ e, e2 ▸ h1⟩)⟩
theorem backE_len (r0 : En) : ∀ vs : List Nat, (backE r0 r vs).length = r.length
  | [] => rfl
  | v :: vs => by unfold backE; rw [List.length_set, backE_len r0 vs]
theorem backE_out {r0 : En} {j : Nat} : ∀ {vs : List Nat}, j ∉ vs → (backE r0 r vs)[j]? = r[j]?
  | [], _ => rfl
  | v :: vs, h => by
    simp only [List.mem_cons, not_or] at h
    unfold backE
    rw [set_ne (Ne.symm h.1), backE_out h.2]
theorem backE_in {r0 : En} {j : Nat} {s : Sv} : ∀ {vs : List Nat}, j ∈ vs → (backE r0 r vs)[j]? = some (some s) → r0[j]? = some (some s)
  | v :: vs, h, e => by
    unfold backE at e
    by_cases z : v = j
    · subst z
      have q := set_eq e
      cases q2 : r0[v]? with
      | none => rw [q2] at q; cases q
      | some u => rw [q2] at q; rw [show u = some s from q]
    · rw [set_ne z] at e
      exact backE_in ((List.mem_cons.mp h).resolve_left fun q => z q.symm) e
theorem backE_to {r0 : En} {j : Nat} {s : Sv} (hl : r.length = r0.length) : ∀ {vs : List Nat}, j ∈ vs → r0[j]? = some (some s) → (backE r0 r vs)[j]? = some (some s)
  | v :: vs, h, e => by
    unfold backE
    by_cases z : v = j
    · subst z
      rw [List.getElem?_set, if_pos rfl, backE_len, hl, if_pos (List.getElem?_eq_some_iff.mp e).1, e]
      rfl
    · rw [set_ne z]
      exact backE_to hl ((List.mem_cons.mp h).resolve_left fun q => z q.symm) e
/-- behind a comprehension -/
theorem LcI.fin {dd : D} (I : LcI K Fa pr vs r1 σ N1 H1 Dr dd r' N' H') (g : Good K Fa pr r1 σ N1 H1) : Good K Fa pr (backE r1 r' vs) σ N' H' ∧ Stp r1 σ N1 H1 (backE r1 r' vs) N' H' := by
  -- a slot of the whole, behind
  have slot : ∀ {j : Nat} {s : Sv}, (backE r1 r' vs)[j]? = some (some s) → (j ∈ vs ∧ r1[j]? = some (some s)) ∨ (j ∉ vs ∧ (wipeE r' vs)[j]? = some (some s)) := fun {j s} e => by
    by_cases z : j ∈ vs
    · exact .inl ⟨z, backE_in z e⟩
    · exact .inr ⟨z, by rw [wipeE_out z, ← backE_out (r0 := r1) z]; exact e⟩
  have apart : ∀ {j : Nat} {d : D} {a : Addr}, j ∈ vs → r1[j]? = some (some (.dat true d)) → σ[j]? = some (some (.ref a)) → ¬ own (wipeE r1 vs) (L2.wipe σ vs) a := fun {j d a} hj h1 h2 ⟨k, e, h3, h4⟩ => by
    obtain ⟨hk, h3⟩ := wipeE_in h3
    obtain ⟨_, h4⟩ := wipe_in h4
    have := g.inj j k d e a h1 h3 h2 h4
    exact hk (this ▸ hj)
  have ow : ∀ b, own (backE r1 r' vs) σ b → own r1 σ b := fun b ⟨j, d, h1, h2⟩ => by
    rcases slot h1 with ⟨hj, h3⟩ | ⟨hj, h3⟩
    · exact ⟨j, d, h3, h2⟩
    · exact own_wipe (I.s.own b ⟨j, d, h3, by rw [wipe_out hj]; exact h2⟩)
  refine ⟨⟨by rw [backE_len]; exact I.len.trans g.len, fun j s e => ?_, fun i j d e a h1 h2 h3 h4 => ?_, I.g.trk, g.prs, I.g.tab⟩, ⟨I.s.ext.mono (fun b h => own_wipe h) g.ownN, ow, fun j ⟨o, d, h⟩ => ?_⟩⟩
  · rcases slot e with ⟨hj, h1⟩ | ⟨hj, h1⟩
    · obtain ⟨v, h2, h3⟩ := g.slot j s h1
      exact ⟨v, h2, h3.ext I.s.ext g.trk fun a d e1 e2 => apart hj (e1 ▸ h1) (e2 ▸ h2)⟩
    · obtain ⟨v, h2, h3⟩ := I.g.slot j s h1
      exact ⟨v, by rw [wipe_out hj] at h2; exact h2, h3⟩
  · rcases slot h1 with ⟨hi, q1⟩ | ⟨hi, q1⟩ <;> rcases slot h2 with ⟨hj, q2⟩ | ⟨hj, q2⟩
    · exact g.inj i j d e a q1 q2 h3 h4
    · exact absurd (I.s.own a ⟨j, e, q2, by rw [wipe_out hj]; exact h4⟩) (apart hi q1 h3)
    · exact absurd (I.s.own a ⟨i, d, q1, by rw [wipe_out hi]; exact h3⟩) (apart hj q2 h4)
    · exact I.g.inj i j d e a q1 q2 (by rw [wipe_out hi]; exact h3) (by rw [wipe_out hj]; exact h4)
  · by_cases z : j ∈ vs
    · exact ⟨o, d, backE_to I.len z h⟩
    · obtain ⟨o', d', h'⟩ := I.s.dat j ⟨o, d, by rw [wipeE_out z]; exact h⟩
      rw [wipeE_out z] at h'
      exact ⟨o', d', by rw [backE_out z]; exact h'⟩
theorem LcI.value {dd : D} {Q : VK} {r0 : En} {N0 : NS} {H0 : Hp} (I : LcI K Fa pr vs r1 σ N1 H1 Dr dd r' N' H') (hD : H1 Dr = none) (g0 : Good K Fa pr r0 σ N0 H0) (s : Stp r0 σ N0 H0 r1 N1 H1) (g : Good K Fa pr r1 σ N1 H1)
    (p : PostG K Fa Ca pr W (relE K Fa) r0 σ N0 H0 Q (.ok (.val true dd) (backE r1 r' vs))) : Q (.ref Dr) H' := by
  obtain ⟨g', s'⟩ := I.fin g
  refine p (.ref Dr) H' N' (s.trans g0 s') g' ⟨⟨Dr, rfl, I.nD, I.m, fun z => g.noOwn hD (s'.own _ z)⟩, fun a e z => ?_⟩
  cases e
  exact absurd z (g0.noN0 s hD)
end
end E2

set_option Elab.async false
set_option linter.all false
set_option maxRecDepth 100000
set_option maxHeartbeats 2000000
namespace E2
variable [Tbs]
open PySem PySem.Spec PyProof.Rows L2
section
variable {K : Kw} {Fa Ca : Nat → Addr} {pr : List (Nat × Addr)} {W : WX} {r r1 r2 r' : En} {σ σ2 : L2.St} {N N1 N' : NS} {H H1 H' : Hp} {v : V} {d : D} {a : Addr} {α β γ δ : Type} {X : Cx} {G : Gs} {pos : Pos} {tg : Expr} {tq : Tg} {vs : List Nat} {Dr : Addr}
theorem LcI.wiped {dd : D} (I : LcI K Fa pr vs r1 σ N1 H1 Dr dd r' N' H') : LcI K Fa pr vs r1 σ N1 H1 Dr dd (wipeE r' vs) N' H' :=
  ⟨(wipeE_len vs).trans I.len, (wipeE_twice (r := r') vs).symm ▸ I.g, (wipeE_twice (r := r') vs).symm ▸ I.s, I.nD, I.m, (wipeE_twice (r := r') vs).symm ▸ I.no, I.t1⟩
/-! ### the tests of a clause -/
theorem PTs.imp {ifs : List Expr} {t t' : TT} (h : PTs X ifs t) (i : ∀ σ H Q, t' σ H Q → t σ H Q) : PTs X ifs t' := ⟨fun pins s σ H Q I q => h.run pins s σ H Q I (i σ H Q q)⟩
theorem fc_non : PTs X [] (tB K Fa Ca pr W (evC G .non)) := PTs.imp pts_nil fun σ H Q ⟨r, N, g, h⟩ => by
  simp only [evC] at h
  exact h true H N (Stp.refl g) g rfl
theorem fc_som {c : CT} {e : Expr} (h : PT X e (tB K Fa Ca pr W (evT G c))) : PTs X [e] (tB K Fa Ca pr W (evC G (.som c))) := PTs.imp (pts_one h) fun σ H Q ⟨r, N, g, h⟩ => by
  simp only [evC] at h
  exact ⟨r, N, g, h⟩
/-- what stands between the turns -/
def LcP (K : Kw) (Fa : Nat → Addr) (pr : List (Nat × Addr)) (vs : List Nat) (r1 : En) (σ : L2.St) (N1 : NS) (H1 : Hp) (Dr : Addr) (P : List D → En → Prop) (H' : Hp) : Prop := ∃ r' N' acc, LcI K Fa pr vs r1 σ N1 H1 Dr (.list acc) r' N' H' ∧ P acc r'
theorem lc_turn {cond : CTo} {elt : CE} {acc : List D} {rb : En} {H'' : Hp} {Z : Rs (List D) → Prop} {f : List D → En → Rs (List D)} (hZ : Z .stuck → False) (hD : H1 Dr = none) (np : ∀ i ∈ vs, NoPr pr i) (J : InI K Fa pr vs r1 σ N1 H1 Dr (.list acc) rb σ2 N' H'')
    (h : Z (match evC G cond rb with
      | .ok true r2 => match evE G elt r2 with
        | .ok x r3 => match take r3 x with
          | some (y, r4) => if acc.length < sizeLine then f (acc ++ [y]) (wipeE r4 vs) else .stuck
          | none => .stuck
        | _ => .stuck
      | .ok false r2 => f acc (wipeE r2 vs)
      | _ => .stuck)) :
    tB K Fa Ca pr WF (evC G cond) σ2 H'' fun b H3 => if b = true then tE K Fa Ca pr WF (evE G elt) σ2 H3 fun y H4 => ∃ xs, H4 Dr = some (.lst xs) ∧ xs.length < sizeLine ∧ LcP K Fa pr vs r1 σ N1 H1 Dr (fun acc r => Z (f acc r)) (upd H4 Dr (.lst (xs ++ [y]))) else LcP K Fa pr vs r1 σ N1 H1 Dr (fun acc r => Z (f acc r)) H3 := by
  refine ⟨rb, N', J.g, ?_⟩
  cases e1 : evC G cond rb with
  | stuck => rw [e1] at h; exact hZ h
  | exc x r2 => rw [e1] at h; exact (hZ h).elim
  | ok k r2 =>
    rw [e1] at h
    intro b H3 N3 s3 g3 hb
    cases (show b = k from hb)
    have J3 := J.step s3 g3
    cases k with
    | false =>
      rw [if_neg Bool.false_ne_true]
      exact ⟨_, N3, acc, (J.out np s3 g3).wiped, h⟩
    | true =>
      rw [if_pos rfl]
      refine ⟨r2, N3, g3, ?_⟩
      cases e2 : evE G elt r2 with
      | stuck => simp only [e2] at h; exact hZ h
      | exc x r3 => simp only [e2] at h; exact (hZ h).elim
      | ok x r3 =>
        simp only [e2] at h
        intro v H4 N4 s4 g4 rf
        cases e3 : take r3 x with
        | none => simp only [e3] at h; exact (hZ h).elim
        | some yr =>
          obtain ⟨y, r4⟩ := yr
          simp only [e3] at h
          obtain ⟨N5, g5, s5, q5, _⟩ := RR.take (dr := (y, r4)) g3 s4 rf.1 rf.2 g4 e3
          split at h
          · rename_i hlen
            have I5 := J3.step s5 g5
            obtain ⟨xs, hx, ra⟩ := I5.m
            refine ⟨xs, hx, by rw [ra.length]; exact hlen, _, N5, acc ++ [y], ((I5.write (o := .lst (xs ++ [v])) (dd' := .list (acc ++ [y])) hD trivial fun st => ⟨_, upd_same, (ra.append (.cons q5 .nil)).keep st I5.g.trk⟩).lcI np).wiped, h⟩
          · exact (hZ h).elim
theorem lc_imp {own : List (Str × Nat)} {it : CI} {cond : CTo} {elt : CE} {Q : VK} (np : ∀ i ∈ own.map (·.2), NoPr pr i) (hj : ∀ j ∈ tgS tq, j ∈ own.map (·.2)) (hq : tE K Fa Ca pr W (evE G (.lc own tq it cond elt)) σ H Q) :
    tLc (tIt K tq Fa Ca pr W (evI G it)) (gB K tq) (tB K Fa Ca pr WF (evC G cond)) (tE K Fa Ca pr WF (evE G elt)) (own.map (·.2)) σ H Q := by
  obtain ⟨r, N, g, h⟩ := hq
  simp only [evE] at h
  show tIt K tq Fa Ca pr W (evI G it) σ H _
  refine tG_mono (tG_bind (rel := relI K tq) g (Stp.refl g) g h) fun J H1 ⟨xs, r1, N1, t1, s1, g1, ⟨GG, YY, walk, wst⟩, p1⟩ => fun Dr hD => ?_
  have fin0 : ∀ {Z : Rs (List D)}, Z = .stuck → ¬ PostG K Fa Ca pr W (relE K Fa) r σ N H Q (Z.bind fun ys r2 => .ok (.val true (.list ys)) (backE r1 r2 (own.map (·.2)))) := fun {Z} e z => by rw [e] at z; exact z
  refine lc_it walk (fun i H' => LcP K Fa pr (own.map (·.2)) r1 σ N1 H1 Dr (fun acc r' => PostG K Fa Ca pr W (relE K Fa) r σ N H Q ((lcGo (own.map (·.2)) (fun d r => bindT d r tq) (evC G cond) (evE G elt) (xs.drop i) acc r').bind fun ys r2 => .ok (.val true (.list ys)) (backE r1 r2 (own.map (·.2))))) H') ?_ ?_ ?_ ?_
  · exact ⟨r1, _, [], LcI.start g1 np hD (o := .lst []) trivial fun N' => ⟨[], upd_same, .nil⟩, p1⟩
  · rintro i H' _ ⟨r', N', acc, I, _⟩
    exact (wst N' H' I.fz).1
  · rintro i x H' H'' hi ⟨r', N', acc, I, p⟩ y
    have ei : xs.drop i = xs[i] :: xs.drop (i + 1) := List.drop_eq_getElem_cons hi
    have item := (wst N' H' I.fz).2 i x H'' xs[i] y (List.getElem?_eq_getElem hi)
    rw [ei] at p
    cases eb : bindT xs[i] (wipeE r' (own.map (·.2))) tq with
    | none => simp only [lcGo, eb] at p; exact p.elim
    | some rb =>
      simp only [lcGo, eb] at p
      refine I.item np hj item eb fun σ2 J hw => ?_
      exact lc_turn (Z := fun Z => PostG K Fa Ca pr W (relE K Fa) r σ N H Q (Z.bind fun ys r2 => .ok (.val true (.list ys)) (backE r1 r2 (own.map (·.2))))) (fun z => z) hD np J p
  · rintro H' ⟨r', N', acc, I, p⟩
    rw [List.drop_length] at p
    exact I.value hD g s1 g1 p
theorem fe_lc {own : List (Str × Nat)} {it : CI} {cond : CTo} {elt : CE} {elte tge itere : Expr} {ifs : List Expr} {scope : Scope} (hc : X.calm = true) (hN : X.N.Nodup) (hi : PI X tge itere (tIt K tq Fa Ca pr W (evI G it))) (ok : BlkOk X.N X.env.scope scope own)
    (np : ∀ i ∈ own.map (·.2), NoPr pr i) (hj : ∀ j ∈ tgS tq, j ∈ own.map (·.2))
    (hg : ∀ (s : Shared) (H : Hp) (C : Addr) (cl : List (Str × Addr)) (fp : List Addr), PG (X.blk s H scope (compEnvC scope cl C X.env) fp) tge (gB K tq)) (ht : ∀ (s : Shared) (H : Hp) (C : Addr) (cl : List (Str × Addr)) (fp : List Addr), PTs (X.blk s H scope (compEnvC scope cl C X.env) fp) ifs (tB K Fa Ca pr WF (evC G cond)))
    (he : ∀ (s : Shared) (H : Hp) (C : Addr) (cl : List (Str × Addr)) (fp : List Addr), PE (X.blk s H scope (compEnvC scope cl C X.env) fp) elte (tE K Fa Ca pr WF (evE G elt))) (hs : ∀ x, foldedSetIterable itere X.env x = pure x) :
    PE X (.ListComp elte [⟨tge, itere, ifs, 0⟩] scope pos) (tE K Fa Ca pr W (evE G (.lc own tq it cond elt))) := by
  exact PE.imp (pe_lc hc hN hi ok hg ht he hs) fun σ H Q h => lc_imp np hj h
end
end E2

set_option Elab.async false
set_option linter.all false
set_option maxRecDepth 100000
set_option maxHeartbeats 2000000
namespace E2
variable [Tbs]
open PySem PySem.Spec PyProof.Rows L2
section
variable {K : Kw} {Fa Ca : Nat → Addr} {pr : List (Nat × Addr)} {W : WX} {r r1 r2 r' : En} {σ σ2 : L2.St} {N N1 N' : NS} {H H1 H' : Hp} {v : V} {d : D} {a : Addr} {α β γ δ : Type} {X : Cx} {G : Gs} {pos : Pos} {tg : Expr} {tq tq1 : Tg} {vs us : List Nat} {Dr : Addr}
theorem loop_it {J : It} {n : Nat} {GG : Hp → Prop} {Y : Nat → Hp → V → Hp → Prop} {H0 : Hp} (w : Walk J n GG Y) (B : (Hp → Prop) → V → Hp → Prop) (F : Hp → Prop) (Pv : Nat → Hp → Prop) (h0 : Pv 0 H0) (hG : ∀ i H, Pv i H → GG H) (hs : ∀ i x H H', i < n → Pv i H → Y i H x H' → B (Pv (i + 1)) x H') (hd : ∀ H, Pv n H → F H) :
    ∃ W : Nat → Nat → Hp → Prop, (∃ m, W 0 m H0) ∧ ∀ i m H, W i m H → (J.stop i H ∧ F H) ∨ (J.go i H ∧ ∃ Nx : Hp → Prop, (∀ H', Nx H' → ∃ m', m' < m ∧ W (i + 1) m' H') ∧ ∀ x H', J.yld i H x H' → B Nx x H') := by
  refine ⟨fun i m H => (m = n - i ∧ i ≤ n) ∧ Pv i H, ⟨n - 0, ⟨rfl, Nat.zero_le _⟩, h0⟩, fun i m H ⟨⟨em, le⟩, p⟩ => ?_⟩
  rcases Nat.lt_or_ge i n with lt | ge
  · exact .inr ⟨w.goes i H lt (hG i H p), Pv (i + 1), fun H' p' => ⟨n - (i + 1), by omega, ⟨rfl, lt⟩, p'⟩, fun x H' y => hs i x H H' lt p (w.yields i H x H' lt (hG i H p) y)⟩
  · have e : i = n := Nat.le_antisymm le ge
    subst e
    exact .inl ⟨w.stops H (hG i H p), hd H p⟩
theorem InI.fz {dd : D} (J : InI K Fa pr vs r1 σ N1 H1 Dr dd r σ2 N H) : Fz N1 H1 N H := J.base.ext.rps
/-- between the turns of an inner walk -/
def InP (K : Kw) (Fa : Nat → Addr) (pr : List (Nat × Addr)) (vs : List Nat) (r1 : En) (σ : L2.St) (N1 : NS) (H1 : Hp) (Dr : Addr) (us : List Nat) (σ2 : L2.St) (Fr : NS → Hp → Prop) (P : List D → En → Prop) (H' : Hp) : Prop := ∃ r' N' acc, InI K Fa pr vs r1 σ N1 H1 Dr (.list acc) (wipeE r' us) (L2.wipe σ2 us) N' H' ∧ Fr N' H' ∧ P acc r'
theorem in_turn {cond : CTo} {elt : CE} {acc : List D} {rb : En} {σ3 : L2.St} {H'' : Hp} {Z : Rs (List D) → Prop} {f : List D → En → Rs (List D)} {Fr : NS → Hp → Prop} (hZ : Z .stuck → False) (hD : H1 Dr = none) (np : ∀ i ∈ us, NoPr pr i) (hu : ∀ i ∈ us, i ∈ vs) (J : InI K Fa pr vs r1 σ N1 H1 Dr (.list acc) rb σ3 N' H'') (hw : L2.wipe σ3 us = L2.wipe σ2 us)
    (fr0 : Fr N' H'') (frS : ∀ N2 H2 N3 H3, Fr N2 H2 → Fz N2 H2 N3 H3 → Fr N3 H3)
    (h : Z (match evC G cond rb with
      | .ok true r2 => match evE G elt r2 with
        | .ok x r3 => match take r3 x with
          | some (y, r4) => if acc.length < sizeLine then f (acc ++ [y]) (wipeE r4 us) else .stuck
          | none => .stuck
        | _ => .stuck
      | .ok false r2 => f acc (wipeE r2 us)
      | _ => .stuck)) :
    tB K Fa Ca pr WF (evC G cond) σ3 H'' fun b H3 => if b = true then tE K Fa Ca pr WF (evE G elt) σ3 H3 fun y H4 => ∃ xs, H4 Dr = some (.lst xs) ∧ xs.length < sizeLine ∧ InP K Fa pr vs r1 σ N1 H1 Dr us σ2 Fr (fun acc r => Z (f acc r)) (upd H4 Dr (.lst (xs ++ [y]))) else InP K Fa pr vs r1 σ N1 H1 Dr us σ2 Fr (fun acc r => Z (f acc r)) H3 := by
  refine ⟨rb, N', J.g, ?_⟩
  cases e1 : evC G cond rb with
  | stuck => rw [e1] at h; exact hZ h
  | exc x r2 => rw [e1] at h; exact (hZ h).elim
  | ok k r2 =>
    rw [e1] at h
    intro b H3 N3 s3 g3 hb
    cases (show b = k from hb)
    have J3 := J.step s3 g3
    have f3 := frS _ _ _ _ fr0 s3.ext.rps
    cases k with
    | false =>
      rw [if_neg Bool.false_ne_true]
      exact ⟨wipeE r2 us, N3, acc, by rw [wipeE_twice, ← hw]; exact J3.wipe np hu, f3, h⟩
    | true =>
      rw [if_pos rfl]
      refine ⟨r2, N3, g3, ?_⟩
      cases e2 : evE G elt r2 with
      | stuck => simp only [e2] at h; exact hZ h
      | exc x r3 => simp only [e2] at h; exact (hZ h).elim
      | ok x r3 =>
        simp only [e2] at h
        intro v H4 N4 s4 g4 rf
        cases e3 : take r3 x with
        | none => simp only [e3] at h; exact (hZ h).elim
        | some yr =>
          obtain ⟨y, r4⟩ := yr
          simp only [e3] at h
          obtain ⟨N5, g5, s5, q5, _⟩ := RR.take (dr := (y, r4)) g3 s4 rf.1 rf.2 g4 e3
          split at h
          · rename_i hlen
            have J5 := J3.step s5 g5
            have f5 := frS _ _ _ _ f3 s5.ext.rps
            obtain ⟨xs, hx, ra⟩ := J5.m
            have Jw := J5.write (o := .lst (xs ++ [v])) (dd' := .list (acc ++ [y])) hD trivial fun st => ⟨_, upd_same, (ra.append (.cons q5 .nil)).keep st J5.g.trk⟩
            refine ⟨xs, hx, by rw [ra.length]; exact hlen, wipeE r4 us, N5, acc ++ [y], by rw [wipeE_twice, ← hw]; exact Jw.wipe np hu, frS _ _ _ _ f5 fun b u e n _ => ⟨by rw [upd_ne fun z => n (by rw [z]; exact J5.nD)]; exact e, n⟩, h⟩
          · exact (hZ h).elim
theorem frz_trans {N2 : NS} {H2 : Hp} {N3 : NS} {H3 : Hp} (f : Fz N H N2 H2) (g : Fz N2 H2 N3 H3) : Fz N H N3 H3 := fun b o e n t => g b o (f b o e n t).1 (f b o e n t).2 t
theorem lc2_imp {own : List (Str × Nat)} {vs1 : List Nat} {it it1 : CI} {cond cond1 : CTo} {elt : CE} {Q : VK} (hv : ∀ i ∈ vs1, i ∈ own.map (·.2)) (np : ∀ i ∈ own.map (·.2), NoPr pr i) (hj : ∀ j ∈ tgS tq, j ∈ own.map (·.2)) (hj1 : ∀ j ∈ tgS tq1, j ∈ vs1) (hq : tE K Fa Ca pr W (evE G (.lc2 own vs1 tq it cond tq1 it1 cond1 elt)) σ H Q) :
    tLc2 (tIt K tq Fa Ca pr W (evI G it)) (gB K tq) (tB K Fa Ca pr WF (evC G cond)) (tIt K tq1 Fa Ca pr WF (evI G it1)) (gB K tq1) (tB K Fa Ca pr WF (evC G cond1)) (tE K Fa Ca pr WF (evE G elt)) (own.map (·.2)) vs1 σ H Q := by
  obtain ⟨r, N, g, h⟩ := hq
  simp only [evE] at h
  show tIt K tq Fa Ca pr W (evI G it) σ H _
  refine tG_mono (tG_bind (rel := relI K tq) g (Stp.refl g) g h) fun J H1 ⟨xs, r1, N1, t1, s1, g1, ⟨GG, YY, walk, wst⟩, p1⟩ => fun Dr hD => ?_
  have npv : ∀ i ∈ vs1, NoPr pr i := fun i hi => np i (hv i hi)
  let Z : Rs (List D) → Prop := fun Z => PostG K Fa Ca pr W (relE K Fa) r σ N H Q (Z.bind fun ys r2 => .ok (.val true (.list ys)) (backE r1 r2 (own.map (·.2))))
  let f : Nat → List D → En → Rs (List D) := fun i acc r' => lc2Go (own.map (·.2)) vs1 (fun d r => bindT d r tq) (evC G cond) (evI G it1) (fun d r => bindT d r tq1) (evC G cond1) (evE G elt) (xs.drop i) acc r'
  refine loop_it walk (fun Nx x H' => gB K tq x (L2.wipe σ (own.map (·.2))) H' fun σ2 H2 => L2.wipe σ2 (own.map (·.2)) = L2.wipe σ (own.map (·.2)) ∧ tB K Fa Ca pr WF (evC G cond) σ2 H2 fun b H3 =>
    if b = true then tIt K tq1 Fa Ca pr WF (evI G it1) σ2 H3 fun J1 H4 => ∃ W1 : Nat → Nat → Hp → Prop, (∃ m, W1 0 m H4) ∧ ∀ j k H, W1 j k H →
      (J1.stop j H ∧ Nx H) ∨ (J1.go j H ∧ ∃ Nx1 : Hp → Prop, (∀ H', Nx1 H' → ∃ k', k' < k ∧ W1 (j + 1) k' H') ∧ ∀ x H', J1.yld j H x H' → gB K tq1 x (L2.wipe σ2 vs1) H' fun σ3 H5 => L2.wipe σ3 vs1 = L2.wipe σ2 vs1 ∧ tB K Fa Ca pr WF (evC G cond1) σ3 H5 fun b H6 =>
        if b = true then tE K Fa Ca pr WF (evE G elt) σ3 H6 fun y H7 => ∃ acc, H7 Dr = some (.lst acc) ∧ acc.length < sizeLine ∧ Nx1 (upd H7 Dr (.lst (acc ++ [y]))) else Nx1 H6)
    else Nx H3) _ (fun i H' => LcP K Fa pr (own.map (·.2)) r1 σ N1 H1 Dr (fun acc r' => Z (f i acc r')) H') ?_ ?_ ?_ ?_
  · exact ⟨r1, _, [], LcI.start g1 np hD (o := .lst []) trivial fun N' => ⟨[], upd_same, .nil⟩, p1⟩
  · rintro i H' ⟨r', N', acc, I, _⟩
    exact (wst N' H' I.fz).1
  · rintro i x H' H'' hi ⟨r', N', acc, I, p⟩ y
    have ei : xs.drop i = xs[i] :: xs.drop (i + 1) := List.drop_eq_getElem_cons hi
    have item := (wst N' H' I.fz).2 i x H'' xs[i] y (List.getElem?_eq_getElem hi)
    simp only [f] at p
    rw [ei] at p
    cases eb : bindT xs[i] (wipeE r' (own.map (·.2))) tq with
    | none => simp only [lc2Go, eb] at p; exact p.elim
    | some rb =>
      simp only [lc2Go, eb] at p
      refine I.item np hj item eb fun σ2 J hw => ⟨rb, N', J.g, ?_⟩
      cases e1 : evC G cond rb with
      | stuck => simp only [e1] at p; exact p.elim
      | exc x r2 => simp only [e1] at p; exact p.elim
      | ok k r2 =>
        simp only [e1] at p
        intro b H3 N3 s3 g3 hb
        cases (show b = k from hb)
        have J3 := J.step s3 g3
        cases k with
        | false =>
          rw [if_neg Bool.false_ne_true]
          exact ⟨_, N3, acc, (J3.lcI np).wiped, p⟩
        | true =>
          rw [if_pos rfl]
          refine ⟨r2, N3, g3, ?_⟩
          cases e2 : evI G it1 r2 with
          | stuck => simp only [e2] at p; exact p.elim
          | exc x r3 => simp only [e2] at p; exact p.elim
          | ok ys r3 =>
            simp only [e2] at p
            intro J1 H4 N4 s4 g4 ⟨G1, Y1, walk1, wst1⟩
            have J4 := J3.step s4 g4
            let Z1 : Rs (List D) → Prop := fun q => Z (match q with
              | .ok acc1 r4 => f (i + 1) acc1 (wipeE r4 (own.map (·.2)))
              | _ => .stuck)
            refine loop_it walk1 _ _ (fun j H' => InP K Fa pr (own.map (·.2)) r1 σ N1 H1 Dr vs1 σ2 (Fz N4 H4) (fun acc r' => Z1 (lcGo vs1 (fun d r => bindT d r tq1) (evC G cond1) (evE G elt) (ys.drop j) acc r')) H') ?_ ?_ ?_ ?_
            · exact ⟨r3, N4, acc, J4.wipe npv hv, Fz.refl, p⟩
            · rintro j H' ⟨r', N', acc, I, fz, _⟩
              exact (wst1 N' H' fz).1
            · rintro j x H5 H6 hj' ⟨r', N', acc, I, fz, q⟩ y1
              have ej : ys.drop j = ys[j] :: ys.drop (j + 1) := List.drop_eq_getElem_cons hj'
              have item1 := (wst1 N' H5 fz).2 j x H6 ys[j] y1 (List.getElem?_eq_getElem hj')
              rw [ej] at q
              cases eb1 : bindT ys[j] (wipeE r' vs1) tq1 with
              | none => simp only [lcGo, eb1] at q; exact q.elim
              | some rb1 =>
                simp only [lcGo, eb1] at q
                refine I.item npv hv hj1 item1 eb1 fun σ3 Jb hw1 => ?_
                refine in_turn (Z := Z1) (Fr := Fz N4 H4) (fun z => z) hD npv hv Jb hw1 ?_ (fun N2 H2 N3 H3 f g => frz_trans f g) q
                rcases item1 with ⟨rfl, _⟩ | ⟨T, _, _, _, _, hT, rfl, _⟩
                · exact fz
                · exact frz_trans fz fun b o e n _ => ⟨upd_keep hT b o e, n⟩
            · rintro H5 ⟨r', N', acc, I, fz, q⟩
              rw [List.drop_length] at q
              have q2 : Z (f (i + 1) acc (wipeE r' (own.map fun x => x.2))) := by
                simp only [lcGo, Z1] at q
                exact q
              refine ⟨wipeE r' (own.map fun x => x.2), N', acc, ?_, q2⟩
              have z := (I.lcI np).wiped
              rw [wipeE_sub hv] at z
              exact z
  · rintro H' ⟨r', N', acc, I, p⟩
    simp only [f, List.drop_length] at p
    exact I.value hD g s1 g1 p
theorem fe_lc2 {own : List (Str × Nat)} {vs1 : List Nat} {it it1 : CI} {cond cond1 : CTo} {elt : CE} {elte tge itere tge1 itere1 : Expr} {ifs ifs1 : List Expr} {scope : Scope} (hc : X.calm = true) (hN : X.N.Nodup) (hi : PI X tge itere (tIt K tq Fa Ca pr W (evI G it))) (ok : BlkOk X.N X.env.scope scope own) (hv : ∀ i ∈ vs1, i ∈ own.map (·.2))
    (np : ∀ i ∈ own.map (·.2), NoPr pr i) (hj : ∀ j ∈ tgS tq, j ∈ own.map (·.2)) (hj1 : ∀ j ∈ tgS tq1, j ∈ vs1)
    (hg : ∀ (s : Shared) (H : Hp) (C : Addr) (cl : List (Str × Addr)) (fp : List Addr), PG (X.blk s H scope (compEnvC scope cl C X.env) fp) tge (gB K tq)) (ht : ∀ (s : Shared) (H : Hp) (C : Addr) (cl : List (Str × Addr)) (fp : List Addr), PTs (X.blk s H scope (compEnvC scope cl C X.env) fp) ifs (tB K Fa Ca pr WF (evC G cond)))
    (hi1 : ∀ (s : Shared) (H : Hp) (C : Addr) (cl : List (Str × Addr)) (fp : List Addr), PI (X.blk s H scope (compEnvC scope cl C X.env) fp) tge1 itere1 (tIt K tq1 Fa Ca pr WF (evI G it1)))
    (hg1 : ∀ (s : Shared) (H : Hp) (C : Addr) (cl : List (Str × Addr)) (fp : List Addr), PG (X.blk s H scope (compEnvC scope cl C X.env) fp) tge1 (gB K tq1)) (ht1 : ∀ (s : Shared) (H : Hp) (C : Addr) (cl : List (Str × Addr)) (fp : List Addr), PTs (X.blk s H scope (compEnvC scope cl C X.env) fp) ifs1 (tB K Fa Ca pr WF (evC G cond1)))
    (he : ∀ (s : Shared) (H : Hp) (C : Addr) (cl : List (Str × Addr)) (fp : List Addr), PE (X.blk s H scope (compEnvC scope cl C X.env) fp) elte (tE K Fa Ca pr WF (evE G elt))) (hs : ∀ x, foldedSetIterable itere X.env x = pure x) (hs1 : ∀ env x, foldedSetIterable itere1 env x = pure x) :
    PE X (.ListComp elte [⟨tge, itere, ifs, 0⟩, ⟨tge1, itere1, ifs1, 0⟩] scope pos) (tE K Fa Ca pr W (evE G (.lc2 own vs1 tq it cond tq1 it1 cond1 elt))) := by
  exact PE.imp (pe_lc2 hc hN hi ok hv hg ht hi1 hg1 ht1 he hs hs1) fun σ H Q h => lc2_imp hv np hj hj1 h
end
end E2

set_option Elab.async false
set_option linter.all false
set_option maxRecDepth 100000
set_option maxHeartbeats 2000000
namespace E2
variable [Tbs]
open PySem PySem.Spec PyProof.Rows L2
section
variable {K : Kw} {Fa Ca : Nat → Addr} {pr : List (Nat × Addr)} {W : WX} {r r1 r2 r' : En} {σ σ2 : L2.St} {N N1 N' : NS} {H H1 H' : Hp} {v : V} {d : D} {a : Addr} {α β γ δ : Type} {X : Cx} {G : Gs} {pos : Pos} {tg : Expr} {tq tq1 : Tg} {vs us : List Nat} {Dr : Addr}
theorem RpA.twoR {vs : List V} {y z : D} (h : RpA K N H vs [y, z]) : ∃ v w, vs = [v, w] ∧ Rp K N H v y ∧ Rp K N H w z := by
  cases h with
  | cons h t =>
    obtain ⟨w, rfl, h2⟩ := RpA.oneR t
    exact ⟨_, w, rfl, h, h2⟩
def DcP (K : Kw) (Fa : Nat → Addr) (pr : List (Nat × Addr)) (vs : List Nat) (r1 : En) (σ : L2.St) (N1 : NS) (H1 : Hp) (Dr : Addr) (P : List (D × D) → En → Prop) (H' : Hp) : Prop := ∃ r' N' acc, LcI K Fa pr vs r1 σ N1 H1 Dr (.dict acc) r' N' H' ∧ P acc r'
theorem dc_turn {cond : CTo} {ek ev : CE} {acc : List (D × D)} {rb : En} {H'' : Hp} {Z : Rs (List (D × D)) → Prop} {f : List (D × D) → En → Rs (List (D × D))} (hZ : Z .stuck → False) (hD : H1 Dr = none) (np : ∀ i ∈ vs, NoPr pr i) (J : InI K Fa pr vs r1 σ N1 H1 Dr (.dict acc) rb σ2 N' H'')
    (h : Z (match evC G cond rb with
      | .ok true r2 => match evE G ek r2 with
        | .ok x r3 => match evE G ev r3 with
          | .ok y r4 => match takes r4 [x, y] with
            | some ([k, v], r6) => if (acc.all (fun p => flatK p.1) && flatK k) = true ∧ acc.length < sizeLine then f (dPut acc k v) (wipeE r6 vs) else .stuck
            | _ => .stuck
          | _ => .stuck
        | _ => .stuck
      | .ok false r2 => f acc (wipeE r2 vs)
      | _ => .stuck)) :
    tB K Fa Ca pr WF (evC G cond) σ2 H'' fun b H3 => if b = true then tE K Fa Ca pr WF (evE G ek) σ2 H3 fun y H4 => tE K Fa Ca pr WF (evE G ev) σ2 H4 fun z H5 => ∃ kvs k, y = kV k ∧ H5 Dr = some (.dK kvs) ∧ kvs.length < sizeLine ∧ DcP K Fa pr vs r1 σ N1 H1 Dr (fun acc r => Z (f acc r)) (upd H5 Dr (.dK (putK kvs k z))) else DcP K Fa pr vs r1 σ N1 H1 Dr (fun acc r => Z (f acc r)) H3 := by
  refine ⟨rb, N', J.g, ?_⟩
  cases e1 : evC G cond rb with
  | stuck => rw [e1] at h; exact hZ h
  | exc x r2 => rw [e1] at h; exact (hZ h).elim
  | ok k r2 =>
    rw [e1] at h
    intro b H3 N3 s3 g3 hb
    cases (show b = k from hb)
    have J3 := J.step s3 g3
    cases k with
    | false =>
      rw [if_neg Bool.false_ne_true]
      exact ⟨_, N3, acc, (J3.lcI np).wiped, h⟩
    | true =>
      rw [if_pos rfl]
      refine ⟨r2, N3, g3, ?_⟩
      cases e2 : evE G ek r2 with
      | stuck => simp only [e2] at h; exact hZ h
      | exc x r3 => simp only [e2] at h; exact (hZ h).elim
      | ok x r3 =>
        simp only [e2] at h
        intro v H4 N4 s4 g4 rf
        refine ⟨r3, N4, g4, ?_⟩
        cases e3 : evE G ev r3 with
        | stuck => simp only [e3] at h; exact hZ h
        | exc x r3 => simp only [e3] at h; exact (hZ h).elim
        | ok y r4 =>
          simp only [e3] at h
          intro w H5 N5 s5 g5 rf5
          have rl : relL K Fa [x, y] r2 N3 r4 σ2 N5 H5 [v, w] := relL_cons s4 g4 rf.1 rf.2 s5 (relL_cons s5 g5 rf5.1 rf5.2 (Stp.refl g5) relL_nil)
          split at h
          · rename_i kk vv r6 et
            obtain ⟨N6, g6, s6, q6, _⟩ := takes_ok g3 (dr := ([kk, vv], r6)) (s4.trans g3 s5) rl.1 rl.2.2 rl.2.1 g5 et
            split at h
            · rename_i hc
              obtain ⟨v', w', e6, hk, hv⟩ := RpA.twoR q6
              cases e6
              simp only [Bool.and_eq_true] at hc
              obtain ⟨q, rfl⟩ := flatK_key hc.1.2
              have ey := DR.key (q := q) (.inl hk)
              subst ey
              have J6 := J3.step s6 g6
              obtain ⟨kvs, h1, rk⟩ := DicR.flat (show DicR K N6 H5 Dr acc from J6.m) hc.1.1
              refine ⟨kvs, q, rfl, h1, by rw [rk.length]; exact hc.2, _, N6, dPut acc (kD q) vv, ((J6.write (o := .dK (putK kvs q w)) (dd' := .dict (dPut acc (kD q) vv)) hD trivial fun st => .inl ⟨_, upd_same, (rk.put q hv).keep st J6.g.trk⟩).lcI np).wiped, h⟩
            · exact (hZ h).elim
          · exact (hZ h).elim
theorem fe_dc {own : List (Str × Nat)} {it : CI} {cond : CTo} {ek ev : CE} {ke ve tge itere : Expr} {ifs : List Expr} {scope : Scope} (hc : X.calm = true) (hN : X.N.Nodup) (hi : PI X tge itere (tIt K tq Fa Ca pr W (evI G it))) (ok : BlkOk X.N X.env.scope scope own)
    (np : ∀ i ∈ own.map (·.2), NoPr pr i) (hj : ∀ j ∈ tgS tq, j ∈ own.map (·.2))
    (hg : ∀ (s : Shared) (H : Hp) (C : Addr) (cl : List (Str × Addr)) (fp : List Addr), PG (X.blk s H scope (compEnvC scope cl C X.env) fp) tge (gB K tq)) (ht : ∀ (s : Shared) (H : Hp) (C : Addr) (cl : List (Str × Addr)) (fp : List Addr), PTs (X.blk s H scope (compEnvC scope cl C X.env) fp) ifs (tB K Fa Ca pr WF (evC G cond)))
    (hk : ∀ (s : Shared) (H : Hp) (C : Addr) (cl : List (Str × Addr)) (fp : List Addr), PE (X.blk s H scope (compEnvC scope cl C X.env) fp) ke (tE K Fa Ca pr WF (evE G ek)))
    (he : ∀ (s : Shared) (H : Hp) (C : Addr) (cl : List (Str × Addr)) (fp : List Addr), PE (X.blk s H scope (compEnvC scope cl C X.env) fp) ve (tE K Fa Ca pr WF (evE G ev))) (hs : ∀ x, foldedSetIterable itere X.env x = pure x) :
    PE X (.DictComp ke ve [⟨tge, itere, ifs, 0⟩] scope pos) (tE K Fa Ca pr W (evE G (.dc own tq it cond ek ev))) := by
  refine PE.imp (pe_dc hc hN hi ok hg ht hk he hs) fun σ H Q ⟨r, N, g, h⟩ => ?_
  simp only [evE] at h
  show tIt K tq Fa Ca pr W (evI G it) σ H _
  refine tG_mono (tG_bind (rel := relI K tq) g (Stp.refl g) g h) fun J H1 ⟨xs, r1, N1, t1, s1, g1, ⟨GG, YY, walk, wst⟩, p1⟩ => fun Dr hD => ?_
  let Z : Rs (List (D × D)) → Prop := fun Z => PostG K Fa Ca pr W (relE K Fa) r σ N H Q (Z.bind fun ys r2 => .ok (.val true (.dict ys)) (backE r1 r2 (own.map (·.2))))
  refine loop_it walk (fun Nx x H' => gB K tq x (L2.wipe σ (own.map (·.2))) H' fun σ2 H2 => L2.wipe σ2 (own.map (·.2)) = L2.wipe σ (own.map (·.2)) ∧ tB K Fa Ca pr WF (evC G cond) σ2 H2 fun b H3 =>
    if b = true then tE K Fa Ca pr WF (evE G ek) σ2 H3 fun y H4 => tE K Fa Ca pr WF (evE G ev) σ2 H4 fun z H5 => ∃ kvs k, y = kV k ∧ H5 Dr = some (.dK kvs) ∧ kvs.length < sizeLine ∧ Nx (upd H5 Dr (.dK (putK kvs k z))) else Nx H3) _
    (fun i H' => DcP K Fa pr (own.map (·.2)) r1 σ N1 H1 Dr (fun acc r' => Z (dcGo (own.map (·.2)) (fun d r => bindT d r tq) (evC G cond) (evE G ek) (evE G ev) (xs.drop i) acc r')) H') ?_ ?_ ?_ ?_
  · exact ⟨r1, _, [], LcI.start g1 np hD (o := .dK []) trivial fun N' => .inl ⟨[], upd_same, .nil⟩, p1⟩
  · rintro i H' ⟨r', N', acc, I, _⟩
    exact (wst N' H' I.fz).1
  · rintro i x H' H'' hi ⟨r', N', acc, I, p⟩ y
    have ei : xs.drop i = xs[i] :: xs.drop (i + 1) := List.drop_eq_getElem_cons hi
    have item := (wst N' H' I.fz).2 i x H'' xs[i] y (List.getElem?_eq_getElem hi)
    rw [ei] at p
    cases eb : bindT xs[i] (wipeE r' (own.map (·.2))) tq with
    | none => simp only [dcGo, eb] at p; exact p.elim
    | some rb =>
      simp only [dcGo, eb] at p
      refine I.item np hj item eb fun σ2 J hw => ?_
      exact dc_turn (Z := Z) (fun z => z) hD np J p
  · rintro H' ⟨r', N', acc, I, p⟩
    rw [List.drop_length] at p
    simp only [dcGo, Z] at p
    exact I.value hD g s1 g1 p
end
end E2

set_option Elab.async false
set_option linter.all false
set_option maxRecDepth 100000
set_option maxHeartbeats 2000000
namespace E2
variable [Tbs]
open PySem PySem.Spec PyProof.Rows L2
/-! ## statements -/
section
variable (K : Kw) (Fa Ca : Nat → Addr) (pr : List (Nat × Addr)) (W : WX) (refs : List Addr) (N0 : NS) (H0 : Hp)
/-- how a def's body stands to its start -/
structure FrI (r : En) (σ : L2.St) (N : NS) (H : Hp) : Prop where
  g : Good K Fa pr r σ N H
  ext : Ext (fun b => b ∈ refs) N0 H0 N H
  ow : ∀ b, own r σ b → b ∈ refs ∨ H0 b = none
  t0 : ∀ b, N0 b → H0 b ≠ none
/-- what a body returns -/
def RetR (r : En) (σ : L2.St) (N : NS) (H : Hp) (v : V) (x : R) : Prop := RR K Fa r σ N H v x ∧ ∀ d a, x = .val true d → v = .ref a → ¬ N0 a ∨ a ∈ refs
def PostS (N : NS) (H : Hp) (D : Ends) : So → Prop
  | .nx r' => ∀ σ' N' H', FrI K Fa pr refs N0 H0 r' σ' N' H' → Fz N H N' H' → D.nx σ' H'
  | .brk r' => ∀ σ' N' H', FrI K Fa pr refs N0 H0 r' σ' N' H' → Fz N H N' H' → D.bk σ' H'
  | .cont r' => ∀ σ' N' H', FrI K Fa pr refs N0 H0 r' σ' N' H' → Fz N H N' H' → D.ct σ' H'
  | .ret x r' => ∀ v σ' N' H', FrI K Fa pr refs N0 H0 r' σ' N' H' → Fz N H N' H' → RetR K Fa refs N0 r' σ' N' H' v x → D.rt v H'
  | .exc x r' => ∀ cls d σ' N' H', FrI K Fa pr refs N0 H0 r' σ' N' H' → Fz N H N' H' → XR K Ca x cls d H' → W cls d σ' H'
  | .stuck => False
def tS (f : En → So) : TS := fun D σ H => ∃ r N, FrI K Fa pr refs N0 H0 r σ N H ∧ PostS K Fa Ca pr W refs N0 H0 N H D (f r)
end
section
variable {K : Kw} {Fa Ca : Nat → Addr} {pr : List (Nat × Addr)} {W : WX} {refs : List Addr} {N0 : NS} {H0 : Hp} {r r1 r2 r' : En} {σ σ2 : L2.St} {N N1 N' : NS} {H H1 H' : Hp} {v : V} {d : D} {a : Addr} {α β γ δ : Type} {X : Cx} {G : Gs} {pos : Pos} {tg : Expr} {tq tq1 : Tg} {vs us : List Nat} {Dr : Addr} {De : Ends}
theorem PS.imp {e : Stmt} {t t' : TS} (h : PS X e t) (i : ∀ D σ H, t' D σ H → t D σ H) : PS X e t' := ⟨fun pins s σ H D I q => h.run pins s σ H D I (i D σ H q)⟩
theorem PSs.imp {e : List Stmt} {t t' : TS} (h : PSs X e t) (i : ∀ D σ H, t' D σ H → t D σ H) : PSs X e t' := ⟨fun pins s σ H D I q => h.run pins s σ H D I (i D σ H q)⟩
theorem FrI.step (I : FrI K Fa pr refs N0 H0 r σ N H) (s : Stp r σ N H r' N' H') (g : Good K Fa pr r' σ N' H') : FrI K Fa pr refs N0 H0 r' σ N' H' :=
  ⟨g, I.ext.trans s.ext (fun b h => I.ow b h) I.t0, fun b h => I.ow b (s.own b h), I.t0⟩
theorem PostS.fz {o : So} (f : Fz N H N' H') (h : PostS K Fa Ca pr W refs N0 H0 N H De o) : PostS K Fa Ca pr W refs N0 H0 N' H' De o := by
  cases o with
  | nx r' => exact fun σ' N2 H2 I f2 => h σ' N2 H2 I (frz_trans f f2)
  | brk r' => exact fun σ' N2 H2 I f2 => h σ' N2 H2 I (frz_trans f f2)
  | cont r' => exact fun σ' N2 H2 I f2 => h σ' N2 H2 I (frz_trans f f2)
  | ret x r' => exact fun v σ' N2 H2 I f2 => h v σ' N2 H2 I (frz_trans f f2)
  | exc x r' => exact fun c d σ' N2 H2 I f2 => h c d σ' N2 H2 I (frz_trans f f2)
  | stuck => exact h
/-- an expression, then the rest of the statement -/
theorem so_bind {rel : Rel α β} {f : En → Rs α} {k : α → En → So} (I : FrI K Fa pr refs N0 H0 r σ N H) (h : PostS K Fa Ca pr W refs N0 H0 N H De ((f r).so k)) :
    tG K Fa Ca pr W rel f σ H (fun v H1 => ∃ y r1 N1, Stp r σ N H r1 N1 H1 ∧ FrI K Fa pr refs N0 H0 r1 σ N1 H1 ∧ rel y r N r1 σ N1 H1 v ∧ PostS K Fa Ca pr W refs N0 H0 N1 H1 De (k y r1)) := by
  refine ⟨r, N, I.g, ?_⟩
  cases e : f r with
  | ok y r' =>
    rw [e] at h
    exact fun v H' N' s' g' q => ⟨y, r', N', s', I.step s' g', q, PostS.fz s'.ext.rps h⟩
  | exc x r' =>
    rw [e] at h
    exact fun c d H' N' s' g' q => h c d σ N' H' (I.step s' g') s'.ext.rps q
  | stuck =>
    rw [e] at h
    exact h
theorem so_bind0 {rel : Rel α β} {f : En → Rs α} {k : α → En → So} (I : FrI K Fa pr refs N0 H0 r σ N H) (h : PostS K Fa Ca pr W refs N0 H0 N H De ((f r).so k)) :
    tG K Fa Ca pr W rel f σ H (fun v H1 => ∃ y r1 N1, Stp r σ N H r1 N1 H1 ∧ FrI K Fa pr refs N0 H0 r1 σ N1 H1 ∧ rel y r N r1 σ N1 H1 v ∧ PostS K Fa Ca pr W refs N0 H0 N H De (k y r1)) := by
  refine ⟨r, N, I.g, ?_⟩
  cases e : f r with
  | ok y r' =>
    rw [e] at h
    exact fun v H' N' s' g' q => ⟨y, r', N', s', I.step s' g', q, h⟩
  | exc x r' =>
    rw [e] at h
    exact fun c d H' N' s' g' q => h c d σ N' H' (I.step s' g') s'.ext.rps q
  | stuck =>
    rw [e] at h
    exact h
theorem fs_nil : PSs X [] (tS K Fa Ca pr W refs N0 H0 (evSs G .nil)) := PSs.imp pss_nil fun D σ H ⟨r, N, I, h⟩ => by
  simp only [evSs] at h
  exact h σ N H I Fz.refl
theorem fs_cons {s : CS} {ss : CSs} {st : Stmt} {rest : List Stmt} (h1 : PS X st (tS K Fa Ca pr W refs N0 H0 (evS G s))) (h2 : PSs X rest (tS K Fa Ca pr W refs N0 H0 (evSs G ss))) : PSs X (st :: rest) (tS K Fa Ca pr W refs N0 H0 (evSs G (.cons s ss))) := by
  refine PSs.imp (pss_cons h1 h2) fun D σ H ⟨r, N, I, h⟩ => ⟨r, N, I, ?_⟩
  simp only [evSs] at h
  cases e : evS G s r with
  | nx r' => rw [e] at h; exact fun σ' N' H' I' f => ⟨r', N', I', PostS.fz f h⟩
  | brk r' => rw [e] at h; exact h
  | cont r' => rw [e] at h; exact h
  | ret x r' => rw [e] at h; exact h
  | exc x r' => rw [e] at h; exact h
  | stuck => rw [e] at h; exact h
theorem fs_pass : PS X (.Pass pos) (tS K Fa Ca pr W refs N0 H0 (evS G .pass)) := PS.imp ps_pass fun D σ H ⟨r, N, I, h⟩ => by
  simp only [evS] at h
  exact h σ N H I Fz.refl
theorem fs_brk : PS X (.Break pos) (tS K Fa Ca pr W refs N0 H0 (evS G .brk)) := PS.imp ps_break fun D σ H ⟨r, N, I, h⟩ => by
  simp only [evS] at h
  exact h σ N H I Fz.refl
theorem fs_cont : PS X (.Continue pos) (tS K Fa Ca pr W refs N0 H0 (evS G .cont)) := PS.imp ps_continue fun D σ H ⟨r, N, I, h⟩ => by
  simp only [evS] at h
  exact h σ N H I Fz.refl
/-- a fresh list was not of the start -/
theorem FrI.fresh {x : R} (I : FrI K Fa pr refs N0 H0 r σ N H) (f : Fsh r σ N v x) : ∀ d a, x = .val true d → v = .ref a → ¬ N0 a ∨ a ∈ refs := fun d a e1 e2 => by
  subst e1
  by_cases z : a ∈ refs
  · exact .inr z
  · by_cases n : N0 a
    · rcases I.ow a (f a e2 (I.ext.stay a n z)) with q | q
      · exact absurd q z
      · exact absurd q (I.t0 a n)
    · exact .inl n
theorem fs_ret {c : CE} {e : Expr} (h1 : PE X e (tE K Fa Ca pr W (evE G c))) : PS X (.Return (some e) pos) (tS K Fa Ca pr W refs N0 H0 (evS G (.ret c))) := by
  refine PS.imp (ps_ret h1) fun D σ H ⟨r, N, I, h⟩ => ?_
  simp only [evS] at h
  show tE K Fa Ca pr W (evE G c) σ H _
  refine tG_mono (so_bind (rel := relE K Fa) I h) fun v H1 ⟨y, r1, N1, s1, I1, ⟨q1, f1⟩, p1⟩ => p1 v σ N1 H1 I1 Fz.refl ⟨q1, I.fresh f1⟩
theorem fs_retN : PS X (.Return none pos) (tS K Fa Ca pr W refs N0 H0 (evS G .retN)) := PS.imp ps_retN fun D σ H ⟨r, N, I, h⟩ => by
  simp only [evS] at h
  exact h .non σ N H I Fz.refl ⟨Rp.non, fun d a e => by cases e⟩
theorem fs_ex {c : CE} {e : Expr} (h1 : PE X e (tE K Fa Ca pr W (evE G c))) (hs : swapsWith e none pos.line X.env = pure false) : PS X (.Expr e pos) (tS K Fa Ca pr W refs N0 H0 (evS G (.ex c))) := by
  refine PS.imp (ps_expr h1 hs) fun D σ H ⟨r, N, I, h⟩ => ?_
  simp only [evS] at h
  show tE K Fa Ca pr W (evE G c) σ H _
  exact tG_mono (so_bind (rel := relE K Fa) I h) fun v H1 ⟨y, r1, N1, s1, I1, ⟨q1, f1⟩, p1⟩ => p1 σ N1 H1 I1 Fz.refl
theorem fs_ite {t : CT} {a b : CSs} {c : Expr} {sa sb : List Stmt} (hc : PT X c (tB K Fa Ca pr W (evT G t))) (ha : PSs X sa (tS K Fa Ca pr W refs N0 H0 (evSs G a))) (hb : PSs X sb (tS K Fa Ca pr W refs N0 H0 (evSs G b))) : PS X (.If c sa sb pos) (tS K Fa Ca pr W refs N0 H0 (evS G (.ite t a b))) := by
  refine PS.imp (ps_if hc ha hb) fun D σ H ⟨r, N, I, h⟩ => ?_
  simp only [evS] at h
  show tB K Fa Ca pr W (evT G t) σ H _
  refine tG_mono (so_bind (rel := relB) I h) fun k H1 ⟨y, r1, N1, s1, I1, q1, p1⟩ => ?_
  cases (show k = y from q1)
  cases k with
  | true => rw [if_pos rfl]; exact ⟨r1, N1, I1, p1⟩
  | false => rw [if_neg Bool.false_ne_true]; exact ⟨r1, N1, I1, p1⟩
/-! ### stores into names -/
theorem putO {i : Nat} {s : Sv} (I : FrI K Fa pr refs N0 H0 r σ N H) (hi : i < r.length) (np : NoPr pr i) (h : SvR K Fa N H v s) (na : ∀ a d, s = .dat true d → v = .ref a → ¬ own r σ a ∧ (a ∈ refs ∨ H0 a = none)) : FrI K Fa pr refs N0 H0 (r.set i (some s)) (σ.set i (some v)) N H := by
  refine ⟨I.g.put hi np h fun a d e1 e2 => (na a d e1 e2).1, I.ext, fun b hb => ?_, I.t0⟩
  rcases own_put hb with z | ⟨d, e1, e2⟩
  · exact I.ow b z
  · cases e1
    cases e2
    exact (na b d rfl rfl).2
theorem FrI.freshO {x : R} (I : FrI K Fa pr refs N0 H0 r1 σ N1 H1) (q : RR K Fa r1 σ N1 H1 v x) (f : ∀ d a, x = .val true d → v = .ref a → ¬ N0 a ∨ a ∈ refs) : ∀ d a, x = .val true d → v = .ref a → a ∈ refs ∨ H0 a = none := fun d a e1 e2 => by
  rcases f d a e1 e2 with n | n
  · subst e1
    obtain ⟨b, e3, h1, _⟩ := q
    rw [e2] at e3
    cases e3
    exact .inr ((I.ext.new a h1).resolve_left n)
  · exact .inl n
theorem putSlot_ok {i : Nat} {x : R} {r0 : En} {N00 : NS} {H00 : Hp} (I0 : FrI K Fa pr refs N0 H0 r0 σ N00 H00) (s : Stp r0 σ N00 H00 r N H) (I : FrI K Fa pr refs N0 H0 r σ N H) (np : NoPr pr i) (q : RF K Fa r0 N00 r σ N H v x) (e : putSlot i x r = some r2) : ∃ N2, FrI K Fa pr refs N0 H0 r2 (σ.set i (some v)) N2 H ∧ Fz N H N2 H := by
  unfold putSlot at e
  split at e
  · rename_i hi
    split at e
    · rename_i o d
      cases e
      refine ⟨N, putO I hi np (s := .dat o d) ?_ ?_, Fz.refl⟩
      · cases o with
        | false => exact q.1
        | true => obtain ⟨a, h1, h2, h3, _⟩ := q.1; exact ⟨a, h1, h2, h3⟩
      · intro a d' e1 e2
        cases e1
        obtain ⟨b, h1, h2, h3, h4⟩ := q.1
        rw [e2] at h1
        cases h1
        exact ⟨h4, I.freshO q.1 (I0.fresh q.2) d a rfl e2⟩
    · rename_i k
      cases e
      exact ⟨N, putO I hi np (s := .fn k) q.1 (fun a d e => nomatch e), Fz.refl⟩
    · rename_i j
      split at e
      · rename_i o d ej
        cases e
        have et : take r (.sl j) = some (d, r.set j (some (.dat false d))) := by simp only [take, ej]
        obtain ⟨N2, g2, s2, q2, _⟩ := RR.take (dr := (d, r.set j (some (.dat false d)))) I.g (Stp.refl I.g) q.1 trivial I.g et
        have I2 := I.step s2 g2
        exact ⟨N2, putO I2 (by rw [List.length_set]; exact hi) np (s := .dat false d) q2 (fun a d e => nomatch e), s2.ext.rps⟩
      · cases e
  · cases e
theorem fs_set {i : Nat} {c : CE} {x : Str} {e : Expr} {pos' : Pos} (np : NoPr pr i) (hN : X.N.Nodup) (hi : X.N[i]? = some x) (hx : Loc X.env.scope x) (hf : X.fn x = true ∨ X.env.scope.names.lookup x = some .local) (hs : swapsWith e (some (.Name x pos')) pos.line X.env = pure false) (h1 : PE X e (tE K Fa Ca pr W (evE G c))) :
    PS X (.Assign [.Name x pos'] e pos) (tS K Fa Ca pr W refs N0 H0 (evS G (.set i c))) := by
  refine PS.imp (ps_set hN hi hx h1 hs hf) fun D σ H ⟨r, N, I, h⟩ => ?_
  simp only [evS] at h
  show tE K Fa Ca pr W (evE G c) σ H _
  refine tG_mono (so_bind (rel := relE K Fa) I h) fun v H1 ⟨y, r1, N1, s1, I1, q1, p1⟩ => ?_
  cases e : putSlot i y r1 with
  | none => simp only [e] at p1; exact p1.elim
  | some r2 =>
    simp only [e] at p1
    obtain ⟨N2, I2, f2⟩ := putSlot_ok I s1 I1 np q1 e
    exact p1 _ N2 H1 I2 f2
end
end E2

set_option Elab.async false
set_option linter.all false
set_option maxRecDepth 100000
set_option maxHeartbeats 2000000
namespace E2
variable [Tbs]
open PySem PySem.Spec PyProof.Rows L2
section
variable {K : Kw} {Fa Ca : Nat → Addr} {pr : List (Nat × Addr)} {W : WX} {refs : List Addr} {N0 : NS} {H0 : Hp} {r r1 r2 r' : En} {σ σ2 : L2.St} {N N1 N' : NS} {H H1 H' : Hp} {v : V} {d : D} {a : Addr} {α β γ δ : Type} {X : Cx} {G : Gs} {pos : Pos} {tg : Expr} {tq tq1 : Tg} {vs us : List Nat} {Dr : Addr} {De : Ends}
/-- name = [..] on one line -/
theorem fs_setLc {i : Nat} {y : Str} {py spos : Pos} {own : List (Str × Nat)} {it : CI} {cond : CTo} {elt : CE} {elte tge itere : Expr} {ifs : List Expr} {scope : Scope} (npi : NoPr pr i) (hc : X.calm = true) (hN : X.N.Nodup) (hy : X.N[i]? = some y) (hyl : X.env.scope.names.lookup y = some .local)
    (hsw : swapsWith (.ListComp elte [⟨tge, itere, ifs, 0⟩] scope pos) (some (.Name y py)) spos.line X.env = pure true) (hi : PI X tge itere (tIt K tq Fa Ca pr W (evI G it))) (ok : BlkOk X.N X.env.scope scope own)
    (np : ∀ i ∈ own.map (·.2), NoPr pr i) (hj : ∀ j ∈ tgS tq, j ∈ own.map (·.2))
    (hg : ∀ (s : Shared) (H : Hp) (C : Addr) (cl : List (Str × Addr)) (fp : List Addr), PG (X.blk s H scope (compEnvC scope cl C X.env) fp) tge (gB K tq)) (ht : ∀ (s : Shared) (H : Hp) (C : Addr) (cl : List (Str × Addr)) (fp : List Addr), PTs (X.blk s H scope (compEnvC scope cl C X.env) fp) ifs (tB K Fa Ca pr WF (evC G cond)))
    (he : ∀ (s : Shared) (H : Hp) (C : Addr) (cl : List (Str × Addr)) (fp : List Addr), PE (X.blk s H scope (compEnvC scope cl C X.env) fp) elte (tE K Fa Ca pr WF (evE G elt))) (hs : ∀ x, foldedSetIterable itere X.env x = pure x) :
    PS X (.Assign [.Name y py] (.ListComp elte [⟨tge, itere, ifs, 0⟩] scope pos) spos) (tS K Fa Ca pr W refs N0 H0 (evS G (.set i (.lc own tq it cond elt)))) := by
  refine PS.imp (ps_setLc hc hN hy hyl hsw hi ok hg ht he hs) fun D σ H ⟨r, N, I, h⟩ => ?_
  simp only [evS] at h
  refine lc_imp np hj (tG_mono (so_bind (rel := relE K Fa) I h) fun v H1 ⟨y, r1, N1, s1, I1, q1, p1⟩ => ?_)
  cases e : putSlot i y r1 with
  | none => simp only [e] at p1; exact p1.elim
  | some r2 =>
    simp only [e] at p1
    obtain ⟨N2, I2, f2⟩ := putSlot_ok I s1 I1 npi q1 e
    exact p1 _ N2 H1 I2 f2
theorem fs_setLc2 {i : Nat} {y : Str} {py spos : Pos} {own : List (Str × Nat)} {vs1 : List Nat} {it it1 : CI} {cond cond1 : CTo} {elt : CE} {elte tge itere tge1 itere1 : Expr} {ifs ifs1 : List Expr} {scope : Scope} (npi : NoPr pr i) (hc : X.calm = true) (hN : X.N.Nodup) (hy : X.N[i]? = some y) (hyl : X.env.scope.names.lookup y = some .local)
    (hsw : swapsWith (.ListComp elte [⟨tge, itere, ifs, 0⟩, ⟨tge1, itere1, ifs1, 0⟩] scope pos) (some (.Name y py)) spos.line X.env = pure true) (hi : PI X tge itere (tIt K tq Fa Ca pr W (evI G it))) (ok : BlkOk X.N X.env.scope scope own) (hv : ∀ i ∈ vs1, i ∈ own.map (·.2))
    (np : ∀ i ∈ own.map (·.2), NoPr pr i) (hj : ∀ j ∈ tgS tq, j ∈ own.map (·.2)) (hj1 : ∀ j ∈ tgS tq1, j ∈ vs1)
    (hg : ∀ (s : Shared) (H : Hp) (C : Addr) (cl : List (Str × Addr)) (fp : List Addr), PG (X.blk s H scope (compEnvC scope cl C X.env) fp) tge (gB K tq)) (ht : ∀ (s : Shared) (H : Hp) (C : Addr) (cl : List (Str × Addr)) (fp : List Addr), PTs (X.blk s H scope (compEnvC scope cl C X.env) fp) ifs (tB K Fa Ca pr WF (evC G cond)))
    (hi1 : ∀ (s : Shared) (H : Hp) (C : Addr) (cl : List (Str × Addr)) (fp : List Addr), PI (X.blk s H scope (compEnvC scope cl C X.env) fp) tge1 itere1 (tIt K tq1 Fa Ca pr WF (evI G it1)))
    (hg1 : ∀ (s : Shared) (H : Hp) (C : Addr) (cl : List (Str × Addr)) (fp : List Addr), PG (X.blk s H scope (compEnvC scope cl C X.env) fp) tge1 (gB K tq1)) (ht1 : ∀ (s : Shared) (H : Hp) (C : Addr) (cl : List (Str × Addr)) (fp : List Addr), PTs (X.blk s H scope (compEnvC scope cl C X.env) fp) ifs1 (tB K Fa Ca pr WF (evC G cond1)))
    (he : ∀ (s : Shared) (H : Hp) (C : Addr) (cl : List (Str × Addr)) (fp : List Addr), PE (X.blk s H scope (compEnvC scope cl C X.env) fp) elte (tE K Fa Ca pr WF (evE G elt))) (hs : ∀ x, foldedSetIterable itere X.env x = pure x) (hs1 : ∀ env x, foldedSetIterable itere1 env x = pure x) :
    PS X (.Assign [.Name y py] (.ListComp elte [⟨tge, itere, ifs, 0⟩, ⟨tge1, itere1, ifs1, 0⟩] scope pos) spos) (tS K Fa Ca pr W refs N0 H0 (evS G (.set i (.lc2 own vs1 tq it cond tq1 it1 cond1 elt)))) := by
  refine PS.imp (ps_setLc2 hc hN hy hyl hsw hi ok hv hg ht hi1 hg1 ht1 he hs hs1) fun D σ H ⟨r, N, I, h⟩ => ?_
  simp only [evS] at h
  refine lc2_imp hv np hj hj1 (tG_mono (so_bind (rel := relE K Fa) I h) fun v H1 ⟨y, r1, N1, s1, I1, q1, p1⟩ => ?_)
  cases e : putSlot i y r1 with
  | none => simp only [e] at p1; exact p1.elim
  | some r2 =>
    simp only [e] at p1
    obtain ⟨N2, I2, f2⟩ := putSlot_ok I s1 I1 npi q1 e
    exact p1 _ N2 H1 I2 f2

/-! ### loops -/
theorem fs_whl {t : CT} {b : CSs} {c : Expr} {body : List Stmt} (hp : PassesOwn (model X.prog X.w) X.A X.env X.xe) (hc : PT X c (tB K Fa Ca pr W (evT G t))) (hb : PSs X body (tS K Fa Ca pr W refs N0 H0 (evSs G b))) : PS X (.While c body [] pos) (tS K Fa Ca pr W refs N0 H0 (evS G (.whl t b))) := by
  refine PS.imp (ps_while hp hc hb) fun D σ H ⟨r, N, I, h⟩ => ?_
  simp only [evS] at h
  refine ⟨fun m σ H => ∃ r' N', FrI K Fa pr refs N0 H0 r' σ N' H ∧ PostS K Fa Ca pr W refs N0 H0 N' H D (whileF (evT G t) (evSs G b) m r'), ⟨G.fuel, r, N, I, h⟩, ?_⟩
  rintro m σ H ⟨r', N', I', h'⟩
  cases m with
  | zero => exact h'.elim
  | succ m =>
    simp only [whileF] at h'
    show tB K Fa Ca pr W (evT G t) σ H _
    refine tG_mono (so_bind (rel := relB) I' h') fun k H1 ⟨y, r1, N1, s1, I1, q1, p1⟩ => ?_
    cases (show k = y from q1)
    cases k with
    | false => rw [if_neg Bool.false_ne_true]; exact p1 σ N1 H1 I1 Fz.refl
    | true =>
      rw [if_pos rfl]
      refine ⟨fun σ2 H2 => ∃ r2 N2, FrI K Fa pr refs N0 H0 r2 σ2 N2 H2 ∧ PostS K Fa Ca pr W refs N0 H0 N2 H2 D (whileF (evT G t) (evSs G b) m r2), fun σ2 H2 q => ⟨m, Nat.lt_succ_self m, q⟩, r1, N1, I1, ?_⟩
      cases e : evSs G b r1 with
      | nx r2 => simp only [e] at p1; exact fun σ2 N2 H2 I2 f2 => ⟨r2, N2, I2, PostS.fz f2 p1⟩
      | cont r2 => simp only [e] at p1; exact fun σ2 N2 H2 I2 f2 => ⟨r2, N2, I2, PostS.fz f2 p1⟩
      | brk r2 => simp only [e] at p1; exact p1
      | ret x r2 => simp only [e] at p1; exact p1
      | exc x r2 => simp only [e] at p1; exact p1
      | stuck => simp only [e] at p1; exact p1
theorem FrI.item {x : V} {H'' : Hp} {rb : En} {R : L2.St → Hp → Prop} (I : FrI K Fa pr refs N0 H0 r σ N H) (np : ∀ j ∈ tgS tq, NoPr pr j) (it : ItR K tq N H x H'' d) (e : bindT d r tq = some rb) (h : ∀ σ2, FrI K Fa pr refs N0 H0 rb σ2 N H'' → Fz N H N H'' → R σ2 H'') : gB K tq x σ H'' R := by
  have st : FrI K Fa pr refs N0 H0 r σ N H'' ∧ ItV K N H'' x d tq ∧ Fz N H N H'' := by
    rcases it with ⟨rfl, h⟩ | ⟨T, xs, es, ⟨ts, rfl⟩, rfl, hT, rfl, rfl, ra⟩
    · exact ⟨I, h.itV, Fz.refl⟩
    · have E : Ext (fun _ => False) N H N (upd H T (.tup xs)) := ext_newT hT fun _ z => z.elim
      exact ⟨I.step (I.g.stp0 E) (I.g.ext0 E (trk_newT hT I.g.trk)), .inr ⟨T, xs, es, rfl, rfl, .inl (.inl upd_same), ra.ext E I.g.trk⟩, E.rps⟩
  obtain ⟨J, iv, f⟩ := st
  exact bind_ok tq e J.g np iv fun σ2 g2 b2 => h σ2 ⟨g2, J.ext, fun b hb => J.ow b (b2.own hb), J.t0⟩ f
theorem fs_for {it : CI} {b : CSs} {tge itere : Expr} {body : List Stmt} (hp : PassesOwn (model X.prog X.w) X.A X.env X.xe) (hc : X.calm = true) (np : ∀ j ∈ tgS tq, NoPr pr j) (hi : PI X tge itere (tIt K tq Fa Ca pr W (evI G it))) (hg : PG X tge (gB K tq)) (hb : PSs X body (tS K Fa Ca pr W refs N0 H0 (evSs G b))) (hs : ∀ x, foldedSetIterable itere X.env x = pure x) :
    PS X (.For tge itere body [] pos) (tS K Fa Ca pr W refs N0 H0 (evS G (.for tq it b))) := by
  refine PS.imp (ps_for hp hc hi hg hb hs) fun D σ H ⟨r, N, I, h⟩ => ?_
  simp only [evS] at h
  show tIt K tq Fa Ca pr W (evI G it) σ H _
  refine tG_mono (so_bind (rel := relI K tq) I h) fun J H1 ⟨xs, r1, N1, s1, I1, ⟨GG, YY, walk, wst⟩, p1⟩ => ?_
  refine for_it walk (fun i σ' H' => ∃ r' N', FrI K Fa pr refs N0 H0 r' σ' N' H' ∧ Fz N1 H1 N' H' ∧ PostS K Fa Ca pr W refs N0 H0 N' H' D (forF (fun d r => bindT d r tq) (evSs G b) (xs.drop i) r')) ⟨r1, N1, I1, Fz.refl, p1⟩ ?_ ?_ ?_
  · rintro i σ' H' hi ⟨r', N', I', f', _⟩
    exact (wst N' H' f').1
  · rintro i x σ' H' H'' hi ⟨r', N', I', f', p'⟩ y
    have ei : xs.drop i = xs[i] :: xs.drop (i + 1) := List.drop_eq_getElem_cons hi
    have item := (wst N' H' f').2 i x H'' xs[i] y (List.getElem?_eq_getElem hi)
    rw [ei] at p'
    cases eb : bindT xs[i] r' tq with
    | none => simp only [forF, eb] at p'; exact p'.elim
    | some rb =>
      simp only [forF, eb] at p'
      refine I'.item np item eb fun σ2 I2 f2 => ⟨rb, N', I2, ?_⟩
      have p' := PostS.fz f2 p'
      cases e : evSs G b rb with
      | nx r3 => simp only [e] at p'; exact fun σ3 N3 H3 I3 f3 => ⟨r3, N3, I3, frz_trans (frz_trans f' f2) f3, PostS.fz f3 p'⟩
      | cont r3 => simp only [e] at p'; exact fun σ3 N3 H3 I3 f3 => ⟨r3, N3, I3, frz_trans (frz_trans f' f2) f3, PostS.fz f3 p'⟩
      | brk r3 => simp only [e] at p'; exact p'
      | ret x r3 => simp only [e] at p'; exact p'
      | exc x r3 => simp only [e] at p'; exact p'
      | stuck => simp only [e] at p'; exact p'
  · rintro σ' H' ⟨r', N', I', f', p'⟩
    rw [List.drop_length] at p'
    exact p' σ' N' H' I' Fz.refl
end
end E2

set_option Elab.async false
set_option linter.all false
set_option maxRecDepth 100000
set_option maxHeartbeats 2000000
namespace E2
variable [Tbs]
open PySem PySem.Spec PyProof.Rows L2
section
variable {K : Kw} {Fa Ca : Nat → Addr} {pr : List (Nat × Addr)} {W : WX} {refs : List Addr} {N0 : NS} {H0 : Hp} {r r1 r2 r' : En} {σ σ2 : L2.St} {N N1 N' : NS} {H H1 H' : Hp} {v : V} {d : D} {a : Addr} {α β γ δ : Type} {X : Cx} {G : Gs} {pos : Pos} {tg : Expr} {tq tq1 : Tg} {vs us : List Nat} {Dr : Addr} {De : Ends}
/-! ### a, b = x, y -/
theorem settle_ok : ∀ {xs : List R} {vs : List V} {r : En} {N : NS} {ys : List R} {r' : En}, Good K Fa pr r σ N H → RRs K Fa r σ N H vs xs → settle r xs = some (ys, r') →
    ∃ N', Good K Fa pr r' σ N' H ∧ Stp r σ N H r' N' H ∧ RRs K Fa r' σ N' H vs ys ∧ (∀ v' x', RR K Fa r σ N H v' x' → RR K Fa r' σ N' H v' x') ∧ frA vs ys = frA vs xs ∧ ∀ y ∈ ys, ∃ o d, y = .val o d
  | [], [], r, N, ys, r', g, _, e => by
    simp only [settle] at e
    cases e
    exact ⟨N, g, Stp.refl g, trivial, fun _ _ h => h, rfl, fun y hy => absurd hy (by simp)⟩
  | .val o d :: xs, v :: vs, r, N, ys, r', g, h, e => by
    simp only [settle] at e
    split at e
    · rename_i ys1 r1 e1
      cases e
      obtain ⟨N1, g1, s1, q1, k1, f1, z1⟩ := settle_ok g h.2 e1
      refine ⟨N1, g1, s1, ⟨k1 _ _ h.1, q1⟩, k1, ?_, fun y hy => ?_⟩
      · cases v <;> cases o <;> simp [frA, f1]
      · rcases List.mem_cons.mp hy with rfl | hy
        · exact ⟨o, d, rfl⟩
        · exact z1 y hy
    · cases e
  | .sl i :: xs, v :: vs, r, N, ys, r', g, h, e => by
    simp only [settle] at e
    split at e
    · rename_i d r1 e1
      split at e
      · rename_i ys1 r2 e2
        cases e
        obtain ⟨N1, g1, s1, q1, k1, k2⟩ := RR.take (dr := (d, r1)) g (Stp.refl g) h.1 trivial g e1
        have kk : ∀ v' x', RR K Fa r σ N H v' x' → RR K Fa r1 σ N1 H v' x' := fun v' x' hr => k2 v' x' hr fun a d e _ z _ _ => nomatch z
        have q : RRs K Fa r1 σ N1 H vs xs := RRs.of_less (fun w y hw _ => kk w y hw) h.2
        obtain ⟨N2, g2, s2, q2, k3, f2, z2⟩ := settle_ok g1 q e2
        refine ⟨N2, g2, s1.trans g s2, ⟨k3 _ (.val false d) q1, q2⟩, fun v' x' hr => k3 _ _ (kk _ _ hr), ?_, fun y hy => ?_⟩
        · cases v <;> simp [frA, f2]
        · rcases List.mem_cons.mp hy with rfl | hy
          · exact ⟨false, d, rfl⟩
          · exact z2 y hy
      · cases e
    · cases e
  | .fn k :: xs, _ :: _, _, _, _, _, _, _, e => by simp [settle] at e
  | [], _ :: _, _, _, _, _, _, h, _ => h.elim
  | _ :: _, [], _, _, _, _, _, h, _ => h.elim
def setPar : L2.St → List Nat → List V → L2.St
  | σ, i :: is, v :: vs => setPar (σ.set i (some v)) is vs
  | σ, _, _ => σ
/-- a result that stands for itself, slots aside -/
def VlR (K : Kw) (N : NS) (H : Hp) (v : V) : R → Prop
  | .val false d => Rp K N H v d
  | .val true d => ∃ a, v = .ref a ∧ N a ∧ RpM K N H a d
  | _ => True
def VlsR (K : Kw) (N : NS) (H : Hp) : List V → List R → Prop
  | [], [] => True
  | v :: vs, x :: xs => VlR K N H v x ∧ VlsR K N H vs xs
  | _, _ => False
theorem RRs.vl : ∀ {vs : List V} {ys : List R}, RRs K Fa r σ N H vs ys → VlsR K N H vs ys
  | [], [], _ => trivial
  | v :: vs, y :: ys, h => ⟨by
      cases y with
      | val o d => cases o with
        | false => exact h.1
        | true => obtain ⟨a, h1, h2, h3, _⟩ := h.1; exact ⟨a, h1, h2, h3⟩
      | sl i => trivial
      | fn k => trivial, RRs.vl h.2⟩
  | [], _ :: _, h => h.elim
  | _ :: _, [], h => h.elim
theorem RRs.noown : ∀ {vs : List V} {ys : List R}, RRs K Fa r σ N H vs ys → ∀ a ∈ frA vs ys, N a ∧ ¬ own r σ a
  | [], [], _, a, ha => absurd ha (by simp [frA])
  | v :: vs, y :: ys, h, a, ha => by
    unfold frA at ha
    split at ha
    · rename_i e1 e2
      cases e1
      cases e2
      rcases List.mem_cons.mp ha with rfl | ha
      · obtain ⟨b, h1, h2, h3, h4⟩ := h.1
        cases h1
        exact ⟨h2, h4⟩
      · exact RRs.noown h.2 a ha
    · rename_i e1 e2
      cases e1
      cases e2
      exact RRs.noown h.2 a ha
    · exact absurd ha (by simp)
  | [], _ :: _, h, _, _ => h.elim
  | _ :: _, [], h, _, _ => h.elim
theorem putPar_ok : ∀ {is : List Nat} {ys : List R} {vs : List V} {r r2 : En} {σ : L2.St}, FrI K Fa pr refs N0 H0 r σ N H → VlsR K N H vs ys → (∀ a ∈ frA vs ys, ¬ own r σ a ∧ (a ∈ refs ∨ H0 a = none)) → (frA vs ys).Nodup → (∀ i ∈ is, NoPr pr i) → putPar is ys r = some r2 → FrI K Fa pr refs N0 H0 r2 (setPar σ is vs) N H
  | [], [], vs, r, r2, σ, I, h, _, _, _, e => by
    simp only [putPar] at e
    cases e
    cases vs with
    | nil => exact I
    | cons _ _ => exact h.elim
  | i :: is, .val o d :: ys, v :: vs, r, r2, σ, I, h, hn, nd, np, e => by
    simp only [putPar] at e
    split at e
    · rename_i hi
      have I1 : FrI K Fa pr refs N0 H0 (r.set i (some (.dat o d))) (σ.set i (some v)) N H := by
        refine putO I hi (np i List.mem_cons_self) (s := .dat o d) ?_ ?_
        · cases o with
          | false => exact h.1
          | true => exact h.1
        · intro a d' e1 e2
          cases e1
          subst e2
          exact hn a (by simp [frA])
      show FrI K Fa pr refs N0 H0 r2 (setPar (σ.set i (some v)) is vs) N H
      refine putPar_ok (is := is) (ys := ys) (vs := vs) I1 h.2 (fun a ha => ⟨fun z => ?_, (hn a (frA_cons_sub a ha)).2⟩) (frA_cons_nd nd) (fun j hj => np j (List.mem_cons_of_mem _ hj)) e
      rcases own_put z with q | ⟨d', e1, e2⟩
      · exact (hn a (frA_cons_sub a ha)).1 q
      · cases e1
        cases e2
        exact (List.nodup_cons.mp (show (a :: frA vs ys).Nodup from nd)).1 ha
    · cases e
  | _ :: _, .val _ _ :: _, [], _, _, _, _, h, _, _, _, _ => h.elim
  | _ :: _, .sl _ :: _, _, _, _, _, _, _, _, _, _, e => by simp [putPar] at e
  | _ :: _, .fn _ :: _, _, _, _, _, _, _, _, _, _, e => by simp [putPar] at e
  | [], _ :: _, _, _, _, _, _, _, _, _, _, e => by simp [putPar] at e
  | _ :: _, [], _, _, _, _, _, _, _, _, _, e => by simp [putPar] at e
theorem putPar_len : ∀ {is : List Nat} {ys : List R} {r r2 : En}, putPar is ys r = some r2 → ys.length = is.length
  | [], [], _, _, _ => rfl
  | i :: is, .val o d :: ys, r, r2, e => by
    simp only [putPar] at e
    split at e
    · exact congrArg (· + 1) (putPar_len e)
    · cases e
  | _ :: _, .sl _ :: _, _, _, e => by simp [putPar] at e
  | _ :: _, .fn _ :: _, _, _, e => by simp [putPar] at e
  | [], _ :: _, _, _, e => by simp [putPar] at e
  | _ :: _, [], _, _, e => by simp [putPar] at e
theorem par_run {is : List Nat} {cs : CEs} (np : ∀ i ∈ is, NoPr pr i) (I : FrI K Fa pr refs N0 H0 r σ N H) (h : PostS K Fa Ca pr W refs N0 H0 N H De (evS G (.par is cs) r)) :
    tL K Fa Ca pr W (evEs G cs) σ H fun vs H1 => vs.length = is.length ∧ De.nx (setPar σ is vs) H1 := by
  simp only [evS] at h
  refine tG_mono (so_bind (rel := relL K Fa) I h) fun vs H1 ⟨ys, r1, N1, s1, I1, ⟨q1, f1, n1⟩, p1⟩ => ?_
  cases e1 : settle r1 ys with
  | none => simp only [e1] at p1; exact p1.elim
  | some yr =>
    obtain ⟨zs, r2⟩ := yr
    simp only [e1] at p1
    obtain ⟨N2, g2, s2, q2, _, f2, _⟩ := settle_ok I1.g q1 e1
    have I2 := I1.step s2 g2
    cases e2 : putPar is zs r2 with
    | none => simp only [e2] at p1; exact p1.elim
    | some r3 =>
      simp only [e2] at p1
      refine ⟨q2.length.trans (putPar_len e2), p1 _ N2 H1 (putPar_ok I2 q2.vl (fun a ha => ?_) (f2 ▸ n1) np e2) s2.ext.rps⟩
      obtain ⟨h1, h2⟩ := q2.noown a ha
      refine ⟨h2, ?_⟩
      by_cases z : a ∈ refs
      · exact .inl z
      · rcases I2.ext.new a h1 with n | n
        · rcases I.ow a (f1 a (f2 ▸ ha) (I.ext.stay a n z)) with q | q
          · exact .inl q
          · exact .inr q
        · exact .inr n
theorem fs_par2 {i j : Nat} {cs : CEs} {x y : Str} {a b : Expr} {px py pt : Pos} {kt k2 : Nat} {pt2 : Pos} (np : ∀ i' ∈ [i, j], NoPr pr i') (hc : X.calm = true) (hN : X.N.Nodup) (hi : X.N[i]? = some x) (hj : X.N[j]? = some y) (hij : i ≠ j)
    (hx : X.env.scope.names.lookup x = some .local) (hy : X.env.scope.names.lookup y = some .local) (ha : PA X [a, b] (tL K Fa Ca pr W (evEs G cs)))
    (hw : swappedStores [.Tuple [.Name x px, .Name y py] kt pt] (.Tuple [a, b] k2 pt2) X.env = pure (some [x, y])) :
    PS X (.Assign [.Tuple [.Name x px, .Name y py] kt pt] (.Tuple [a, b] k2 pt2) pos) (tS K Fa Ca pr W refs N0 H0 (evS G (.par [i, j] cs))) := by
  refine PS.imp (ps_par hc hN hi hj hij hx hy ha hw) fun D σ H ⟨r, N, I, h⟩ => ?_
  refine tG_mono (par_run np I h) fun vs H1 ⟨hl, q⟩ => ?_
  match vs, hl, q with
  | [v, w], _, q => exact ⟨v, w, rfl, q⟩
theorem fs_par3 {i j l : Nat} {cs : CEs} {x y z : Str} {a b c : Expr} {px py pz pt : Pos} {kt k2 : Nat} {pt2 : Pos} (np : ∀ i' ∈ [i, j, l], NoPr pr i') (hc : X.calm = true) (hN : X.N.Nodup) (hi : X.N[i]? = some x) (hj : X.N[j]? = some y) (hl : X.N[l]? = some z) (hij : i ≠ j) (hil : i ≠ l) (hjl : j ≠ l)
    (hx : X.env.scope.names.lookup x = some .local) (hy : X.env.scope.names.lookup y = some .local) (hz : X.env.scope.names.lookup z = some .local) (ha : PA X [a, b, c] (tL K Fa Ca pr W (evEs G cs)))
    (hw : swappedStores [.Tuple [.Name x px, .Name y py, .Name z pz] kt pt] (.Tuple [a, b, c] k2 pt2) X.env = pure (some [x, y, z])) :
    PS X (.Assign [.Tuple [.Name x px, .Name y py, .Name z pz] kt pt] (.Tuple [a, b, c] k2 pt2) pos) (tS K Fa Ca pr W refs N0 H0 (evS G (.par [i, j, l] cs))) := by
  refine PS.imp (ps_par3 hc hN hi hj hl hij hil hjl hx hy hz ha hw) fun D σ H ⟨r, N, I, h⟩ => ?_
  refine tG_mono (par_run np I h) fun vs H1 ⟨hl, q⟩ => ?_
  match vs, hl, q with
  | [u, v, w], _, q => exact ⟨u, v, w, rfl, q⟩
end
end E2

set_option Elab.async false
set_option linter.all false
set_option maxRecDepth 100000
set_option maxHeartbeats 2000000
namespace E2
variable [Tbs]
open PySem PySem.Spec PyProof.Rows L2
section
variable {K : Kw} {Fa Ca : Nat → Addr} {pr : List (Nat × Addr)} {W : WX} {refs : List Addr} {N0 : NS} {H0 : Hp} {r r1 r2 r' : En} {σ σ2 : L2.St} {N N1 N' : NS} {H H1 H' : Hp} {v : V} {d : D} {a : Addr} {α β γ δ : Type} {X : Cx} {G : Gs} {pos : Pos} {tg : Expr} {tq tq1 : Tg} {vs us : List Nat} {Dr : Addr} {De : Ends}
/-! ### targets of a store -/
def rSetE (K : Kw) : TSet := fun o i v H Q => ∃ (N : NS) (a : Addr) (c k d c' : D), o = .ref a ∧ N a ∧ (∀ b, N b → Mut (H b)) ∧ RpM K N H a c ∧ DR K N H i k ∧ Rp K N H v d ∧ setD c k d = some c' ∧
  ∀ ho, Mut (some ho) → (Fz N H N (upd H a ho) → RpM K N (upd H a ho) a c') → Q (upd H a ho)
theorem set_any (hK : X.kw = K) (hu : X.A.units + 65 < cLine) : PSet X (rSetE K) := by
  subst hK
  intro pins s σ H o i v ov iv u Q I ro ri rv ⟨N, a, c, k, d, c', e1, ha, tr, m, hi, hv, es, q⟩
  subst e1
  unfold setD at es
  split at es
  · rename_i xs j
    obtain ⟨jj, h1, h2⟩ := Option.map_eq_some_iff.mp es
    subst h2
    obtain ⟨ys, h3, h4⟩ := m
    have hi := hi.int
    subst hi
    exact set_list pins s σ H _ _ v ov iv u Q I ro ri rv ⟨a, ys, j, jj, rfl, rfl, h3, by rw [h4.length]; exact h1, q _ trivial fun st => ⟨_, upd_same, RpA.keep st tr (h4.set hv jj)⟩⟩
  · split at es
    · rename_i kvs k hk
      cases es
      cases ro
      exact dset_any rfl hu I (show DicR X.kw N H a _ from m) tr ha hi ri hv rv hk.1 hk.2 fun o s' mo I' f => ⟨_, I', q o mo fun st => f N st⟩
    · cases es
  · cases es
/-- the thing in slot i, written -/
theorem FrI.write {i : Nat} {c c' : D} {o : HO} (I : FrI K Fa pr refs N0 H0 r σ N H) (hi : r[i]? = some (some (.dat true c))) (hs : σ[i]? = some (some (.ref a))) (mo : Mut (some o)) (rm : Fz N H N (upd H a o) → RpM K N (upd H a o) a c') : FrI K Fa pr refs N0 H0 (r.set i (some (.dat true c'))) σ N (upd H a o) ∧ Fz N H N (upd H a o) := by
  obtain ⟨g, s⟩ := own_write I.g (Stp.refl I.g) I.g hi hs mo rm
  exact ⟨I.step s g, s.ext.rps⟩
theorem own_at (g : Good K Fa pr r σ N H) {i : Nat} {c : D} (hi : r[i]? = some (some (.dat true c))) : ∃ a, σ[i]? = some (some (.ref a)) ∧ N a ∧ RpM K N H a c := by
  obtain ⟨v, h1, a, rfl, h2, h3⟩ := g.slot i _ hi
  exact ⟨a, h1, h2, h3⟩
def PostU (K : Kw) (Fa Ca : Nat → Addr) (pr : List (Nat × Addr)) (W : WX) (refs : List Addr) (N0 : NS) (H0 : Hp) (N : NS) (H : Hp) (Q : L2.St → Hp → Prop) : Rs Unit → Prop
  | .ok _ r' => ∀ σ' N' H', FrI K Fa pr refs N0 H0 r' σ' N' H' → Fz N H N' H' → Q σ' H'
  | .exc x r' => ∀ cls d' σ' N' H', FrI K Fa pr refs N0 H0 r' σ' N' H' → Fz N H N' H' → XR K Ca x cls d' H' → W cls d' σ' H'
  | .stuck => False
def gX (K : Kw) (Fa Ca : Nat → Addr) (pr : List (Nat × Addr)) (W : WX) (refs : List Addr) (N0 : NS) (H0 : Hp) (f : D → En → Rs Unit) : TG := fun v σ H Q => ∃ r N d, FrI K Fa pr refs N0 H0 r σ N H ∧ Rp K N H v d ∧ PostU K Fa Ca pr W refs N0 H0 N H Q (f d r)
def gXs (K : Kw) (Fa Ca : Nat → Addr) (pr : List (Nat × Addr)) (W : WX) (refs : List Addr) (N0 : NS) (H0 : Hp) (f : List D → En → Rs Unit) : TGs := fun vs σ H Q => ∃ r N ds, FrI K Fa pr refs N0 H0 r σ N H ∧ RpA K N H vs ds ∧ PostU K Fa Ca pr W refs N0 H0 N H Q (f ds r)
theorem PG.imp {e : Expr} {t t' : TG} (h : PG X e t) (i : ∀ v σ H Q, t' v σ H Q → t v σ H Q) : PG X e t' := ⟨fun pins s σ H v u Q I r q => h.run pins s σ H v u Q I r (i v σ H Q q)⟩
theorem PGs.imp {e : List Expr} {t t' : TGs} (h : PGs X e t) (i : ∀ v σ H Q, t' v σ H Q → t v σ H Q) : PGs X e t' := ⟨fun pins s σ H v u Q I r q => h.run pins s σ H v u Q I r (i v σ H Q q)⟩
theorem fx_nm {i : Nat} {x : Str} (np : NoPr pr i) (hN : X.N.Nodup) (hi : X.N[i]? = some x) (hx : Loc X.env.scope x) (hf : X.fn x = true ∨ X.env.scope.names.lookup x = some .local) : PG X (.Name x pos) (gX K Fa Ca pr W refs N0 H0 (evX G (.nm i))) :=
  PG.imp (pg_name hN hi hx hf) fun v σ H Q ⟨r, N, d, I, hv, h⟩ => by
    simp only [evX] at h
    by_cases hl : i < r.length
    · rw [if_pos hl] at h
      exact h _ N H (putO I hl np (s := .dat false d) hv fun a d e => nomatch e) Fz.refl
    · rw [if_neg hl] at h
      exact h.elim
theorem fx_sub {i : Nat} {ix : CE} {x : Str} {p : Pos} {e : Expr} (hK : X.kw = K) (hu : X.A.units + 65 < cLine) (hN : X.N[i]? = some x) (hv : Vis X.env.scope x) (hd : (x == ("__debug__" : Str)) = false) (hcd : (x == ("__classdict__" : Str)) = false) (h1 : PE X e (tE K Fa Ca pr W (evE G ix)))
    (ha : ∀ v, assign (.Subscript (.Name x p) e pos) X.env v = (do
      let ov ← holding [v] (eval (.Name x p) X.env)
      let iv ← holding [v, ov] (eval e X.env)
      standAt pos
      holding [v, ov, iv] (setItem ov iv v)
      release [v, ov, iv] [])) : PG X (.Subscript (.Name x p) e pos) (gX K Fa Ca pr W refs N0 H0 (evX G (.sub i ix))) := by
  refine PG.imp (pg_sub (pe_var (pos := p) hN hv hd hcd) h1 (set_any hK hu) ha) fun v σ H Q ⟨r, N, d, I, hv, h⟩ => ?_
  simp only [evX] at h
  split at h
  · rename_i c0 ei
    obtain ⟨a, hs, _, _⟩ := own_at I.g ei
    refine ⟨.ref a, hs, r, N, I.g, ?_⟩
    cases ev : evE G ix r with
    | stuck => rw [ev] at h; exact h.elim
    | exc x r' =>
      rw [ev] at h
      exact fun c d' H' N' s' g' q => h c d' σ N' H' (I.step s' g') s'.ext.rps q
    | ok y r1 =>
      rw [ev] at h
      simp only [Rs.bind] at h
      intro w H1 N1 s1 g1 ⟨q1, f1⟩
      have I1 := I.step s1 g1
      split at h
      · rename_i k e1
        split at h
        · rename_i c e2
          split at h
          · rename_i c' e3
            obtain ⟨a', hs', n', m'⟩ := own_at g1 e2
            rw [hs] at hs'
            cases hs'
            refine ⟨N1, a, c, k, d, c', rfl, n', g1.trk, m', q1.look g1 e1, hv.ext s1.ext I.g.trk, e3, fun ho mo rm => ?_⟩
            obtain ⟨I2, f2⟩ := I1.write e2 hs mo rm
            exact h σ N1 _ I2 (frz_trans s1.ext.rps f2)
          · exact h.elim
        · exact h.elim
      · exact h.elim
  · exact h.elim
theorem fx_nil : PGs X [] (gXs K Fa Ca pr W refs N0 H0 (evXs G .nil)) := PGs.imp pgs_nil fun vs σ H Q ⟨r, N, ds, I, hv, h⟩ => by
  cases hv with
  | nil =>
    simp only [evXs] at h
    exact ⟨rfl, h σ N H I Fz.refl⟩
  | cons _ _ => simp only [evXs] at h; exact h.elim
theorem fx_cons {t : TX} {ts : TXs} {e : Expr} {es : List Expr} (h1 : PG X e (gX K Fa Ca pr W refs N0 H0 (evX G t))) (h2 : PGs X es (gXs K Fa Ca pr W refs N0 H0 (evXs G ts))) (hs : (assignEach (e :: es) X.env).map (·.2) = assign e X.env :: (assignEach es X.env).map (·.2)) :
    PGs X (e :: es) (gXs K Fa Ca pr W refs N0 H0 (evXs G (.cons t ts))) := PGs.imp (pgs_cons h1 h2 hs) fun vs σ H Q ⟨r, N, ds, I, hv, h⟩ => by
  cases hv with
  | nil => simp only [evXs] at h; exact h.elim
  | @cons v vs d ds hv hvs =>
    simp only [evXs] at h
    refine ⟨v, vs, rfl, r, N, d, I, hv, ?_⟩
    cases e : evX G t d r with
    | stuck => rw [e] at h; exact h.elim
    | exc x r' => rw [e] at h; exact h
    | ok u r1 =>
      rw [e] at h
      simp only [Rs.bind] at h
      intro σ1 N1 H1 I1 f1
      refine ⟨r1, N1, ds, I1, hvs.keep f1 I.g.trk, ?_⟩
      cases e2 : evXs G ts ds r1 with
      | stuck => rw [e2] at h; exact h
      | exc x r' => rw [e2] at h; exact fun c d' σ' N' H' I' f' => h c d' σ' N' H' I' (frz_trans f1 f')
      | ok u r2 => rw [e2] at h; exact fun σ' N' H' I' f' => h σ' N' H' I' (frz_trans f1 f')
theorem fx_tup {ts : TXs} {es : List Expr} {k : Nat} (hK : X.kw = K) (hc : X.calm = true) (h1 : PGs X es (gXs K Fa Ca pr W refs N0 H0 (evXs G ts))) (hl : lenTX ts = es.length) (hn : (assignEach es X.env).length = es.length) (hst : (assignEach es X.env).findIdx? (·.1) = none) : PG X (.Tuple es k pos) (gX K Fa Ca pr W refs N0 H0 (evX G (.tup ts))) := by
  subst hK
  refine PG.imp (pg_tup hc h1 hn hst) fun v σ H Q ⟨r, N, d, I, hv, h⟩ => ?_
  simp only [evX] at h
  split at h
  · split at h
    · rename_i ds e
      cases hv with
      | tup h2 h3 => exact ⟨_, _, rfl, h2.sq, h3.length.trans (e.trans hl), r, N, ds, I, h3, h⟩
    · exact h.elim
  · exact h.elim
theorem fs_asg {t : TX} {c : CE} {tge e : Expr} (h1 : PE X e (tE K Fa Ca pr W (evE G c))) (hg : PG X tge (gX K Fa Ca pr W refs N0 H0 (evX G t))) (hs : swapsWithSole [tge] e pos.line X.env = pure false) (hw : swappedStores [tge] e X.env = pure none) (ha : (assignEach [tge] X.env).map (·.2) = [assign tge X.env]) :
    PS X (.Assign [tge] e pos) (tS K Fa Ca pr W refs N0 H0 (evS G (.asg t c))) := by
  refine PS.imp (ps_asg h1 hg hs hw ha) fun D σ H ⟨r, N, I, h⟩ => ?_
  simp only [evS] at h
  show tE K Fa Ca pr W (evE G c) σ H _
  refine tG_mono (so_bind0 (rel := relE K Fa) I h) fun v H1 ⟨y, r1, N1, s1, I1, ⟨q1, f1⟩, p1⟩ => ?_
  cases e : take r1 y with
  | none => simp only [e] at p1; exact p1.elim
  | some dr =>
    obtain ⟨d, r2⟩ := dr
    simp only [e] at p1
    obtain ⟨N2, g2, s2, q2, _⟩ := RR.take (dr := (d, r2)) I.g s1 q1 f1 I1.g e
    refine ⟨r2, N2, d, I.step s2 g2, q2, ?_⟩
    cases e2 : evX G t d r2 with
    | stuck => rw [e2] at p1; exact p1
    | exc x r' => rw [e2] at p1; exact fun c d' σ' N' H' I' f' => p1 c d' σ' N' H' I' (frz_trans s2.ext.rps f')
    | ok u r' => rw [e2] at p1; exact fun σ' N' H' I' f' => p1 σ' N' H' I' (frz_trans s2.ext.rps f')
end
end E2

set_option Elab.async false
set_option linter.all false
set_option maxRecDepth 100000
set_option maxHeartbeats 2000000
namespace E2
variable [Tbs]
open PySem PySem.Spec PyProof.Rows L2
section
variable {K : Kw} {Fa Ca : Nat → Addr} {pr : List (Nat × Addr)} {W : WX} {refs : List Addr} {N0 : NS} {H0 : Hp} {r r1 r2 r' : En} {σ σ2 : L2.St} {N N1 N' : NS} {H H1 H' : Hp} {v : V} {d : D} {a : Addr} {α β γ δ : Type} {X : Cx} {G : Gs} {pos : Pos} {tg : Expr} {tq tq1 : Tg} {vs us : List Nat} {Dr : Addr} {De : Ends}
/-! ### raise, try -/
theorem fs_raise {c : Nat} {x m : Str} {j : Nat} {p p2 pos' : Pos} {B newId initId : String} {bmB : List Value} (hc : X.calm = true) (tk : Takes X W) (he : G.exf c = some []) (F : ExcBaseFacts B newId initId bmB) (q : PySem.W.excIn X.K (Ca c) bmB newId = true) (gC : X.mg x = some (.ref (Ca c))) (kC : PySem.W.keepIn X.K (.ref (Ca c)) = true) (rr : Raises X (.ref (Ca c))) (hg : Gl X x) (hdb : (x == ("__debug__" : Str)) = false) :
    PS X (.Raise (some (.Call (.Name x p) [.Constant (.str m) j p2] [] pos)) none pos') (tS K Fa Ca pr W refs N0 H0 (evS G (.rais c (.cons (.cst (.str m)) .nil)))) := by
  refine PS.imp (ps_raise hc tk (pmk_own F q gC kC rr hg hdb)) fun D σ H ⟨r, N, I, h⟩ => ?_
  simp only [evS, evEs, evE, Rs.bind, Rs.so, takes, take, he] at h
  exact h _ none σ N H I Fz.refl ⟨rfl, fun z => absurd (by simp) z⟩
theorem PostS.noexc {o : So} (h : PostS K Fa Ca pr W refs N0 H0 N H De o) (n : ∀ x r, o ≠ .exc x r) : PostS K Fa Ca pr WF refs N0 H0 N H De o := by
  cases o with
  | exc x r => exact absurd rfl (n x r)
  | _ => exact h
/-- the clauses of a try -/
def hdL (K : Kw) (Fa Ca : Nat → Addr) (pr : List (Nat × Addr)) (refs : List Addr) (N0 : NS) (H0 : Hp) (G : Gs) : Hds → List (Value × (Addr → Value → Option Addr → TS))
  | .nil => []
  | .cons c _ b hs => (.ref (Ca c), fun _ _ _ => tS K Fa Ca pr WF refs N0 H0 (evSs G b)) :: hdL K Fa Ca pr refs N0 H0 G hs
theorem hd_run (hsub : ∀ a b k, G.sub a b = some k → PySem.W.exmOne X.K (.ref (Ca a)) (.ref (Ca b)) = some k) {x : Ex} {cls : Value} {dd : Option Addr} (I : FrI K Fa pr refs N0 H0 r σ N H) (hx : XR K Ca x cls dd H) : ∀ {hs : Hds}, PostS K Fa Ca pr W refs N0 H0 N H De (evH G hs x r) → wMany X.K W De (hdL K Fa Ca pr refs N0 H0 G hs) cls dd σ H
  | .nil, h => by
    simp only [evH] at h
    exact h cls dd σ N H I Fz.refl hx
  | .cons c as_ b hs, h => by
    simp only [evH] at h
    obtain ⟨rfl, _⟩ := hx
    cases e : G.sub x.cls c with
    | none => simp only [e] at h; exact h.elim
    | some k =>
      refine ⟨k, hsub _ _ _ e, fun ek a ha => ?_, fun ek => ?_⟩
      · subst ek
        simp only [e] at h
        cases as_ with
        | some _ => exact h.elim
        | none =>
          refine ⟨r, N, I, ?_⟩
          cases e2 : evSs G b r with
          | exc x' r' => simp only [e2] at h; exact h.elim
          | nx r' => simp only [e2] at h; exact h
          | brk r' => simp only [e2] at h; exact h
          | cont r' => simp only [e2] at h; exact h
          | ret y r' => simp only [e2] at h; exact h
          | stuck => simp only [e2] at h; exact h
      · subst ek
        simp only [e] at h
        exact hd_run hsub I ⟨rfl, by assumption⟩ h
theorem fs_try {b : CSs} {hs : Hds} {body : List Stmt} {h₀ : ExceptHandler} {hds : List ExceptHandler} (hst : X.stack = X.env :: X.outer) (hf : X.env.frame = some X.env.locals) (tk : Takes X W) (hsub : ∀ a b k, G.sub a b = some k → PySem.W.exmOne X.K (.ref (Ca a)) (.ref (Ca b)) = some k)
    (hb : ∀ (W : WX) (pn : List (Addr × Obj)) (xe : Value → Shared → Prop), Takes (X.tr pn xe) W → PassesOwn (model X.prog X.w) X.A X.env xe → PSs (X.tr pn xe) body (tS K Fa Ca pr W refs N0 H0 (evSs G b)))
    (hh : HdsOk X (h₀ :: hds) (hdL K Fa Ca pr refs N0 H0 G hs)) : PS X (.Try body (h₀ :: hds) [] [] pos) (tS K Fa Ca pr W refs N0 H0 (evS G (.try_ b hs))) := by
  refine PS.imp (ps_try_many (tb := fun W => tS K Fa Ca pr W refs N0 H0 (evSs G b)) hst hf tk hb hh) fun D σ H ⟨r, N, I, h⟩ => ⟨r, N, I, ?_⟩
  simp only [evS] at h
  cases e : evSs G b r with
  | exc x r1 =>
    simp only [e] at h
    exact fun cls d σ' N' H' I' f' hx => hd_run hsub I' hx (PostS.fz f' h)
  | nx r' => simp only [e] at h; exact h
  | brk r' => simp only [e] at h; exact h
  | cont r' => simp only [e] at h; exact h
  | ret y r' => simp only [e] at h; exact h
  | stuck => simp only [e] at h; exact h
end
end E2

set_option Elab.async false
set_option linter.all false
set_option maxRecDepth 100000
set_option maxHeartbeats 2000000
namespace E2
variable [Tbs]
open PySem PySem.Spec PyProof.Rows L2
/-! ## the checker: a term of code against the program's syntax -/
/-- what is known of a def's names -/
structure Sm where
  N : List Str
  nr : List Nat
  fnm : List Str
  gnm : List Str
  enm : List Str
def visB (sc : Scope) (x : Str) : Bool := match sc.names.lookup x with
  | some .local => true
  | some .cell => true
  | some .free => true
  | _ => false
def glB (sc : Scope) (x : Str) : Bool := decide (sc.names.lookup x = some .globalImplicit)
def sp1 : Str := "__debug__"
def sp2 : Str := "__classdict__"
def okN (x : Str) : Bool := !(x == sp1) && !(x == sp2)
def cstB : Const → D → Bool
  | .none, .none => true
  | .bool a, .bool b => decide (a = b)
  | .int a, .int b => decide (a = b)
  | .str a, .str b => decide (a = b)
  | _, _ => false
def bltN : Blt → Str
  | .len => "len"
  | .tuple => "tuple"
  | .list => "list"
  | .sorted => "sorted"
  | .sum => "sum"
  | .all => "all"
  | .any => "any"
  | .min => "min"
  | .max => "max"
  | .min2 => "min"
  | .max2 => "max"
  | .int => "int"
  | .str => "str"
  | .abs => "abs"
def bnames : List Str := ["len", "tuple", "list", "sorted", "sum", "all", "any", "min", "max", "int", "str", "abs", "isinstance", "range", "enumerate", "zip", "bool", "dict"]
/-- the built-in types that isinstance is asked about -/
def tyB : Str → String → Bool := fun x t => (x == Str.ofString t) && decide (t ∈ ["int", "bool", "str", "tuple", "list", "dict"])
def noSlice : Expr → Bool
  | .Slice _ _ _ _ => false
  | _ => true
def noSet : Expr → Bool
  | .Set _ _ _ => false
  | _ => true
def noSup : Expr → Bool
  | .Call (.Name _ _) [] [] _ => false
  | _ => true
def noStar : Expr → Bool
  | .Starred _ _ => false
  | _ => true
def disj (l m : List Nat) : Bool := l.all fun i => !(m.contains i)
section
variable (S : Sm)
mutual
def matG (st : Str → Bool) : Tg → Expr → Bool
  | .nm i, e => match e with
    | .Name x _ => decide (S.N[i]? = some x) && st x
    | _ => false
  | .tup ts, e => match e with
    | .Tuple es _ _ => matGs st ts es
    | _ => false
def matGs (st : Str → Bool) : List Tg → List Expr → Bool
  | [], es => match es with
    | [] => true
    | _ => false
  | t :: ts, es => match es with
    | e :: es => noStar e && matG st t e && matGs st ts es
    | [] => false
end
def isTup : Tg → Bool
  | .tup _ => true
  | _ => false
def isTupE : Expr → Bool
  | .Tuple _ _ _ => true
  | _ => false
def stB (scope : Scope) (x : Str) : Bool := match scope.names.lookup x with
  | some .local => true
  | some .cell => true
  | _ => false
def blkS (sc scope : Scope) : Scope := relS scope sc
/-- a block of a comprehension -/
def blkOkB (sc scope : Scope) (own : List (Str × Nat)) : Bool := blkC S.N sc scope own && disj (own.map (·.2)) S.nr && decide ((relS scope sc).kind = .function)
mutual
def matE : CE → Scope → Expr → Bool
  | .var i, sc, e => match e with
    | .Name x _ => decide (S.N[i]? = some x) && visB sc x && okN x
    | _ => false
  | .cst d, _, e => match e with
    | .Constant c _ _ => cstB c d
    | _ => false
  | .gc g, sc, e => match e with
    | .Name x _ => decide (S.gnm[g]? = some x) && glB sc x && okN x
    | _ => false
  | .fnv k, sc, e => match e with
    | .Name x _ => decide (S.fnm[k]? = some x) && glB sc x && okN x
    | _ => false
  | .tup es, sc, e => match e with
    | .Tuple xs _ _ => matEs es sc xs
    | _ => false
  | .lst es, sc, e => match e with
    | .List xs _ => matEs es sc xs
    | _ => false
  | .dic0, _, e => match e with
    | .Dict [] [] _ => true
    | _ => false
  | .bin op a b, sc, e => match e with
    | .BinOp x op' y _ => decide (op = op') && matE a sc x && matE b sc y
    | _ => false
  | .rep a b, sc, e => match e with
    | .BinOp x .Mult y _ => matE a sc x && matE b sc y
    | _ => false
  | .neg a, sc, e => match e with
    | .UnaryOp .USub x _ => matE a sc x
    | _ => false
  | .cmp op a b, sc, e => match e with
    | .Compare x [op'] [y] _ => decide (op = op') && !(behindInMarks op y) && matE a sc x && matE b sc y
    | _ => false
  | .chn op1 op2 a b c, sc, e => match e with
    | .Compare x [op1', op2'] [y, z] _ => decide (op1 = op1') && decide (op2 = op2') && !(lastMarks [op1, op2] [y, z]) && matE a sc x && matE b sc y && matE c sc z
    | _ => false
  | .and a b, sc, e => match e with
    | .BoolOp .And (x :: y :: rest) p => matE a sc x && (match rest with
      | [] => matE b sc y
      | z :: zs => matE b sc (.BoolOp .And (y :: z :: zs) p))
    | _ => false
  | .or a b, sc, e => match e with
    | .BoolOp .Or (x :: y :: rest) p => matE a sc x && (match rest with
      | [] => matE b sc y
      | z :: zs => matE b sc (.BoolOp .Or (y :: z :: zs) p))
    | _ => false
  | .not a, sc, e => match e with
    | .UnaryOp .Not x _ => matE a sc x
    | _ => false
  | .ife t a b, sc, e => match e with
    | .IfExp c x y _ => matT t sc c && matE a sc x && matE b sc y
    | _ => false
  | .idx a i, sc, e => match e with
    | .Subscript x y _ => noSlice y && matE a sc x && matE i sc y
    | _ => false
  | .sli a lo hi, sc, e => match e with
    | .Subscript x (.Slice l u none _) _ => matE a sc x && matO lo sc l && matO hi sc u
    | _ => false
  | .call k es, sc, e => match e with
    | .Call (.Name x _) xs [] _ => decide (S.fnm[k]? = some x) && glB sc x && okN x && matEs es sc xs
    | _ => false
  | .callv i es, sc, e => match e with
    | .Call (.Name x _) (y :: xs) [] _ => decide (S.N[i]? = some x) && visB sc x && okN x && matEs es sc (y :: xs)
    | _ => false
  | .blt b es, sc, e => match e with
    | .Call (.Name x _) (y :: xs) [] _ => decide (x = bltN b) && glB sc x && matEs es sc (y :: xs)
    | _ => false
  | .rng t es, sc, e => match e with
    | .Call (.Name x _) [.Call (.Name y _) xs [] _] [] _ => decide (x = (if t then "tuple" else "list" : Str)) && decide (y = ("range" : Str)) && glB sc x && glB sc y && (match xs with
      | [_] => true
      | [_, _] => true
      | _ => false) && matEs es sc xs
    | _ => false
  | .isin a t, sc, e => match e with
    | .Call (.Name x _) [y, .Name z _] [] _ => decide (x = ("isinstance" : Str)) && glB sc x && glB sc z && tyB z t && noStar y && matE a sc y
    | _ => false
  | .attr _ _, _, _ => false
  | .meth m o es, sc, e => match e with
    | .Call (.Attribute y nm ap) (x :: xs) [] cp => decide (nm = methN m) && noSup y && (ap.endLine == cp.line) && decide ((x :: xs).length < 30) && matE o sc y && matEs es sc (x :: xs)
    | _ => false
  | .mut m i es, sc, e => match e with
    | .Call (.Attribute (.Name y _) nm ap) xs [] cp => decide (nm = mutN m) && decide (S.N[i]? = some y) && visB sc y && okN y && (ap.endLine == cp.line) && decide (xs.length < 30) && matEs es sc xs
    | _ => false
  | .lc own tg it cond elt, sc, e => match e with
    | .ListComp x [⟨t, i, ifs, 0⟩] scope _ => blkOkB S sc scope own && (tgS tg).all (fun j => (own.map (·.2)).contains j) && noSet i && matI it tg sc t i && matG S (stB scope) tg t && matC cond (relS scope sc) ifs && matE elt (relS scope sc) x
    | _ => false
  | .lc2 own vs1 tg it cond tg1 it1 cond1 elt, sc, e => match e with
    | .ListComp x [⟨t, i, ifs, 0⟩, ⟨t1, i1, ifs1, 0⟩] scope _ => blkOkB S sc scope own && (tgS tg).all (fun j => (own.map (·.2)).contains j) && (tgS tg1).all (fun j => vs1.contains j) && vs1.all (fun j => (own.map (·.2)).contains j) && noSet i && noSet i1 && matI it tg sc t i && matG S (stB scope) tg t && matC cond (relS scope sc) ifs &&
      matI it1 tg1 (relS scope sc) t1 i1 && matG S (stB scope) tg1 t1 && matC cond1 (relS scope sc) ifs1 && matE elt (relS scope sc) x
    | _ => false
  | .dc own tg it cond k v, sc, e => match e with
    | .DictComp x y [⟨t, i, ifs, 0⟩] scope _ => blkOkB S sc scope own && (tgS tg).all (fun j => (own.map (·.2)).contains j) && noSet i && matI it tg sc t i && matG S (stB scope) tg t && matC cond (relS scope sc) ifs && matE k (relS scope sc) x && matE v (relS scope sc) y
    | _ => false
def matEs : CEs → Scope → List Expr → Bool
  | .nil, _, xs => match xs with
    | [] => true
    | _ => false
  | .cons c cs, sc, xs => match xs with
    | x :: xs => noStar x && matE c sc x && matEs cs sc xs
    | [] => false
def matO : CEo → Scope → Option Expr → Bool
  | .non, _, e => match e with
    | none => true
    | _ => false
  | .som c, sc, e => match e with
    | some e => matE c sc e
    | none => false
def matC : CTo → Scope → List Expr → Bool
  | .non, _, xs => match xs with
    | [] => true
    | _ => false
  | .som c, sc, xs => match xs with
    | [x] => matT c sc x
    | _ => false
def matT : CT → Scope → Expr → Bool
  | .and a b, sc, e => match e with
    | .BoolOp .And (x :: y :: rest) p => matT a sc x && (match rest with
      | [] => matT b sc y
      | z :: zs => matT b sc (.BoolOp .And (y :: z :: zs) p))
    | _ => false
  | .or a b, sc, e => match e with
    | .BoolOp .Or (x :: y :: rest) p => matT a sc x && (match rest with
      | [] => matT b sc y
      | z :: zs => matT b sc (.BoolOp .Or (y :: z :: zs) p))
    | _ => false
  | .not a, sc, e => match e with
    | .UnaryOp .Not x _ => matT a sc x
    | _ => false
  | .ex (.cmp op a b), sc, e => match e with
    | .Compare x [op'] [y] _ => decide (op = op') && !(behindInMarks op y) && matE a sc x && matE b sc y
    | _ => false
  | .ex (.chn op1 op2 a b c), sc, e => match e with
    | .Compare x [op1', op2'] [y, z] _ => decide (op1 = op1') && decide (op2 = op2') && !(lastMarks [op1, op2] [y, z]) && matE a sc x && matE b sc y && matE c sc z
    | _ => false
  | .ex c, sc, e => plainT e && matE c sc e
def matI : CI → Tg → Scope → Expr → Expr → Bool
  | .seq c, _, sc, _, e => matE c sc e
  | .rng es, _, sc, _, e => match e with
    | .Call (.Name x _) xs [] _ => decide (x = ("range" : Str)) && glB sc x && (match xs with
      | [_] => true
      | [_, _] => true
      | _ => false) && matEs es sc xs
    | _ => false
  | .enum es, tq, sc, t, e => match e with
    | .Call (.Name x _) [y] [] _ => decide (x = ("enumerate" : Str)) && glB sc x && isTup tq && isTupE t && matEs es sc [y]
    | _ => false
  | .zip es, tq, sc, t, e => match e with
    | .Call (.Name x _) [y, z] [] _ => decide (x = ("zip" : Str)) && glB sc x && isTup tq && isTupE t && matEs es sc [y, z]
    | _ => false
end
end
end E2

set_option Elab.async false
set_option linter.all false
set_option maxRecDepth 100000
set_option maxHeartbeats 2000000
namespace E2
variable [Tbs]
open PySem PySem.Spec PyProof.Rows L2
section
variable {K : Kw} {Fa Ca : Nat → Addr} {pr : List (Nat × Addr)} {W : WX} {refs : List Addr} {N0 : NS} {H0 : Hp} {r r1 r2 r' : En} {σ σ2 : L2.St} {N N1 N' : NS} {H H1 H' : Hp} {v : V} {d : D} {a : Addr} {α β γ δ : Type} {X : Cx} {G : Gs} {pos : Pos} {tg : Expr} {tq tq1 : Tg} {vs us : List Nat} {Dr : Addr} {De : Ends}
/-! ### name op= e, name[i] op= e, of whole numbers -/
theorem fs_aug {i : Nat} {c : CE} {x : Str} {e : Expr} {pos' : Pos} {op : Operator} {f : Int → Int → Int} (ho : PIp X op (ipI f)) (hb : ∀ a b, binD op (.int a) (.int b) = some (false, .int (f a b))) (np : NoPr pr i) (hN : X.N.Nodup) (hi : X.N[i]? = some x) (hx : Loc X.env.scope x) (hf : X.fn x = true ∨ X.env.scope.names.lookup x = some .local) (h1 : PE X e (tE K Fa Ca pr W (evE G c))) :
    PS X (.AugAssign (.Name x pos') op e pos) (tS K Fa Ca pr W refs N0 H0 (evS G (.aug i op c))) := by
  refine PS.imp (ps_aug hN hi hx h1 ho hf) fun D σ H ⟨r, N, I, h⟩ => ?_
  simp only [evS] at h
  split at h
  · rename_i d ed
    obtain ⟨v, e1, e2⟩ := I.g.slot i _ ed
    refine ⟨v, e1, ?_⟩
    show tE K Fa Ca pr W (evE G c) σ H _
    refine tG_mono (so_bind (rel := relE K Fa) I h) fun w H1 ⟨y, r1, N1, s1, I1, q1, p1⟩ => ?_
    split at p1
    · rename_i f' ef
      split at p1
      · rename_i a b ea eb
        rw [hb] at p1
        simp only at p1
        split at p1
        · rename_i hl
          have q2 := (q1.1.look I1.g ef).int
          cases e2
          exact ⟨_, _, rfl, q2, p1 _ N1 H1 (putO I1 hl np (s := .dat false _) (Rp.int _) fun a d e => nomatch e) Fz.refl⟩
        · exact p1.elim
      · exact p1.elim
    · exact p1.elim
  · exact h.elim
def rIxM (K : Kw) : V → V → Hp → VK → Prop := fun o i H Q => ∃ (N : NS) (a : Addr) (c k w : D), o = .ref a ∧ RpM K N H a c ∧ DR K N H i k ∧ idxD c k = some w ∧ ∀ v, Rp K N H v w → Q v H
theorem get_any (hK : X.kw = K) (hu : X.A.units + 65 < cLine) : PGet X (rIxM K) := by
  subst hK
  intro pins s σ H o i ov iv Q I ro ri ⟨N, a, c, k, w, e1, m, hi, he, q⟩
  subst e1
  cases ro
  unfold idxD at he
  split at he
  · obtain ⟨ys, h3, h4⟩ := m
    have hi := hi.int
    subst hi
    obtain ⟨t, rfl⟩ := ri
    obtain ⟨z, e1, e2⟩ := h4.at he
    obtain ⟨its, r, pl, hz⟩ := I.list (.inl (.inl h3))
    obtain ⟨j, h1, h2, h3', h4', h5⟩ := atI_get e1
    obtain ⟨w', ew, rw'⟩ := r.get h2
    have hl := r.length
    have hn := line63
    have fin : EP X pins σ Q w' s := ⟨z, H, I, rw', q z e2⟩
    rename_i i' 
    by_cases h0 : 0 ≤ i'
    · have hj : i'.toNat = j := by
        rw [seqIndex_of h0 h5] at h1
        exact Option.some.inj h1
      exact wpAny_getItem_list pl.isList h0 (by omega) (by rw [hj]; simpa using ew) fin
    · have hj : (i' + (its.toArray.size : Int)).toNat = j := by
        rw [seqIndex_neg (by omega) h4'] at h1
        rw [List.size_toArray, ← hl]
        exact Option.some.inj h1
      exact wpAny_getItem_list_neg pl.isList (by omega) (by rw [List.size_toArray] <;> omega) (by omega) (by rw [hj]; simpa using ew) fin
  · exact m.elim
  · exact m.elim
  · split at he
    · rename_i kvs k hk
      exact dgetitem_any rfl hu I (show DicR X.kw N H a _ from m) hi ri hk he fun v w' s' I' rv rp => ⟨v, H, I', rv, q v rp⟩
    · cases he
  · cases he
theorem aug_sub {e : Expr} (h : noSlice e = true) : ∀ ov iv new, augStore e ov iv new = (do holding [new, ov, iv] (setItem ov iv new); release [new, ov, iv] []; pure .next) := by
  intro ov iv new
  cases e <;> first | rfl | cases h
theorem noFlatM {k : D} (m : RpM K N H a k) : flatK k = false ∧ tupK k = false := by
  cases k <;> first | exact ⟨rfl, rfl⟩ | exact m.elim
theorem noKeyM {c k v c' : D} (m : RpM K N H a k) (e : setD c k v = some c') : False := by
  unfold setD at e
  obtain ⟨m1, m2⟩ := noFlatM m
  split at e
  · exact m
  · split at e
    · rename_i hk
      have hk := hk.1
      simp [likeKeys, m1, m2] at hk
    · cases e
  · cases e
theorem fs_augi {i : Nat} {ix c : CE} {x : Str} {p : Pos} {e1 e : Expr} {tpos : Pos} {op : Operator} {f : Int → Int → Int} (ho : PIp X op (ipI f)) (hb : ∀ a b, binD op (.int a) (.int b) = some (false, .int (f a b))) (hK : X.kw = K) (hu : X.A.units + 65 < cLine) (hN : X.N[i]? = some x) (hv : Vis X.env.scope x) (hd : (x == ("__debug__" : Str)) = false) (hcd : (x == ("__classdict__" : Str)) = false)
    (ha : noSlice e1 = true) (h1 : PE X e1 (tE K Fa Ca pr W (evE G ix))) (h2 : PE X e (tE K Fa Ca pr W (evE G c))) :
    PS X (.AugAssign (.Subscript (.Name x p) e1 tpos) op e pos) (tS K Fa Ca pr W refs N0 H0 (evS G (.augi i ix op c))) := by
  refine PS.imp (ps_augS (pe_var (pos := p) hN hv hd hcd) h1 (get_any hK hu) h2 ho (set_any hK hu) (aug_sub ha)) fun D σ H ⟨r, N, I, h⟩ => ?_
  simp only [evS] at h
  split at h
  · rename_i c0 ei
    obtain ⟨a, hs, _, _⟩ := own_at I.g ei
    refine ⟨.ref a, hs, ?_⟩
    show tE K Fa Ca pr W (evE G ix) σ H _
    refine tG_mono (so_bind (rel := relE K Fa) I h) fun w H1 ⟨y, r1, N1, s1, I1, q1, p1⟩ => ?_
    split at p1
    · rename_i k ek
      split at p1
      · rename_i c1 ec
        split at p1
        · rename_i n en
          obtain ⟨a', hs', n', m'⟩ := own_at I1.g ec
          rw [hs] at hs'
          cases hs'
          refine ⟨N1, a, c1, k, _, rfl, m', q1.1.look I1.g ek, en, fun v hv => ?_⟩
          cases hv
          show tE K Fa Ca pr W (evE G c) σ H1 _
          have dk := q1.1.look I1.g ek
          refine tG_mono (so_bind (rel := relE K Fa) I1 p1) fun w2 H2 ⟨y2, r2, N2, s2, I2, q2, p2⟩ => ?_
          split at p2
          · rename_i b eb
            rw [hb] at p2
            simp only at p2
            split at p2
            · rename_i c2 ec2
              split at p2
              · rename_i c3 e3
                have hw2 := (q2.1.look I2.g eb).int
                obtain ⟨a2, hs2, n2, m2⟩ := own_at I2.g ec2
                rw [hs] at hs2
                cases hs2
                refine ⟨_, _, rfl, hw2, N2, a, c2, k, _, c3, rfl, n2, I2.g.trk, m2, ?_, Rp.int _, e3, fun ho mo rm => ?_⟩
                · rcases dk with dk | ⟨a3, _, _, m3⟩
                  · exact .inl (dk.ext s2.ext I1.g.trk)
                  · exact (noKeyM m3 e3).elim
                · obtain ⟨I3, f3⟩ := I2.write ec2 hs mo rm
                  exact p2 σ N2 _ I3 f3
              · exact p2.elim
            · exact p2.elim
          · exact p2.elim
        · exact p1.elim
      · exact p1.elim
    · exact p1.elim
  · exact h.elim
end
end E2

set_option Elab.async false
set_option linter.all false
set_option maxRecDepth 100000
set_option maxHeartbeats 4000000
namespace E2
variable [Tbs]
open PySem PySem.Spec PyProof.Rows L2
/-- what the proof of a body's code leans on -/
structure CtxOk (S : Sm) (K : Kw) (Fa Ca : Nat → Addr) (pr : List (Nat × Addr)) (G : Gs) (kr : Nat) (mg : Str → Option Value) (sc : Scope) (st : Str → Bool) (X : Cx) (W : WX) : Prop where
  kw : X.kw = K
  nn : X.N = S.N
  nd : S.N.Nodup
  calm : X.calm = true
  room : Room kr X.A
  scp : X.env.scope = sc
  kind : sc.kind = .function
  mgq : X.mg = mg
  tk : Takes X W
  stq : ∀ x, st x = true → Loc sc x ∧ (X.fn x = true ∨ sc.names.lookup x = some .local)
  fd : ∀ k nm, S.fnm[k]? = some nm → mg nm = some (.ref (Fa k)) ∧ ∃ fd ps, FD X K Fa Ca G kr k fd ps
  sg : ∀ k, G.sig k ≠ [] → ∃ nm, S.fnm[k]? = some nm
  gc : ∀ g nm, S.gnm[g]? = some nm → ∃ u w dd, mg nm = some u ∧ L2.RelV w u ∧ G.gcs g = some dd ∧ GcR K w dd
  bl : ∀ x, x ∈ bnames → mg x = none
  npr : ∀ i, i ∉ S.nr → NoPr pr i
section
variable {S : Sm} {K : Kw} {Fa Ca : Nat → Addr} {pr : List (Nat × Addr)} {G : Gs} {kr : Nat} {mg : Str → Option Value} {sc : Scope} {st : Str → Bool} {X : Cx} {W : WX}
theorem visB_out {x : Str} (h : visB sc x = true) : Vis sc x := by
  unfold visB at h
  split at h <;> first | exact .inl (by assumption) | exact .inr (.inl (by assumption)) | exact .inr (.inr (by assumption)) | cases h
theorem okN_out {x : Str} (h : okN x = true) : (x == ("__debug__" : Str)) = false ∧ (x == ("__classdict__" : Str)) = false := by
  unfold okN at h
  simp only [Bool.and_eq_true, Bool.not_eq_true'] at h
  exact h
theorem CtxOk.gl (C : CtxOk S K Fa Ca pr G kr mg sc st X W) {x : Str} (h : glB sc x = true) : Gl X x := by
  show X.env.scope.names.lookup x = some .globalImplicit
  rw [C.scp]
  exact of_decide_eq_true h
theorem CtxOk.vis (C : CtxOk S K Fa Ca pr G kr mg sc st X W) {x : Str} (h : visB sc x = true) : Vis X.env.scope x := by rw [C.scp]; exact visB_out h
theorem CtxOk.un (C : CtxOk S K Fa Ca pr G kr mg sc st X W) : X.A.units + 65 < cLine := by have := C.room.un; omega
theorem CtxOk.bn (C : CtxOk S K Fa Ca pr G kr mg sc st X W) {x : Str} (h : x ∈ bnames) : X.mg x = none := by rw [C.mgq]; exact C.bl x h
/-- inside a comprehension's block -/
theorem CtxOk.blk (C : CtxOk S K Fa Ca pr G kr mg sc st X W) {scope : Scope} (hk : (relS scope sc).kind = .function) (s : Shared) (H : Hp) (cl : List (Str × Addr)) (c : Addr) (fp : List Addr) : CtxOk S K Fa Ca pr G kr mg (relS scope sc) (stB scope) (X.blk s H scope (compEnvC scope cl c X.env) fp) WF where
  kw := C.kw
  nn := C.nn
  nd := C.nd
  calm := C.calm
  room := C.room
  scp := by rw [← C.scp]; rfl
  kind := hk
  mgq := C.mgq
  tk := takes_none5
  stq := fun x h => by
    unfold stB at h
    split at h
    · rename_i e
      exact ⟨.inl (lookup_relS_keep (by decide) e), .inr (lookup_relS_keep (by decide) e)⟩
    · rename_i e
      refine ⟨.inr (lookup_relS_keep (by decide) e), .inl ?_⟩
      show (scope.names.lookup x == some .cell) = true
      rw [e]
      rfl
    · cases h
  fd := fun k nm e => by
    obtain ⟨h1, fd, ps, F⟩ := C.fd k nm e
    exact ⟨h1, fd, ps, ⟨F.ok, F.keep, F.binds, F.np⟩⟩
  sg := C.sg
  gc := C.gc
  bl := C.bl
  npr := C.npr
theorem disj_out {l m : List Nat} (h : disj l m = true) : ∀ i ∈ l, i ∉ m := fun i hi z => by
  have := List.all_eq_true.mp h i hi
  simp [z] at this
theorem CtxOk.blkOk (C : CtxOk S K Fa Ca pr G kr mg sc st X W) {scope : Scope} {own : List (Str × Nat)} (h : blkOkB S sc scope own = true) : BlkOk X.N X.env.scope scope own ∧ (∀ i ∈ own.map (·.2), NoPr pr i) ∧ (relS scope sc).kind = .function := by
  unfold blkOkB at h
  simp only [Bool.and_eq_true, decide_eq_true_eq] at h
  refine ⟨by rw [C.nn, C.scp]; exact blkOk_by h.1.1, fun i hi => C.npr i (disj_out h.1.2 i hi), h.2⟩
theorem noStar_plain {e : Expr} (h : noStar e = true) : plainX e = true := by cases e <;> first | rfl | cases h
theorem noSet_out {e : Expr} (h : noSet e = true) {env : Env} : ∀ x, foldedSetIterable e env x = pure x := by
  intro x
  cases e <;> first | rfl | cases h
theorem noSup_out {e : Expr} (h : noSup e = true) {env : Env} : ∀ n, attributeBase e n env (eval e env) = eval e env := by
  intro n
  unfold noSup at h
  split at h
  · cases h
  · rename_i hn
    unfold attributeBase
    split
    · rename_i id p1 pos
      exact absurd rfl (hn id p1 pos)
    · rfl
theorem asg_cons {e : Expr} {es : List Expr} {env : Env} (h : noStar e = true) : assignEach (e :: es) env = (false, assign e env) :: assignEach es env := by
  cases e <;> first | rfl | cases h
/-! ### targets -/
mutual
theorem soundG (C : CtxOk S K Fa Ca pr G kr mg sc st X W) : ∀ {t : Tg} {e : Expr}, matG S st t e = true → PG X e (gB K t)
  | .nm i, e, h => by
    unfold matG at h
    split at h
    · rename_i x p
      simp only [Bool.and_eq_true, decide_eq_true_eq] at h
      obtain ⟨h1, h2⟩ := C.stq x h.2
      exact pg_name (by rw [C.nn]; exact C.nd) (by rw [C.nn]; exact h.1) (by rw [C.scp]; exact h1) (by rw [C.scp]; exact h2)
    · cases h
  | .tup ts, e, h => by
    unfold matG at h
    split at h
    · rename_i es k p
      obtain ⟨h1, h2, h3, h4⟩ := soundGs C h
      have := pg_tup (X := X) (k := k) (pos := p) (n := ts.length) C.calm h1 (h2.trans h4) h3
      have e2 : X.K = K.fr := by rw [← C.kw]
      rw [e2] at this
      exact this
    · cases h
theorem soundGs (C : CtxOk S K Fa Ca pr G kr mg sc st X W) : ∀ {ts : List Tg} {es : List Expr}, matGs S st ts es = true → PGs X es (gBs K ts) ∧ (assignEach es X.env).length = es.length ∧ (assignEach es X.env).findIdx? (·.1) = none ∧ es.length = ts.length
  | [], es, h => by
    unfold matGs at h
    split at h
    · exact ⟨pgs_nil, rfl, rfl, rfl⟩
    · cases h
  | t :: ts, es, h => by
    unfold matGs at h
    split at h
    · rename_i e es
      simp only [Bool.and_eq_true] at h
      obtain ⟨h1, h2, h3, h4⟩ := soundGs C h.2
      have e1 := asg_cons (es := es) (env := X.env) h.1.1
      refine ⟨pgs_cons (soundG C h.1.2) h1 (by rw [e1]; rfl), by rw [e1]; exact congrArg (· + 1) h2, ?_, congrArg (· + 1) h4⟩
      rw [e1, List.findIdx?_cons]
      simp [h3]
    · cases h
end
/-! ### expressions -/
theorem CtxOk.fdk (C : CtxOk S K Fa Ca pr G kr mg sc st X W) {k : Nat} {x : Str} (h : S.fnm[k]? = some x) : X.mg x = some (.ref (Fa k)) ∧ ∃ fd ps, FD X K Fa Ca G kr k fd ps := by
  obtain ⟨h1, h2⟩ := C.fd k x h
  exact ⟨by rw [C.mgq]; exact h1, h2⟩
theorem cstB_rel : ∀ {c : Const} {d : D}, cstB c d = true → CRel c d
  | .none, .none, _ => .non
  | .bool a, .bool b, h => by
    have e : a = b := of_decide_eq_true h
    subst e
    exact .bl a
  | .int a, .int b, h => by
    have e : a = b := of_decide_eq_true h
    subst e
    exact .int a
  | .str a, .str b, h => by
    have e : a = b := of_decide_eq_true h
    subst e
    exact .str a
  | .none, .bool _, h => by cases h
  | .none, .int _, h => by cases h
  | .none, .str _, h => by cases h
  | .none, .list _, h => by cases h
  | .none, .tuple _, h => by cases h
  | .none, .dict _, h => by cases h
  | .bool _, .none, h => by cases h
  | .bool _, .int _, h => by cases h
  | .bool _, .str _, h => by cases h
  | .bool _, .list _, h => by cases h
  | .bool _, .tuple _, h => by cases h
  | .bool _, .dict _, h => by cases h
  | .int _, .none, h => by cases h
  | .int _, .bool _, h => by cases h
  | .int _, .str _, h => by cases h
  | .int _, .list _, h => by cases h
  | .int _, .tuple _, h => by cases h
  | .int _, .dict _, h => by cases h
  | .str _, .none, h => by cases h
  | .str _, .bool _, h => by cases h
  | .str _, .int _, h => by cases h
  | .str _, .list _, h => by cases h
  | .str _, .tuple _, h => by cases h
  | .str _, .dict _, h => by cases h
  | .float _, d, h => by cases d <;> cases h
  | .complex _ _, d, h => by cases d <;> cases h
  | .bytes _, d, h => by cases d <;> cases h
  | .ellipsis, d, h => by cases d <;> cases h
theorem blt_mem (b : Blt) : bltN b ∈ bnames ∧ bootBuiltins (bltN b) = some (bltV b) ∧ bltN b ≠ "__name__" ∧ (bltN b == ("__debug__" : Str)) = false := by
  cases b <;> exact ⟨by decide, by first | rfl | decide +kernel, by decide, by decide⟩
theorem ty_mem {x : Str} {t : String} (h : tyB x t = true) : x ∈ bnames ∧ bootBuiltins x = some (.type t) ∧ x ≠ "__name__" ∧ (x == ("__debug__" : Str)) = false := by
  unfold tyB at h
  simp only [Bool.and_eq_true, beq_iff_eq, decide_eq_true_eq, List.mem_cons, List.not_mem_nil, or_false] at h
  obtain ⟨rfl, h⟩ := h
  rcases h with rfl | rfl | rfl | rfl | rfl | rfl <;> exact ⟨by decide, by first | rfl | decide +kernel, by decide, by decide⟩
end
end E2

set_option Elab.async false
set_option linter.all false
set_option maxRecDepth 100000
set_option maxHeartbeats 8000000
namespace E2
variable [Tbs]
open PySem PySem.Spec PyProof.Rows L2
section
variable {S : Sm} {K : Kw} {Fa Ca : Nat → Addr} {pr : List (Nat × Addr)} {G : Gs} {kr : Nat} {mg : Str → Option Value}
theorem all_out {l m : List Nat} (h : (l.all fun j => m.contains j) = true) : ∀ j ∈ l, j ∈ m := fun j hj => by
  have := List.all_eq_true.mp h j hj
  simpa using this
theorem matEs_plain : ∀ {cs : CEs} {sc : Scope} {es : List Expr}, matEs S cs sc es = true → es.all plainX = true
  | .nil, sc, es, h => by
    unfold matEs at h
    split at h
    · rfl
    · cases h
  | .cons c cs, sc, es, h => by
    unfold matEs at h
    split at h
    · simp only [Bool.and_eq_true] at h
      rw [List.all_cons, noStar_plain h.1.1, matEs_plain h.2]
      rfl
    · cases h
theorem tup_out {t : Tg} (h : isTup t = true) : ∃ ts, t = .tup ts := by
  cases t with
  | nm i => cases h
  | tup ts => exact ⟨ts, rfl⟩
theorem tupE_out {e : Expr} (h : isTupE e = true) : ∃ es k p, e = .Tuple es k p := by
  unfold isTupE at h
  split at h
  · exact ⟨_, _, _, rfl⟩
  · cases h
theorem rng_few3 {c d f : CE} {cs : CEs} {sc : Scope} {xs : List Expr} (h1 : (match xs with
      | [_] => true
      | [_, _] => true
      | _ => false) = true) (h2 : matEs S (.cons c (.cons d (.cons f cs))) sc xs = true) : False := by
  unfold matEs at h2
  split at h2
  · simp only [Bool.and_eq_true] at h2
    have h3 := h2.2
    unfold matEs at h3
    split at h3
    · simp only [Bool.and_eq_true] at h3
      have h4 := h3.2
      unfold matEs at h4
      split at h4
      · cases h1
      · cases h4
    · cases h3
  · cases h2
theorem nn_at {sc : Scope} {st : Str → Bool} {X : Cx} {W : WX} (C : CtxOk S K Fa Ca pr G kr mg sc st X W) {i : Nat} {x : Str} (h : S.N[i]? = some x) : X.N[i]? = some x := by rw [C.nn]; exact h
mutual
theorem soundE : ∀ (c : CE) {sc : Scope} {st : Str → Bool} {X : Cx} {W : WX} {e : Expr}, CtxOk S K Fa Ca pr G kr mg sc st X W → matE S c sc e = true → PE X e (tE K Fa Ca pr W (evE G c))
  | .var i, sc, st, X, W, e, C, h => by
    unfold matE at h
    split at h
    · simp only [Bool.and_eq_true, decide_eq_true_eq] at h
      obtain ⟨h3, h4⟩ := okN_out h.2
      exact fe_var (nn_at C h.1.1) (C.vis h.1.2) h3 h4
    · cases h
  | .cst d, sc, st, X, W, e, C, h => by
    unfold matE at h
    split at h
    · exact fe_cst (cstB_rel h)
    · cases h
  | .gc g, sc, st, X, W, e, C, h => by
    unfold matE at h
    split at h
    · simp only [Bool.and_eq_true, decide_eq_true_eq] at h
      obtain ⟨h3, h4⟩ := okN_out h.2
      obtain ⟨u, w, dd, q1, q2, q3, q4⟩ := C.gc _ _ h.1.1
      exact fe_gc (C.gl h.1.2) (by rw [C.mgq]; exact q1) q2 q3 q4 h3
    · cases h
  | .fnv k, sc, st, X, W, e, C, h => by
    unfold matE at h
    split at h
    · simp only [Bool.and_eq_true, decide_eq_true_eq] at h
      obtain ⟨h3, h4⟩ := okN_out h.2
      exact fe_fnv (C.gl h.1.2) (C.fdk h.1.1).1 h3
    · cases h
  | .tup es, sc, st, X, W, e, C, h => by
    unfold matE at h
    split at h
    · exact fe_tup (soundEs es C h)
    · cases h
  | .lst es, sc, st, X, W, e, C, h => by
    unfold matE at h
    split at h
    · exact fe_lst (soundEs es C h)
    · cases h
  | .dic0, sc, st, X, W, e, C, h => by
    unfold matE at h
    split at h
    · exact fe_dic0
    · cases h
  | .bin op a b, sc, st, X, W, e, C, h => by
    unfold matE at h
    split at h
    · simp only [Bool.and_eq_true, decide_eq_true_eq] at h
      rw [← h.1.1]
      exact fe_bin C.kw (soundE a C h.1.2) (soundE b C h.2)
    · cases h
  | .rep a b, sc, st, X, W, e, C, h => by
    unfold matE at h
    split at h
    · simp only [Bool.and_eq_true] at h
      exact fe_rep (soundE a C h.1) (soundE b C h.2)
    · cases h
  | .neg a, sc, st, X, W, e, C, h => by
    unfold matE at h
    split at h
    · exact fe_neg (soundE a C h)
    · cases h
  | .cmp op a b, sc, st, X, W, e, C, h => by
    unfold matE at h
    split at h
    · simp only [Bool.and_eq_true, decide_eq_true_eq, Bool.not_eq_true'] at h
      rw [← h.1.1.1]
      exact fe_cmp C.kw C.un h.1.1.2 (soundE a C h.1.2) (soundE b C h.2)
    · cases h
  | .chn op1 op2 a b c, sc, st, X, W, e, C, h => by
    unfold matE at h
    split at h
    · simp only [Bool.and_eq_true, decide_eq_true_eq, Bool.not_eq_true'] at h
      rw [← h.1.1.1.1.1, ← h.1.1.1.1.2]
      exact fe_chn C.kw C.un h.1.1.1.2 (soundE a C h.1.1.2) (soundE b C h.1.2) (soundE c C h.2)
    · cases h
  | .and a b, sc, st, X, W, e, C, h => by
    unfold matE at h
    split at h
    · rename_i x y rest p
      simp only [Bool.and_eq_true] at h
      refine fe_and C.kw (soundE a C h.1) ?_
      have h2 := h.2
      split at h2
      · exact pe_one (soundE b C h2)
      · exact soundE b C h2
    · cases h
  | .or a b, sc, st, X, W, e, C, h => by
    unfold matE at h
    split at h
    · rename_i x y rest p
      simp only [Bool.and_eq_true] at h
      refine fe_or C.kw (soundE a C h.1) ?_
      have h2 := h.2
      split at h2
      · exact pe_one (soundE b C h2)
      · exact soundE b C h2
    · cases h
  | .not a, sc, st, X, W, e, C, h => by
    unfold matE at h
    split at h
    · exact fe_not C.kw (soundE a C h)
    · cases h
  | .ife t a b, sc, st, X, W, e, C, h => by
    unfold matE at h
    split at h
    · simp only [Bool.and_eq_true] at h
      exact fe_ife (soundT t C h.1.1).1 (soundE a C h.1.2) (soundE b C h.2)
    · cases h
  | .idx a i, sc, st, X, W, e, C, h => by
    unfold matE at h
    split at h
    · simp only [Bool.and_eq_true] at h
      exact fe_idx C.kw C.un (by have := h.1.1; revert this; unfold noSlice; split <;> simp) (soundE a C h.1.2) (soundE i C h.2)
    · cases h
  | .sli a lo hi, sc, st, X, W, e, C, h => by
    unfold matE at h
    split at h
    · simp only [Bool.and_eq_true] at h
      exact fe_sli C.kw (soundE a C h.1.1) (soundO lo C h.1.2) (soundO hi C h.2)
    · cases h
  | .call k es, sc, st, X, W, e, C, h => by
    unfold matE at h
    split at h
    · rename_i x p xs pos
      simp only [Bool.and_eq_true, decide_eq_true_eq] at h
      obtain ⟨h3, h4⟩ := okN_out h.1.2
      obtain ⟨h5, fd, ps, F⟩ := C.fdk h.1.1.1
      cases xs with
      | nil =>
        cases es with
        | nil => exact fe_call0 F C.room C.tk (C.gl h.1.1.2) h5 h3
        | cons c cs => have := h.2; unfold matEs at this; cases this
      | cons y ys => exact fe_call F C.room C.tk (C.gl h.1.1.2) h5 h3 (matEs_plain h.2) (soundEs es C h.2)
    · cases h
  | .callv i es, sc, st, X, W, e, C, h => by
    unfold matE at h
    split at h
    · simp only [Bool.and_eq_true, decide_eq_true_eq] at h
      obtain ⟨h3, h4⟩ := okN_out h.1.2
      exact fe_callv (fun k hk => by obtain ⟨nm, e⟩ := C.sg k hk; exact (C.fdk e).2) C.room C.tk (nn_at C h.1.1.1) (C.vis h.1.1.2) h3 h4 (matEs_plain h.2) (soundEs es C h.2)
    · cases h
  | .blt b es, sc, st, X, W, e, C, h => by
    unfold matE at h
    split at h
    · simp only [Bool.and_eq_true, decide_eq_true_eq] at h
      obtain ⟨h1, h2, h3, h4⟩ := blt_mem b
      have e1 := h.1.1
      subst e1
      exact fe_blt (c := .dic0) C.kw C.calm C.un (C.gl h.1.2) (C.bn h1) h2 h3 h4 (matEs_plain h.2) (soundEs es C h.2)
    · cases h
  | .rng t (.cons c .nil), sc, st, X, W, e, C, h => by
    unfold matE at h
    split at h
    · rename_i x p1 y p2 xs p3 p4
      simp only [Bool.and_eq_true, decide_eq_true_eq] at h
      obtain ⟨⟨⟨⟨⟨rfl, rfl⟩, h1⟩, h2⟩, h3⟩, h4⟩ := h
      have ra : RgArgs X K Fa Ca pr W G xs (.cons c .nil) := by
        unfold matEs at h4
        split at h4
        · rename_i e1 es1
          simp only [Bool.and_eq_true] at h4
          have h5 := h4.2
          unfold matEs at h5
          split at h5
          · exact .one (noStar_plain h4.1.1) (soundE c C h4.1.2)
          · cases h5
        · cases h4
      cases t with
      | true => exact fe_rngT C.calm (C.gl h1) (C.bn (by decide)) (C.gl h2) (C.bn (by decide)) ra
      | false => exact fe_rngL C.calm (C.gl h1) (C.bn (by decide)) (C.gl h2) (C.bn (by decide)) ra
    · cases h
  | .rng t (.cons c (.cons d .nil)), sc, st, X, W, e, C, h => by
    unfold matE at h
    split at h
    · rename_i x p1 y p2 xs p3 p4
      simp only [Bool.and_eq_true, decide_eq_true_eq] at h
      obtain ⟨⟨⟨⟨⟨rfl, rfl⟩, h1⟩, h2⟩, h3⟩, h4⟩ := h
      have ra : RgArgs X K Fa Ca pr W G xs (.cons c (.cons d .nil)) := by
        unfold matEs at h4
        split at h4
        · rename_i e1 es1
          simp only [Bool.and_eq_true] at h4
          have h5 := h4.2
          unfold matEs at h5
          split at h5
          · simp only [Bool.and_eq_true] at h5
            have h6 := h5.2
            unfold matEs at h6
            split at h6
            · exact .two (noStar_plain h4.1.1) (noStar_plain h5.1.1) (soundE c C h4.1.2) (soundE d C h5.1.2)
            · cases h6
          · cases h5
        · cases h4
      cases t with
      | true => exact fe_rngT C.calm (C.gl h1) (C.bn (by decide)) (C.gl h2) (C.bn (by decide)) ra
      | false => exact fe_rngL C.calm (C.gl h1) (C.bn (by decide)) (C.gl h2) (C.bn (by decide)) ra
    · cases h
  | .rng t .nil, sc, st, X, W, e, C, h => by
    unfold matE at h
    split at h
    · rename_i x p1 y p2 xs p3 p4
      simp only [Bool.and_eq_true] at h
      have h3 := h.1.2
      have h4 := h.2
      unfold matEs at h4
      split at h4
      · cases h3
      · cases h4
    · cases h
  | .rng t (.cons c (.cons d (.cons f cs))), sc, st, X, W, e, C, h => by
    unfold matE at h
    split at h
    · rename_i x p1 y p2 xs p3 p4
      simp only [Bool.and_eq_true] at h
      exact (rng_few3 h.1.2 h.2).elim
    · cases h
  | .isin a t, sc, st, X, W, e, C, h => by
    unfold matE at h
    split at h
    · simp only [Bool.and_eq_true, decide_eq_true_eq] at h
      obtain ⟨⟨⟨⟨⟨rfl, h1⟩, h2⟩, h3⟩, h4⟩, h5⟩ := h
      obtain ⟨q1, q2, q3, q4⟩ := ty_mem h3
      exact fe_isin C.kw (C.gl h1) (C.bn (by decide)) (C.gl h2) (C.bn q1) q2 q3 q4 (noStar_plain h4) (soundE a C h5)
    · cases h
  | .attr i f, sc, st, X, W, e, C, h => by
    unfold matE at h
    cases h
  | .meth m o es, sc, st, X, W, e, C, h => by
    unfold matE at h
    split at h
    · simp only [Bool.and_eq_true, decide_eq_true_eq] at h
      obtain ⟨⟨⟨⟨⟨rfl, h1⟩, h2⟩, h3⟩, h4⟩, h5⟩ := h
      exact fe_meth C.kw C.un (noSup_out h1) h2 (matEs_plain h5) h3 (soundE o C h4) (soundEs es C h5)
    · cases h
  | .mut m i es, sc, st, X, W, e, C, h => by
    unfold matE at h
    split at h
    · rename_i y p nm ap xs cp
      simp only [Bool.and_eq_true, decide_eq_true_eq] at h
      obtain ⟨⟨⟨⟨⟨⟨rfl, h1⟩, h2⟩, h3⟩, h4⟩, h5⟩, h6⟩ := h
      obtain ⟨q3, q4⟩ := okN_out h3
      cases xs with
      | nil =>
        cases es with
        | nil => exact fe_mut0 (nn_at C h1) (C.vis h2) q3 q4 (noSup_out rfl) h4
        | cons c cs => unfold matEs at h6; cases h6
      | cons x xs => exact fe_mut (nn_at C h1) (C.vis h2) q3 q4 (noSup_out rfl) h4 (matEs_plain h6) h5 (soundEs es C h6)
    · cases h
  | .lc own tg it cond elt, sc, st, X, W, e, C, h => by
    unfold matE at h
    split at h
    · rename_i x t i ifs scope p
      simp only [Bool.and_eq_true] at h
      obtain ⟨⟨⟨⟨⟨⟨h1, h2⟩, h3⟩, h4⟩, h5⟩, h6⟩, h7⟩ := h
      obtain ⟨q1, q2, q3⟩ := C.blkOk h1
      exact fe_lc C.calm (by rw [C.nn]; exact C.nd) (soundI it C h4) q1 q2 (all_out h2) (fun s H c cl fp => soundG (C.blk q3 s H cl c fp) h5) (fun s H c cl fp => soundC cond (C.blk q3 s H cl c fp) h6) (fun s H c cl fp => soundE elt (C.blk q3 s H cl c fp) h7) (noSet_out h3)
    · cases h
  | .lc2 own vs1 tg it cond tg1 it1 cond1 elt, sc, st, X, W, e, C, h => by
    unfold matE at h
    split at h
    · rename_i x t i ifs t1 i1 ifs1 scope p
      simp only [Bool.and_eq_true] at h
      obtain ⟨⟨⟨⟨⟨⟨⟨⟨⟨⟨⟨⟨h1, h2⟩, h2b⟩, h2c⟩, h3⟩, h3b⟩, h4⟩, h5⟩, h6⟩, h7⟩, h8⟩, h9⟩, h10⟩ := h
      obtain ⟨q1, q2, q3⟩ := C.blkOk h1
      exact fe_lc2 C.calm (by rw [C.nn]; exact C.nd) (soundI it C h4) q1 (all_out h2c) q2 (all_out h2) (all_out h2b) (fun s H c cl fp => soundG (C.blk q3 s H cl c fp) h5) (fun s H c cl fp => soundC cond (C.blk q3 s H cl c fp) h6) (fun s H c cl fp => soundI it1 (C.blk q3 s H cl c fp) h7)
        (fun s H c cl fp => soundG (C.blk q3 s H cl c fp) h8) (fun s H c cl fp => soundC cond1 (C.blk q3 s H cl c fp) h9) (fun s H c cl fp => soundE elt (C.blk q3 s H cl c fp) h10) (noSet_out h3) (fun env => noSet_out h3b)
    · cases h
  | .dc own tg it cond k v, sc, st, X, W, e, C, h => by
    unfold matE at h
    split at h
    · rename_i x y t i ifs scope p
      simp only [Bool.and_eq_true] at h
      obtain ⟨⟨⟨⟨⟨⟨⟨h1, h2⟩, h3⟩, h4⟩, h5⟩, h6⟩, h7⟩, h8⟩ := h
      obtain ⟨q1, q2, q3⟩ := C.blkOk h1
      exact fe_dc C.calm (by rw [C.nn]; exact C.nd) (soundI it C h4) q1 q2 (all_out h2) (fun s H c cl fp => soundG (C.blk q3 s H cl c fp) h5) (fun s H c cl fp => soundC cond (C.blk q3 s H cl c fp) h6) (fun s H c cl fp => soundE k (C.blk q3 s H cl c fp) h7) (fun s H c cl fp => soundE v (C.blk q3 s H cl c fp) h8) (noSet_out h3)
    · cases h
theorem soundEs : ∀ (cs : CEs) {sc : Scope} {st : Str → Bool} {X : Cx} {W : WX} {es : List Expr}, CtxOk S K Fa Ca pr G kr mg sc st X W → matEs S cs sc es = true → PA X es (tL K Fa Ca pr W (evEs G cs))
  | .nil, sc, st, X, W, es, C, h => by
    unfold matEs at h
    split at h
    · exact fe_nil
    · cases h
  | .cons c cs, sc, st, X, W, es, C, h => by
    unfold matEs at h
    split at h
    · simp only [Bool.and_eq_true] at h
      exact fe_cons (noStar_plain h.1.1) (soundE c C h.1.2) (soundEs cs C h.2)
    · cases h
theorem soundO : ∀ (c : CEo) {sc : Scope} {st : Str → Bool} {X : Cx} {W : WX} {e : Option Expr}, CtxOk S K Fa Ca pr G kr mg sc st X W → matO S c sc e = true → PO X e (tOp K Fa Ca pr W (evO G c))
  | .non, sc, st, X, W, e, C, h => by
    unfold matO at h
    split at h
    · exact fo_non
    · cases h
  | .som c, sc, st, X, W, e, C, h => by
    unfold matO at h
    split at h
    · exact fo_som (soundE c C h)
    · cases h
theorem soundC : ∀ (c : CTo) {sc : Scope} {st : Str → Bool} {X : Cx} {W : WX} {es : List Expr}, CtxOk S K Fa Ca pr G kr mg sc st X W → matC S c sc es = true → PTs X es (tB K Fa Ca pr W (evC G c))
  | .non, sc, st, X, W, e, C, h => by
    unfold matC at h
    split at h
    · exact fc_non
    · cases h
  | .som c, sc, st, X, W, e, C, h => by
    unfold matC at h
    split at h
    · exact fc_som (soundT c C h).1
    · cases h
theorem soundT : ∀ (c : CT) {sc : Scope} {st : Str → Bool} {X : Cx} {W : WX} {e : Expr}, CtxOk S K Fa Ca pr G kr mg sc st X W → matT S c sc e = true → PT X e (tB K Fa Ca pr W (evT G c)) ∧ ∀ op l p, e = .BoolOp op l p → PW X e (tB K Fa Ca pr W (evT G c))
  | .and a b, sc, st, X, W, e, C, h => by
    unfold matT at h
    split at h
    · rename_i x y rest p
      simp only [Bool.and_eq_true] at h
      have h2 := h.2
      have z : PW X (.BoolOp .And (y :: rest) p) (tB K Fa Ca pr W (evT G b)) := by
        split at h2
        · exact pw_and1 (soundT b C h2).1
        · exact (soundT b C h2).2 _ _ _ rfl
      have w := fp_and (pos := p) (soundT a C h.1).1 z
      exact ⟨w.pt, fun _ _ _ _ => w⟩
    · cases h
  | .or a b, sc, st, X, W, e, C, h => by
    unfold matT at h
    split at h
    · rename_i x y rest p
      simp only [Bool.and_eq_true] at h
      have h2 := h.2
      have z : PW X (.BoolOp .Or (y :: rest) p) (tB K Fa Ca pr W (evT G b)) := by
        split at h2
        · exact pw_or1 (soundT b C h2).1
        · exact (soundT b C h2).2 _ _ _ rfl
      have w := fp_or (pos := p) (soundT a C h.1).1 z
      exact ⟨w.pt, fun _ _ _ _ => w⟩
    · cases h
  | .not a, sc, st, X, W, e, C, h => by
    unfold matT at h
    split at h
    · exact ⟨fp_not (soundT a C h).1, fun _ _ _ z => nomatch z⟩
    · cases h
  | .ex (.cmp op a b), sc, st, X, W, e, C, h => by
    unfold matT at h
    split at h
    · simp only [Bool.and_eq_true, decide_eq_true_eq, Bool.not_eq_true'] at h
      rw [← h.1.1.1]
      exact ⟨ft_cmp C.kw C.un h.1.1.2 (soundE a C h.1.2) (soundE b C h.2), fun _ _ _ z => nomatch z⟩
    · cases h
  | .ex (.chn op1 op2 a b c), sc, st, X, W, e, C, h => by
    unfold matT at h
    split at h
    · simp only [Bool.and_eq_true, decide_eq_true_eq, Bool.not_eq_true'] at h
      rw [← h.1.1.1.1.1, ← h.1.1.1.1.2]
      exact ⟨ft_chn C.kw C.un h.1.1.1.2 (soundE a C h.1.1.2) (soundE b C h.1.2) (soundE c C h.2), fun _ _ _ z => nomatch z⟩
    · cases h
  | .ex (.var i), sc, st, X, W, e, C, h => by
    unfold matT at h
    simp only [Bool.and_eq_true] at h
    exact ⟨fp_ex C.kw h.1 (soundE (.var i) C h.2), fun _ _ _ z => by have h := h.1; rw [z] at h; cases h⟩
  | .ex (.cst d), sc, st, X, W, e, C, h => by
    unfold matT at h
    simp only [Bool.and_eq_true] at h
    exact ⟨fp_ex C.kw h.1 (soundE (.cst d) C h.2), fun _ _ _ z => by have h := h.1; rw [z] at h; cases h⟩
  | .ex (.gc g), sc, st, X, W, e, C, h => by
    unfold matT at h
    simp only [Bool.and_eq_true] at h
    exact ⟨fp_ex C.kw h.1 (soundE (.gc g) C h.2), fun _ _ _ z => by have h := h.1; rw [z] at h; cases h⟩
  | .ex (.fnv k), sc, st, X, W, e, C, h => by
    unfold matT at h
    simp only [Bool.and_eq_true] at h
    exact ⟨fp_ex C.kw h.1 (soundE (.fnv k) C h.2), fun _ _ _ z => by have h := h.1; rw [z] at h; cases h⟩
  | .ex (.tup es), sc, st, X, W, e, C, h => by
    unfold matT at h
    simp only [Bool.and_eq_true] at h
    exact ⟨fp_ex C.kw h.1 (soundE (.tup es) C h.2), fun _ _ _ z => by have h := h.1; rw [z] at h; cases h⟩
  | .ex (.lst es), sc, st, X, W, e, C, h => by
    unfold matT at h
    simp only [Bool.and_eq_true] at h
    exact ⟨fp_ex C.kw h.1 (soundE (.lst es) C h.2), fun _ _ _ z => by have h := h.1; rw [z] at h; cases h⟩
  | .ex .dic0, sc, st, X, W, e, C, h => by
    unfold matT at h
    simp only [Bool.and_eq_true] at h
    exact ⟨fp_ex C.kw h.1 (soundE .dic0 C h.2), fun _ _ _ z => by have h := h.1; rw [z] at h; cases h⟩
  | .ex (.bin op a b), sc, st, X, W, e, C, h => by
    unfold matT at h
    simp only [Bool.and_eq_true] at h
    exact ⟨fp_ex C.kw h.1 (soundE (.bin op a b) C h.2), fun _ _ _ z => by have h := h.1; rw [z] at h; cases h⟩
  | .ex (.rep a b), sc, st, X, W, e, C, h => by
    unfold matT at h
    simp only [Bool.and_eq_true] at h
    exact ⟨fp_ex C.kw h.1 (soundE (.rep a b) C h.2), fun _ _ _ z => by have h := h.1; rw [z] at h; cases h⟩
  | .ex (.neg a), sc, st, X, W, e, C, h => by
    unfold matT at h
    simp only [Bool.and_eq_true] at h
    exact ⟨fp_ex C.kw h.1 (soundE (.neg a) C h.2), fun _ _ _ z => by have h := h.1; rw [z] at h; cases h⟩
  | .ex (.and a b), sc, st, X, W, e, C, h => by
    unfold matT at h
    simp only [Bool.and_eq_true] at h
    exact ⟨fp_ex C.kw h.1 (soundE (.and a b) C h.2), fun _ _ _ z => by have h := h.1; rw [z] at h; cases h⟩
  | .ex (.or a b), sc, st, X, W, e, C, h => by
    unfold matT at h
    simp only [Bool.and_eq_true] at h
    exact ⟨fp_ex C.kw h.1 (soundE (.or a b) C h.2), fun _ _ _ z => by have h := h.1; rw [z] at h; cases h⟩
  | .ex (.not a), sc, st, X, W, e, C, h => by
    unfold matT at h
    simp only [Bool.and_eq_true] at h
    exact ⟨fp_ex C.kw h.1 (soundE (.not a) C h.2), fun _ _ _ z => by have h := h.1; rw [z] at h; cases h⟩
  | .ex (.ife t a b), sc, st, X, W, e, C, h => by
    unfold matT at h
    simp only [Bool.and_eq_true] at h
    exact ⟨fp_ex C.kw h.1 (soundE (.ife t a b) C h.2), fun _ _ _ z => by have h := h.1; rw [z] at h; cases h⟩
  | .ex (.idx a i), sc, st, X, W, e, C, h => by
    unfold matT at h
    simp only [Bool.and_eq_true] at h
    exact ⟨fp_ex C.kw h.1 (soundE (.idx a i) C h.2), fun _ _ _ z => by have h := h.1; rw [z] at h; cases h⟩
  | .ex (.sli a lo hi), sc, st, X, W, e, C, h => by
    unfold matT at h
    simp only [Bool.and_eq_true] at h
    exact ⟨fp_ex C.kw h.1 (soundE (.sli a lo hi) C h.2), fun _ _ _ z => by have h := h.1; rw [z] at h; cases h⟩
  | .ex (.call k es), sc, st, X, W, e, C, h => by
    unfold matT at h
    simp only [Bool.and_eq_true] at h
    exact ⟨fp_ex C.kw h.1 (soundE (.call k es) C h.2), fun _ _ _ z => by have h := h.1; rw [z] at h; cases h⟩
  | .ex (.callv i es), sc, st, X, W, e, C, h => by
    unfold matT at h
    simp only [Bool.and_eq_true] at h
    exact ⟨fp_ex C.kw h.1 (soundE (.callv i es) C h.2), fun _ _ _ z => by have h := h.1; rw [z] at h; cases h⟩
  | .ex (.blt b es), sc, st, X, W, e, C, h => by
    unfold matT at h
    simp only [Bool.and_eq_true] at h
    exact ⟨fp_ex C.kw h.1 (soundE (.blt b es) C h.2), fun _ _ _ z => by have h := h.1; rw [z] at h; cases h⟩
  | .ex (.rng t es), sc, st, X, W, e, C, h => by
    unfold matT at h
    simp only [Bool.and_eq_true] at h
    exact ⟨fp_ex C.kw h.1 (soundE (.rng t es) C h.2), fun _ _ _ z => by have h := h.1; rw [z] at h; cases h⟩
  | .ex (.isin a t), sc, st, X, W, e, C, h => by
    unfold matT at h
    simp only [Bool.and_eq_true] at h
    exact ⟨fp_ex C.kw h.1 (soundE (.isin a t) C h.2), fun _ _ _ z => by have h := h.1; rw [z] at h; cases h⟩
  | .ex (.attr i f), sc, st, X, W, e, C, h => by
    unfold matT at h
    simp only [Bool.and_eq_true] at h
    exact ⟨fp_ex C.kw h.1 (soundE (.attr i f) C h.2), fun _ _ _ z => by have h := h.1; rw [z] at h; cases h⟩
  | .ex (.meth m o es), sc, st, X, W, e, C, h => by
    unfold matT at h
    simp only [Bool.and_eq_true] at h
    exact ⟨fp_ex C.kw h.1 (soundE (.meth m o es) C h.2), fun _ _ _ z => by have h := h.1; rw [z] at h; cases h⟩
  | .ex (.mut m i es), sc, st, X, W, e, C, h => by
    unfold matT at h
    simp only [Bool.and_eq_true] at h
    exact ⟨fp_ex C.kw h.1 (soundE (.mut m i es) C h.2), fun _ _ _ z => by have h := h.1; rw [z] at h; cases h⟩
  | .ex (.lc own tg it cond elt), sc, st, X, W, e, C, h => by
    unfold matT at h
    simp only [Bool.and_eq_true] at h
    exact ⟨fp_ex C.kw h.1 (soundE (.lc own tg it cond elt) C h.2), fun _ _ _ z => by have h := h.1; rw [z] at h; cases h⟩
  | .ex (.lc2 own vs1 tg it cond tg1 it1 cond1 elt), sc, st, X, W, e, C, h => by
    unfold matT at h
    simp only [Bool.and_eq_true] at h
    exact ⟨fp_ex C.kw h.1 (soundE (.lc2 own vs1 tg it cond tg1 it1 cond1 elt) C h.2), fun _ _ _ z => by have h := h.1; rw [z] at h; cases h⟩
  | .ex (.dc own tg it cond k v), sc, st, X, W, e, C, h => by
    unfold matT at h
    simp only [Bool.and_eq_true] at h
    exact ⟨fp_ex C.kw h.1 (soundE (.dc own tg it cond k v) C h.2), fun _ _ _ z => by have h := h.1; rw [z] at h; cases h⟩
theorem soundI : ∀ (c : CI) {tq : Tg} {sc : Scope} {st : Str → Bool} {X : Cx} {W : WX} {t e : Expr}, CtxOk S K Fa Ca pr G kr mg sc st X W → matI S c tq sc t e = true → PI X t e (tIt K tq Fa Ca pr W (evI G c))
  | .seq c, tq, sc, st, X, W, t, e, C, h => by
    unfold matI at h
    exact fi_seq C.kw (soundE c C h)
  | .rng (.cons c .nil), tq, sc, st, X, W, t, e, C, h => by
    unfold matI at h
    split at h
    · simp only [Bool.and_eq_true, decide_eq_true_eq] at h
      obtain ⟨⟨⟨rfl, h1⟩, h2⟩, h4⟩ := h
      unfold matEs at h4
      split at h4
      · simp only [Bool.and_eq_true] at h4
        have h5 := h4.2
        unfold matEs at h5
        split at h5
        · exact fi_rng1 (C.gl h1) (C.bn (by decide)) (noStar_plain h4.1.1) (soundE c C h4.1.2)
        · cases h5
      · cases h4
    · cases h
  | .rng (.cons c (.cons d .nil)), tq, sc, st, X, W, t, e, C, h => by
    unfold matI at h
    split at h
    · simp only [Bool.and_eq_true, decide_eq_true_eq] at h
      obtain ⟨⟨⟨rfl, h1⟩, h2⟩, h4⟩ := h
      unfold matEs at h4
      split at h4
      · simp only [Bool.and_eq_true] at h4
        have h5 := h4.2
        unfold matEs at h5
        split at h5
        · simp only [Bool.and_eq_true] at h5
          have h6 := h5.2
          unfold matEs at h6
          split at h6
          · exact fi_rng2 (C.gl h1) (C.bn (by decide)) (noStar_plain h4.1.1) (noStar_plain h5.1.1) (soundE c C h4.1.2) (soundE d C h5.1.2)
          · cases h6
        · cases h5
      · cases h4
    · cases h
  | .rng .nil, tq, sc, st, X, W, t, e, C, h => by
    unfold matI at h
    split at h
    · simp only [Bool.and_eq_true] at h
      have h3 := h.1.2
      have h4 := h.2
      unfold matEs at h4
      split at h4
      · cases h3
      · cases h4
    · cases h
  | .rng (.cons c (.cons d (.cons f cs))), tq, sc, st, X, W, t, e, C, h => by
    unfold matI at h
    split at h
    · simp only [Bool.and_eq_true] at h
      exact (rng_few3 h.1.2 h.2).elim
    · cases h
  | .enum (.cons c .nil), tq, sc, st, X, W, t, e, C, h => by
    unfold matI at h
    split at h
    · simp only [Bool.and_eq_true, decide_eq_true_eq] at h
      obtain ⟨⟨⟨⟨rfl, h1⟩, h2⟩, h3⟩, h4⟩ := h
      obtain ⟨es', k, p, rfl⟩ := tupE_out h3
      unfold matEs at h4
      simp only [Bool.and_eq_true] at h4
      exact fi_enum (tup_out h2) C.kw (C.gl h1) (C.bn (by decide)) (noStar_plain h4.1.1) (soundE c C h4.1.2)
    · cases h
  | .enum .nil, tq, sc, st, X, W, t, e, C, h => by
    unfold matI at h
    split at h
    · simp only [Bool.and_eq_true] at h
      have h4 := h.2
      unfold matEs at h4
      cases h4
    · cases h
  | .enum (.cons c (.cons d cs)), tq, sc, st, X, W, t, e, C, h => by
    unfold matI at h
    split at h
    · simp only [Bool.and_eq_true] at h
      have h4 := h.2
      unfold matEs at h4
      simp only [Bool.and_eq_true] at h4
      have h5 := h4.2
      unfold matEs at h5
      cases h5
    · cases h
  | .zip es, tq, sc, st, X, W, t, e, C, h => by
    unfold matI at h
    split at h
    · simp only [Bool.and_eq_true, decide_eq_true_eq] at h
      obtain ⟨⟨⟨⟨rfl, h1⟩, h2⟩, h3⟩, h4⟩ := h
      obtain ⟨es', k, p, rfl⟩ := tupE_out h3
      have hp := matEs_plain h4
      simp only [List.all_cons, Bool.and_eq_true] at hp
      exact fi_zip (tup_out h2) C.kw (C.gl h1) (C.bn (by decide)) hp.1 hp.2.1 (soundEs es C h4)
    · cases h
end
end
end E2

set_option Elab.async false
set_option linter.all false
set_option maxRecDepth 100000
set_option maxHeartbeats 8000000
namespace E2
variable [Tbs]
open PySem PySem.Spec PyProof.Rows L2
def pairTV (t : List Expr) (v : Expr) : Option (List Expr × List Expr) := match t, v with
    | [.Tuple ts _ _], .Tuple vs _ _ | [.List ts _], .Tuple vs _ _ => some (ts, vs)
    | _, _ => none
def namesTV (look : Str → Option NameKind) (ts : List Expr) : List Str := ts.filterMap fun
    | .Name id pos => if look id == some .local && pos.line == (ts.head?.map (·.pos.line)).getD 0 then some id else none
    | _ => none
def swS (sc : Scope) (t : List Expr) (v : Expr) : Option (Option (List Str)) :=
  match pairTV t v with
  | none => some none
  | some (ts, vs) =>
    if !(ts.length == 2 || ts.length == 3) || vs.length != ts.length then some none
    else if vs.any fun | .Starred .. => true | _ => false then some none
    else if (namesTV (fun x => sc.names.lookup x) ts).length != ts.length || (namesTV (fun x => sc.names.lookup x) ts).eraseDups.length != (namesTV (fun x => sc.names.lookup x) ts).length then some none
    else if vs.all (foldedForSure 8) then some none
    else if vs.all (constantsAlone 8) then none
    else some (some (namesTV (fun x => sc.names.lookup x) ts))
def swB (env : Env) : Option (List Expr × List Expr) → Sem (Option (List Str))
  | none => pure none
  | some (ts, vs) => if !(ts.length == 2 || ts.length == 3) || vs.length != ts.length || env.blockKind != .function then pure none
    else if vs.any fun | .Starred .. => true | _ => false then pure none
    else if (namesTV env.kindOf ts).length != ts.length || (namesTV env.kindOf ts).eraseDups.length != (namesTV env.kindOf ts).length then pure none
    else if vs.all (foldedForSure 8) then pure none
    else if vs.all (constantsAlone 8) then (do
      unsupported "assign.tuple-of-constant-expressions:order-of-the-stores"
      pure (some (namesTV env.kindOf ts)))
    else pure (some (namesTV env.kindOf ts))
theorem sw_eq {env : Env} {t : List Expr} {v : Expr} : swappedStores t v env = swB env (pairTV t v) := by
  have key : ∀ q : Option (List Expr × List Expr), (do
      let some (ts, vs) := q | return none
      if !(ts.length == 2 || ts.length == 3) || vs.length != ts.length || env.blockKind != .function then return none
      if vs.any fun | .Starred .. => true | _ => false then return none
      let line := (ts.head?.map (·.pos.line)).getD 0
      let names := ts.filterMap fun
        | .Name id pos => if env.kindOf id == some .local && pos.line == line then some id else none
        | _ => none
      if names.length != ts.length || names.eraseDups.length != names.length then return none
      if vs.all (foldedForSure 8) then return none
      if vs.all (constantsAlone 8) then unsupported "assign.tuple-of-constant-expressions:order-of-the-stores"
      return some names : Sem (Option (List Str))) = swB env q := by
    intro q
    cases q with
    | none => rfl
    | some p =>
      obtain ⟨ts, vs⟩ := p
      rfl
  exact key (pairTV t v)
theorem swS_out {env : Env} {sc : Scope} {t : List Expr} {v : Expr} {o : Option (List Str)} (hs : env.scope = sc) (hk : sc.kind = .function) (h : swS sc t v = some o) : swappedStores t v env = pure o := by
  have hb : env.blockKind = .function := by unfold Env.blockKind; rw [hs, hk]; rfl
  have hn : env.kindOf = fun x => sc.names.lookup x := by funext x; unfold Env.kindOf; rw [hs]
  rw [sw_eq]
  unfold swS at h
  cases e : pairTV t v with
  | none => rw [e] at h; cases h; rfl
  | some p =>
    obtain ⟨ts, vs⟩ := p
    rw [e] at h
    simp only at h
    unfold swB
    rw [hn, hb]
    simp only [bne_self_eq_false, Bool.or_false]
    split at h
    · rename_i c; cases h; rw [if_pos c]
    · rename_i c
      rw [if_neg c]
      split at h
      · rename_i c; cases h; rw [if_pos c]
      · rename_i c
        rw [if_neg c]
        split at h
        · rename_i c; cases h; rw [if_pos c]
        · rename_i c
          rw [if_neg c]
          split at h
          · rename_i c; cases h; rw [if_pos c]
          · rename_i c
            rw [if_neg c]
            split at h
            · cases h
            · rename_i c; cases h; rw [if_neg c]

/-! ## statements -/
def noComp : Expr → Bool
  | .ListComp _ _ _ _ => false
  | .SetComp _ _ _ _ => false
  | .DictComp _ _ _ _ _ => false
  | _ => true
theorem noComp_sw {e : Expr} (h : noComp e = true) {t : Option Expr} {l : Nat} {env : Env} : swapsWith e t l env = pure false := by
  cases e <;> first | rfl | cases h
/-- a comprehension on the line of its name -/
def swL (sc : Scope) (x : Str) (px : Pos) (scope : Scope) (pos : Pos) : Bool := decide (sc.names.lookup x = some .local) && (px.line == pos.line) && !(scope.names.any fun (n, k) => n == x && (k == .local || k == .cell))
theorem swL_true {sc : Scope} {x : Str} {px pos : Pos} {scope : Scope} {elt : Expr} {gs : List Comprehension} {l : Nat} {env : Env} (hs : env.scope = sc) (hk : sc.kind = .function) (h : swL sc x px scope pos = true) : swapsWith (.ListComp elt gs scope pos) (some (.Name x px)) l env = pure true ∧ env.scope.names.lookup x = some .local := by
  unfold swL at h
  simp only [Bool.and_eq_true, decide_eq_true_eq, Bool.not_eq_true'] at h
  exact ⟨sw_true (by rw [hs]; exact hk) (by rw [hs]; exact h.1.1) h.1.2 h.2, by rw [hs]; exact h.1.1⟩
theorem swL_false {sc : Scope} {x : Str} {px pos : Pos} {scope : Scope} {elt : Expr} {gs : List Comprehension} {l : Nat} {env : Env} (hs : env.scope = sc) (hk : sc.kind = .function) (h : swL sc x px scope pos = false) : swapsWith (.ListComp elt gs scope pos) (some (.Name x px)) l env = pure false := by
  have hb : env.blockKind = .function := by unfold Env.blockKind; rw [hs, hk]; rfl
  have hn : env.kindOf x = sc.names.lookup x := by unfold Env.kindOf; rw [hs]
  unfold swL at h
  have e : swapsWith (.ListComp elt gs scope pos) (some (.Name x px)) l env = pure (env.blockKind == .function && env.kindOf x == some .local && px.line == pos.line && !(scope.names.any fun (n, k) => n == x && (k == .local || k == .cell))) := rfl
  rw [e, hb, hn]
  congr 1
  rw [← h]
  simp only [beq_self_eq_true, Bool.true_and]
  congr 1
  congr 1
  rw [beq_eq_decide']
section
variable (S : Sm)
mutual
def matX (st : Str → Bool) : TX → Scope → Expr → Bool
  | .nm i, _, e => match e with
    | .Name x _ => decide (S.N[i]? = some x) && st x && !(S.nr.contains i)
    | _ => false
  | .sub i ix, sc, e => match e with
    | .Subscript (.Name x _) y _ => decide (S.N[i]? = some x) && visB sc x && okN x && noSlice y && matE S ix sc y
    | _ => false
  | .tup ts, sc, e => match e with
    | .Tuple es _ _ => matXs st ts sc es
    | _ => false
def matXs (st : Str → Bool) : TXs → Scope → List Expr → Bool
  | .nil, _, es => match es with
    | [] => true
    | _ => false
  | .cons t ts, sc, es => match es with
    | e :: es => noStar e && matX st t sc e && matXs st ts sc es
    | [] => false
end
def augOp : Operator → Operator → Bool
  | .Add, .Add => true
  | .Sub, .Sub => true
  | _, _ => false
def coldE : CE → Scope → Expr → Bool
  | .var i, sc, e => matE S (.var i) sc e
  | .cst d, sc, e => matE S (.cst d) sc e
  | _, _, _ => false
def coldT : CT → Scope → Expr → Bool
  | .ex (.cmp op a b), sc, e => match e with
    | .Compare x [op'] [y] _ => decide (op = op') && !(behindInMarks op y) && coldE S a sc x && coldE S b sc y
    | _ => false
  | _, _, _ => false
mutual
def coldS : CS → Scope → Stmt → Bool
  | .ret e, sc, s => match s with
    | .Return (some x) _ => coldE S e sc x
    | _ => false
  | .retN, _, s => match s with
    | .Return none _ => true
    | _ => false
  | .pass, _, s => match s with
    | .Pass _ => true
    | _ => false
  | .brk, _, s => match s with
    | .Break _ => true
    | _ => false
  | .cont, _, s => match s with
    | .Continue _ => true
    | _ => false
  | .ite t a b, sc, s => match s with
    | .If c x y _ => coldT S t sc c && coldSs a sc x && coldSs b sc y
    | _ => false
  | _, _, _ => false
def coldSs : CSs → Scope → List Stmt → Bool
  | .nil, _, ss => match ss with
    | [] => true
    | _ => false
  | .cons s ss, sc, l => match l with
    | x :: xs => coldS s sc x && coldSs ss sc xs
    | [] => false
end
mutual
def matS (st : Str → Bool) : CS → Scope → Stmt → Bool
  | .ret e, sc, s => match s with
    | .Return (some x) _ => matE S e sc x
    | _ => false
  | .retN, _, s => match s with
    | .Return none _ => true
    | _ => false
  | .ex c, sc, s => match s with
    | .Expr x _ => noComp x && matE S c sc x
    | _ => false
  | .set i c, sc, s => match s with
    | .Assign [.Name x px] e _ => decide (S.N[i]? = some x) && st x && !(S.nr.contains i) && matE S c sc e && (match e with
      | .ListComp _ _ scope pos => !(swL sc x px scope pos) || (match c with
        | .lc _ _ _ _ _ => true
        | .lc2 _ _ _ _ _ _ _ _ _ => true
        | _ => false)
      | e => noComp e)
    | _ => false
  | .par is es, sc, s => match s with
    | .Assign [.Tuple [.Name x px, .Name y py] kt pt] (.Tuple [a, b] k2 pt2) _ => match is with
      | [i, j] => decide (S.N[i]? = some x) && decide (S.N[j]? = some y) && decide (i ≠ j) && !(S.nr.contains i) && !(S.nr.contains j) && decide (sc.names.lookup x = some .local) && decide (sc.names.lookup y = some .local) && matEs S es sc [a, b] && decide (swS sc [.Tuple [.Name x px, .Name y py] kt pt] (.Tuple [a, b] k2 pt2) = some (some [x, y]))
      | _ => false
    | .Assign [.Tuple [.Name x px, .Name y py, .Name z pz] kt pt] (.Tuple [a, b, c] k2 pt2) _ => match is with
      | [i, j, l] => decide (S.N[i]? = some x) && decide (S.N[j]? = some y) && decide (S.N[l]? = some z) && decide (i ≠ j) && decide (i ≠ l) && decide (j ≠ l) && !(S.nr.contains i) && !(S.nr.contains j) && !(S.nr.contains l) && decide (sc.names.lookup x = some .local) && decide (sc.names.lookup y = some .local) && decide (sc.names.lookup z = some .local) && matEs S es sc [a, b, c] && decide (swS sc [.Tuple [.Name x px, .Name y py, .Name z pz] kt pt] (.Tuple [a, b, c] k2 pt2) = some (some [x, y, z]))
      | _ => false
    | _ => false
  | .asg t c, sc, s => match s with
    | .Assign [tge] e _ => noStar tge && noComp e && matX S st t sc tge && matE S c sc e && decide (swS sc [tge] e = some none)
    | _ => false
  | .unk, _, _ => true
  | .aug i op c, sc, s => match s with
    | .AugAssign (.Name x _) o e _ => decide (S.N[i]? = some x) && st x && !(S.nr.contains i) && augOp op o && matE S c sc e
    | _ => false
  | .augi i ix op c, sc, s => match s with
    | .AugAssign (.Subscript (.Name x _) y _) o e _ => decide (S.N[i]? = some x) && visB sc x && okN x && noSlice y && augOp op o && matE S ix sc y && matE S c sc e
    | _ => false
  | .ite t a b, sc, s => match s with
    | .If c x y _ => matT S t sc c && matSs st a sc x && matSs st b sc y
    | _ => false
  | .whl t b, sc, s => match s with
    | .While c x [] _ => matT S t sc c && matSs st b sc x
    | _ => false
  | .for tg it b, sc, s => match s with
    | .For t i x [] _ => noSet i && disj (tgS tg) S.nr && matI S it tg sc t i && matG S st tg t && matSs st b sc x
    | _ => false
  | .pass, _, s => match s with
    | .Pass _ => true
    | _ => false
  | .brk, _, s => match s with
    | .Break _ => true
    | _ => false
  | .cont, _, s => match s with
    | .Continue _ => true
    | _ => false
  | .rais c es, sc, s => match s with
    | .Raise (some (.Call (.Name x _) [.Constant (.str m) _ _] [] _)) none _ => decide (S.enm[c]? = some x) && glB sc x && okN x && (match es with
      | .cons (.cst (.str m')) .nil => decide (m = m')
      | _ => false)
    | _ => false
  | .try_ b hs, sc, s => match s with
    | .Try x (h :: hds) [] [] _ => matSs st b sc x && matH hs sc (h :: hds)
    | _ => false
def matSs (st : Str → Bool) : CSs → Scope → List Stmt → Bool
  | .nil, _, ss => match ss with
    | [] => true
    | _ => false
  | .cons s ss, sc, l => match l with
    | x :: xs => matS st s sc x && matSs st ss sc xs
    | [] => false
def matH : Hds → Scope → List ExceptHandler → Bool
  | .nil, _, hs => match hs with
    | [] => true
    | _ => false
  | .cons c as_ b hs, sc, l => match l with
    | .ExceptHandler (some (.Name x _)) none (b₀ :: suite) _ :: hds => decide (S.enm[c]? = some x) && glB sc x && okN x && coldSs S b sc (b₀ :: suite) && matH hs sc hds
    | _ => false
end
end
end E2

set_option Elab.async false
set_option linter.all false
set_option maxRecDepth 100000
set_option maxHeartbeats 8000000
namespace E2
variable [Tbs]
open PySem PySem.Spec PyProof.Rows L2
/-- what statements lean on besides -/
structure StOk (S : Sm) (K : Kw) (Fa Ca : Nat → Addr) (pr : List (Nat × Addr)) (G : Gs) (kr : Nat) (mg : Str → Option Value) (sc : Scope) (st : Str → Bool) (X : Cx) (W : WX) : Prop where
  c : CtxOk S K Fa Ca pr G kr mg sc st X W
  po : PassesOwn (model X.prog X.w) X.A X.env X.xe
  stk : X.stack = X.env :: X.outer
  frm : X.env.frame = some X.env.locals
  ex : ∀ c nm, S.enm[c]? = some nm → mg nm = some (.ref (Ca c)) ∧ G.exf c = some [] ∧ ∃ B newId initId bmB, ExcBaseFacts B newId initId bmB ∧ PySem.W.excIn X.K (Ca c) bmB newId = true ∧ PySem.W.keepIn X.K (.ref (Ca c)) = true ∧ Raises X (.ref (Ca c))
  sub : ∀ a b k, G.sub a b = some k → PySem.W.exmOne X.K (.ref (Ca a)) (.ref (Ca b)) = some k
section
variable {S : Sm} {K : Kw} {Fa Ca : Nat → Addr} {pr : List (Nat × Addr)} {G : Gs} {kr : Nat} {mg : Str → Option Value} {refs : List Addr} {N0 : NS} {H0 : Hp}
/-- the suite of a try -/
theorem StOk.tr {sc : Scope} {st : Str → Bool} {X : Cx} {W W' : WX} (C : StOk S K Fa Ca pr G kr mg sc st X W) {pn : List (Addr × Obj)} {xe : Value → Shared → Prop} (tk : Takes (X.tr pn xe) W') (po : PassesOwn (model X.prog X.w) X.A X.env xe) : StOk S K Fa Ca pr G kr mg sc st (X.tr pn xe) W' where
  c := ⟨C.c.kw, C.c.nn, C.c.nd, C.c.calm, C.c.room, C.c.scp, C.c.kind, C.c.mgq, tk, C.c.stq, fun k nm e => by
    obtain ⟨h1, fd, ps, F⟩ := C.c.fd k nm e
    exact ⟨h1, fd, ps, ⟨F.ok, F.keep, F.binds, F.np⟩⟩, C.c.sg, C.c.gc, C.c.bl, C.c.npr⟩
  po := po
  stk := C.stk
  frm := C.frm
  ex := C.ex
  sub := C.sub
theorem npr_of {sc : Scope} {st : Str → Bool} {X : Cx} {W : WX} (C : CtxOk S K Fa Ca pr G kr mg sc st X W) {i : Nat} (h : S.nr.contains i = false) : NoPr pr i := C.npr i fun z => by simp [z] at h
theorem asg_sub {o e : Expr} {pos : Pos} {env : Env} (h : noSlice e = true) : ∀ v, assign (.Subscript o e pos) env v = (do
      let ov ← holding [v] (eval o env)
      let iv ← holding [v, ov] (eval e env)
      standAt pos
      holding [v, ov, iv] (setItem ov iv v)
      release [v, ov, iv] []) := by
  intro v
  cases e <;> first | rfl | cases h
theorem augOp_out {a b : Operator} (h : augOp a b = true) : (a = .Add ∧ b = .Add) ∨ (a = .Sub ∧ b = .Sub) := by
  cases a <;> cases b <;> first | exact .inl ⟨rfl, rfl⟩ | exact .inr ⟨rfl, rfl⟩ | cases h
mutual
theorem soundX {sc : Scope} {st : Str → Bool} {X : Cx} {W : WX} (C : CtxOk S K Fa Ca pr G kr mg sc st X W) : ∀ (t : TX) {e : Expr}, matX S st t sc e = true → PG X e (gX K Fa Ca pr W refs N0 H0 (evX G t))
  | .nm i, e, h => by
    unfold matX at h
    split at h
    · simp only [Bool.and_eq_true, decide_eq_true_eq, Bool.not_eq_true'] at h
      obtain ⟨h1, h2⟩ := C.stq _ h.1.2
      exact fx_nm (npr_of C h.2) (by rw [C.nn]; exact C.nd) (nn_at C h.1.1) (by rw [C.scp]; exact h1) (by rw [C.scp]; exact h2)
    · cases h
  | .sub i ix, e, h => by
    unfold matX at h
    split at h
    · simp only [Bool.and_eq_true, decide_eq_true_eq] at h
      obtain ⟨⟨⟨⟨h1, h2⟩, h3⟩, h4⟩, h5⟩ := h
      obtain ⟨q3, q4⟩ := okN_out h3
      exact fx_sub C.kw C.un (nn_at C h1) (C.vis h2) q3 q4 (soundE ix C h5) (asg_sub h4)
    · cases h
  | .tup ts, e, h => by
    unfold matX at h
    split at h
    · obtain ⟨h1, h2, h3, h4⟩ := soundXs C ts h
      exact fx_tup C.kw C.calm h1 h4 h2 h3
    · cases h
theorem soundXs {sc : Scope} {st : Str → Bool} {X : Cx} {W : WX} (C : CtxOk S K Fa Ca pr G kr mg sc st X W) : ∀ (ts : TXs) {es : List Expr}, matXs S st ts sc es = true → PGs X es (gXs K Fa Ca pr W refs N0 H0 (evXs G ts)) ∧ (assignEach es X.env).length = es.length ∧ (assignEach es X.env).findIdx? (·.1) = none ∧ lenTX ts = es.length
  | .nil, es, h => by
    unfold matXs at h
    split at h
    · exact ⟨fx_nil, rfl, rfl, rfl⟩
    · cases h
  | .cons t ts, es, h => by
    unfold matXs at h
    split at h
    · rename_i e es
      simp only [Bool.and_eq_true] at h
      obtain ⟨h1, h2, h3, h4⟩ := soundXs C ts h.2
      have e1 := asg_cons (es := es) (env := X.env) h.1.1
      refine ⟨fx_cons (soundX C t h.1.2) h1 (by rw [e1]; rfl), by rw [e1]; exact congrArg (· + 1) h2, ?_, congrArg (· + 1) h4⟩
      rw [e1, List.findIdx?_cons]
      simp [h3]
    · cases h
end
/-! ### the suite of an except clause -/
theorem cold_e {sc : Scope} {st : Str → Bool} {X : Cx} {W W' : WX} (C : CtxOk S K Fa Ca pr G kr mg sc st X W) {c : CE} {e : Expr} {a : Addr} {pn : List (Addr × Obj)} (h : coldE S c sc e = true) : PE (X.suite a pn) e (tE K Fa Ca pr W' (evE G c)) := by
  unfold coldE at h
  split at h
  · unfold matE at h
    split at h
    · simp only [Bool.and_eq_true, decide_eq_true_eq] at h
      obtain ⟨h3, h4⟩ := okN_out h.2
      exact fe_var (X := X.suite a pn) (show X.N[_]? = _ from nn_at C h.1.1) (C.vis h.1.2) h3 h4
    · cases h
  · unfold matE at h
    split at h
    · exact fe_cst (cstB_rel h)
    · cases h
  · cases h
theorem cold_t {sc : Scope} {st : Str → Bool} {X : Cx} {W W' : WX} (C : CtxOk S K Fa Ca pr G kr mg sc st X W) {c : CT} {e : Expr} {a : Addr} {pn : List (Addr × Obj)} (h : coldT S c sc e = true) : PT (X.suite a pn) e (tB K Fa Ca pr W' (evT G c)) := by
  unfold coldT at h
  split at h
  · split at h
    · simp only [Bool.and_eq_true, decide_eq_true_eq, Bool.not_eq_true'] at h
      rw [← h.1.1.1]
      exact ft_cmp (X := X.suite a pn) C.kw C.un h.1.1.2 (cold_e C h.1.2) (cold_e C h.2)
    · cases h
  · cases h
mutual
theorem cold_s : ∀ (c : CS) {sc : Scope} {st : Str → Bool} {X : Cx} {W W' : WX} {a : Addr} {pn : List (Addr × Obj)} {s : Stmt}, CtxOk S K Fa Ca pr G kr mg sc st X W → coldS S c sc s = true → PS (X.suite a pn) s (tS K Fa Ca pr W' refs N0 H0 (evS G c))
  | .ret e, sc, st, X, W, W', a, pn, s, C, h => by
    unfold coldS at h
    split at h
    · exact fs_ret (cold_e C h)
    · cases h
  | .retN, sc, st, X, W, W', a, pn, s, C, h => by
    unfold coldS at h
    split at h
    · exact fs_retN
    · cases h
  | .pass, sc, st, X, W, W', a, pn, s, C, h => by
    unfold coldS at h
    split at h
    · exact fs_pass
    · cases h
  | .brk, sc, st, X, W, W', a, pn, s, C, h => by
    unfold coldS at h
    split at h
    · exact fs_brk
    · cases h
  | .cont, sc, st, X, W, W', a, pn, s, C, h => by
    unfold coldS at h
    split at h
    · exact fs_cont
    · cases h
  | .ite t x y, sc, st, X, W, W', a, pn, s, C, h => by
    unfold coldS at h
    split at h
    · simp only [Bool.and_eq_true] at h
      exact fs_ite (cold_t C h.1.1) (cold_ss x C h.1.2) (cold_ss y C h.2)
    · cases h
  | .ex _, sc, st, X, W, W', a, pn, s, C, h => by simp [coldS] at h
  | .set _ _, sc, st, X, W, W', a, pn, s, C, h => by simp [coldS] at h
  | .par _ _, sc, st, X, W, W', a, pn, s, C, h => by simp [coldS] at h
  | .asg _ _, sc, st, X, W, W', a, pn, s, C, h => by simp [coldS] at h
  | .unk, sc, st, X, W, W', a, pn, s, C, h => by simp [coldS] at h
  | .aug _ _ _, sc, st, X, W, W', a, pn, s, C, h => by simp [coldS] at h
  | .augi _ _ _ _, sc, st, X, W, W', a, pn, s, C, h => by simp [coldS] at h
  | .whl _ _, sc, st, X, W, W', a, pn, s, C, h => by simp [coldS] at h
  | .for _ _ _, sc, st, X, W, W', a, pn, s, C, h => by simp [coldS] at h
  | .rais _ _, sc, st, X, W, W', a, pn, s, C, h => by simp [coldS] at h
  | .try_ _ _, sc, st, X, W, W', a, pn, s, C, h => by simp [coldS] at h
theorem cold_ss : ∀ (c : CSs) {sc : Scope} {st : Str → Bool} {X : Cx} {W W' : WX} {a : Addr} {pn : List (Addr × Obj)} {s : List Stmt}, CtxOk S K Fa Ca pr G kr mg sc st X W → coldSs S c sc s = true → PSs (X.suite a pn) s (tS K Fa Ca pr W' refs N0 H0 (evSs G c))
  | .nil, sc, st, X, W, W', a, pn, s, C, h => by
    unfold coldSs at h
    split at h
    · exact fs_nil
    · cases h
  | .cons c cs, sc, st, X, W, W', a, pn, s, C, h => by
    unfold coldSs at h
    split at h
    · simp only [Bool.and_eq_true] at h
      exact fs_cons (cold_s c C h.1) (cold_ss cs C h.2)
    · cases h
end
mutual
theorem soundS : ∀ (c : CS) {sc : Scope} {st : Str → Bool} {X : Cx} {W : WX} {s : Stmt}, StOk S K Fa Ca pr G kr mg sc st X W → matS S st c sc s = true → PS X s (tS K Fa Ca pr W refs N0 H0 (evS G c))
  | .ret e, sc, st, X, W, s, C, h => by
    unfold matS at h
    split at h
    · exact fs_ret (soundE e C.c h)
    · cases h
  | .retN, sc, st, X, W, s, C, h => by
    unfold matS at h
    split at h
    · exact fs_retN
    · cases h
  | .ex c, sc, st, X, W, s, C, h => by
    unfold matS at h
    split at h
    · simp only [Bool.and_eq_true] at h
      exact fs_ex (soundE c C.c h.2) (noComp_sw h.1)
    · cases h
  | .set i c, sc, st, X, W, s, C, h => by
    unfold matS at h
    split at h
    · rename_i x px e pos
      simp only [Bool.and_eq_true, decide_eq_true_eq, Bool.not_eq_true'] at h
      obtain ⟨⟨⟨⟨h1, h2⟩, h3⟩, h4⟩, h5⟩ := h
      obtain ⟨q1, q2⟩ := C.c.stq x h2
      have nd : X.N.Nodup := by rw [C.c.nn]; exact C.c.nd
      have plain : swapsWith e (some (.Name x px)) pos.line X.env = pure false → PS X (.Assign [.Name x px] e pos) (tS K Fa Ca pr W refs N0 H0 (evS G (.set i c))) := fun hsw =>
        fs_set (npr_of C.c h3) nd (nn_at C.c h1) (by rw [C.c.scp]; exact q1) (by rw [C.c.scp]; exact q2) hsw (soundE c C.c h4)
      split at h5
      · rename_i elt gs scope lp
        cases hsw : swL sc x px scope lp with
        | false => exact plain (swL_false C.c.scp C.c.kind hsw)
        | true =>
          rw [hsw] at h5
          obtain ⟨w1, w2⟩ := swL_true (elt := elt) (gs := gs) (l := pos.line) C.c.scp C.c.kind hsw
          simp only [Bool.not_true, Bool.false_or] at h5
          split at h5
          · rename_i own tg it cond ec
            unfold matE at h4
            split at h4
            · rename_i x' t i' ifs scope' p e4
              cases e4
              simp only [Bool.and_eq_true] at h4
              obtain ⟨⟨⟨⟨⟨⟨k1, k2⟩, k3⟩, k4⟩, k5⟩, k6⟩, k7⟩ := h4
              obtain ⟨y1, y2, y3⟩ := C.c.blkOk k1
              exact fs_setLc (npr_of C.c h3) C.c.calm nd (nn_at C.c h1) w2 w1 (soundI it C.c k4) y1 y2 (all_out k2) (fun s H c cl fp => soundG (C.c.blk y3 s H cl c fp) k5) (fun s H c cl fp => soundC cond (C.c.blk y3 s H cl c fp) k6) (fun s H c cl fp => soundE ec (C.c.blk y3 s H cl c fp) k7) (noSet_out k3)
            · cases h4
          · rename_i own vs1 tg it cond tg1 it1 cond1 ec
            unfold matE at h4
            split at h4
            · rename_i x' t i' ifs t1 i1 ifs1 scope' p e4
              cases e4
              simp only [Bool.and_eq_true] at h4
              obtain ⟨⟨⟨⟨⟨⟨⟨⟨⟨⟨⟨⟨k1, k2⟩, k2b⟩, k2c⟩, k3⟩, k3b⟩, k4⟩, k5⟩, k6⟩, k7⟩, k8⟩, k9⟩, k10⟩ := h4
              obtain ⟨y1, y2, y3⟩ := C.c.blkOk k1
              exact fs_setLc2 (npr_of C.c h3) C.c.calm nd (nn_at C.c h1) w2 w1 (soundI it C.c k4) y1 (all_out k2c) y2 (all_out k2) (all_out k2b) (fun s H c cl fp => soundG (C.c.blk y3 s H cl c fp) k5) (fun s H c cl fp => soundC cond (C.c.blk y3 s H cl c fp) k6) (fun s H c cl fp => soundI it1 (C.c.blk y3 s H cl c fp) k7)
                (fun s H c cl fp => soundG (C.c.blk y3 s H cl c fp) k8) (fun s H c cl fp => soundC cond1 (C.c.blk y3 s H cl c fp) k9) (fun s H c cl fp => soundE ec (C.c.blk y3 s H cl c fp) k10) (noSet_out k3) (fun env => noSet_out k3b)
            · cases h4
          · cases h5
      · exact plain (noComp_sw h5)
    · cases h
  | .par is es, sc, st, X, W, s, C, h => by
    have nd : X.N.Nodup := by rw [C.c.nn]; exact C.c.nd
    unfold matS at h
    split at h
    · split at h
      · simp only [Bool.and_eq_true, decide_eq_true_eq, Bool.not_eq_true'] at h
        obtain ⟨⟨⟨⟨⟨⟨⟨⟨h1, h2⟩, h3⟩, h4⟩, h5⟩, h6⟩, h7⟩, h8⟩, h9⟩ := h
        exact fs_par2 (fun k hk => by
          simp only [List.mem_cons, List.not_mem_nil, or_false] at hk
          rcases hk with rfl | rfl
          · exact npr_of C.c h4
          · exact npr_of C.c h5) C.c.calm nd (nn_at C.c h1) (nn_at C.c h2) h3 (by rw [C.c.scp]; exact h6) (by rw [C.c.scp]; exact h7) (soundEs es C.c h8) (swS_out C.c.scp C.c.kind h9)
      · cases h
    · split at h
      · simp only [Bool.and_eq_true, decide_eq_true_eq, Bool.not_eq_true'] at h
        obtain ⟨⟨⟨⟨⟨⟨⟨⟨⟨⟨⟨⟨⟨h1, h2⟩, h3⟩, h4⟩, h5⟩, h6⟩, h7⟩, h8⟩, h9⟩, h10⟩, h11⟩, h12⟩, h13⟩, h14⟩ := h
        exact fs_par3 (fun k hk => by
          simp only [List.mem_cons, List.not_mem_nil, or_false] at hk
          rcases hk with rfl | rfl | rfl
          · exact npr_of C.c h7
          · exact npr_of C.c h8
          · exact npr_of C.c h9) C.c.calm nd (nn_at C.c h1) (nn_at C.c h2) (nn_at C.c h3) h4 h5 h6 (by rw [C.c.scp]; exact h10) (by rw [C.c.scp]; exact h11) (by rw [C.c.scp]; exact h12) (soundEs es C.c h13) (swS_out C.c.scp C.c.kind h14)
      · cases h
    · cases h
  | .asg t c, sc, st, X, W, s, C, h => by
    unfold matS at h
    split at h
    · simp only [Bool.and_eq_true, decide_eq_true_eq] at h
      obtain ⟨⟨⟨⟨h1, h2⟩, h3⟩, h4⟩, h5⟩ := h
      exact fs_asg (soundE c C.c h4) (soundX C.c t h3) (noComp_sw h2) (swS_out C.c.scp C.c.kind h5) (by rw [asg_cons h1]; rfl)
    · cases h
  | .unk, sc, st, X, W, s, C, h => ⟨fun pins s σ H D I q => by
    obtain ⟨r, N, _, z⟩ := q
    simp only [evS] at z
    exact z.elim⟩
  | .aug i op c, sc, st, X, W, s, C, h => by
    unfold matS at h
    split at h
    · simp only [Bool.and_eq_true, decide_eq_true_eq, Bool.not_eq_true'] at h
      obtain ⟨⟨⟨⟨h1, h2⟩, h3⟩, h4⟩, h5⟩ := h
      obtain ⟨q1, q2⟩ := C.c.stq _ h2
      have nd : X.N.Nodup := by rw [C.c.nn]; exact C.c.nd
      rcases augOp_out h4 with ⟨rfl, rfl⟩ | ⟨rfl, rfl⟩
      · exact fs_aug ip_add (fun _ _ => rfl) (npr_of C.c h3) nd (nn_at C.c h1) (by rw [C.c.scp]; exact q1) (by rw [C.c.scp]; exact q2) (soundE c C.c h5)
      · exact fs_aug ip_sub (fun _ _ => rfl) (npr_of C.c h3) nd (nn_at C.c h1) (by rw [C.c.scp]; exact q1) (by rw [C.c.scp]; exact q2) (soundE c C.c h5)
    · cases h
  | .augi i ix op c, sc, st, X, W, s, C, h => by
    unfold matS at h
    split at h
    · simp only [Bool.and_eq_true, decide_eq_true_eq] at h
      obtain ⟨⟨⟨⟨⟨⟨h1, h2⟩, h3⟩, h4⟩, h5⟩, h6⟩, h7⟩ := h
      obtain ⟨q3, q4⟩ := okN_out h3
      rcases augOp_out h5 with ⟨rfl, rfl⟩ | ⟨rfl, rfl⟩
      · exact fs_augi ip_add (fun _ _ => rfl) C.c.kw C.c.un (nn_at C.c h1) (C.c.vis h2) q3 q4 h4 (soundE ix C.c h6) (soundE c C.c h7)
      · exact fs_augi ip_sub (fun _ _ => rfl) C.c.kw C.c.un (nn_at C.c h1) (C.c.vis h2) q3 q4 h4 (soundE ix C.c h6) (soundE c C.c h7)
    · cases h
  | .ite t a b, sc, st, X, W, s, C, h => by
    unfold matS at h
    split at h
    · simp only [Bool.and_eq_true] at h
      exact fs_ite (soundT t C.c h.1.1).1 (soundSs a C h.1.2) (soundSs b C h.2)
    · cases h
  | .whl t b, sc, st, X, W, s, C, h => by
    unfold matS at h
    split at h
    · simp only [Bool.and_eq_true] at h
      exact fs_whl C.po (soundT t C.c h.1).1 (soundSs b C h.2)
    · cases h
  | .for tg it b, sc, st, X, W, s, C, h => by
    unfold matS at h
    split at h
    · simp only [Bool.and_eq_true] at h
      obtain ⟨⟨⟨⟨h1, h2⟩, h3⟩, h4⟩, h5⟩ := h
      exact fs_for C.po C.c.calm (fun j hj => C.c.npr j (disj_out h2 j hj)) (soundI it C.c h3) (soundG C.c h4) (soundSs b C h5) (noSet_out h1)
    · cases h
  | .pass, sc, st, X, W, s, C, h => by
    unfold matS at h
    split at h
    · exact fs_pass
    · cases h
  | .brk, sc, st, X, W, s, C, h => by
    unfold matS at h
    split at h
    · exact fs_brk
    · cases h
  | .cont, sc, st, X, W, s, C, h => by
    unfold matS at h
    split at h
    · exact fs_cont
    · cases h
  | .rais c es, sc, st, X, W, s, C, h => by
    unfold matS at h
    split at h
    · simp only [Bool.and_eq_true, decide_eq_true_eq] at h
      obtain ⟨⟨⟨h1, h2⟩, h3⟩, h4⟩ := h
      split at h4
      · have h4 := of_decide_eq_true h4
        subst h4
        obtain ⟨q1, q2, B, n1, n2, bm, q3, q4, q5, q6⟩ := C.ex _ _ h1
        exact fs_raise C.c.calm C.c.tk q2 q3 q4 (by rw [C.c.mgq]; exact q1) q5 q6 (C.c.gl h2) (okN_out h3).1
      · cases h4
    · cases h
  | .try_ b hs, sc, st, X, W, s, C, h => by
    unfold matS at h
    split at h
    · simp only [Bool.and_eq_true] at h
      exact fs_try C.stk C.frm C.c.tk C.sub (fun W' pn xe tk po => soundSs b (C.tr tk po) h.1) (soundH hs C h.2)
    · cases h
theorem soundSs : ∀ (c : CSs) {sc : Scope} {st : Str → Bool} {X : Cx} {W : WX} {s : List Stmt}, StOk S K Fa Ca pr G kr mg sc st X W → matSs S st c sc s = true → PSs X s (tS K Fa Ca pr W refs N0 H0 (evSs G c))
  | .nil, sc, st, X, W, s, C, h => by
    unfold matSs at h
    split at h
    · exact fs_nil
    · cases h
  | .cons c cs, sc, st, X, W, s, C, h => by
    unfold matSs at h
    split at h
    · simp only [Bool.and_eq_true] at h
      exact fs_cons (soundS c C h.1) (soundSs cs C h.2)
    · cases h
theorem soundH : ∀ (hs : Hds) {sc : Scope} {st : Str → Bool} {X : Cx} {W : WX} {l : List ExceptHandler}, StOk S K Fa Ca pr G kr mg sc st X W → matH S hs sc l = true → HdsOk X l (hdL K Fa Ca pr refs N0 H0 G hs)
  | .nil, sc, st, X, W, l, C, h => by
    unfold matH at h
    split at h
    · exact .nil
    · cases h
  | .cons c as_ b hs, sc, st, X, W, l, C, h => by
    unfold matH at h
    split at h
    · simp only [Bool.and_eq_true, decide_eq_true_eq] at h
      obtain ⟨⟨⟨⟨h1, h2⟩, h3⟩, h4⟩, h5⟩ := h
      obtain ⟨q1, _⟩ := C.ex _ _ h1
      exact .cons ⟨C.c.gl h2, (okN_out h3).1, .inl (by rw [C.c.mgq]; exact q1)⟩ (fun a oe cls d pn _ _ => cold_ss b C.c h4) (soundH hs C h5)
    · cases h
end
end
end E2

set_option Elab.async false
set_option linter.all false
set_option maxRecDepth 100000
set_option maxHeartbeats 4000000
namespace E2
variable [Tbs]
open PySem PySem.Spec PyProof.Rows L2
/-! ## defs -/
def prs : Nat → List V → List Ag → List (Nat × Addr)
  | i, .ref a :: vs, .rf _ :: xs => (i, a) :: prs (i + 1) vs xs
  | i, _ :: vs, _ :: xs => prs (i + 1) vs xs
  | _, _, _ => []
section
variable {K : Kw} {Fa Ca : Nat → Addr} {N N' : NS} {H H' : Hp} {r : En} {σ : L2.St} {pr : List (Nat × Addr)}
theorem prs_snd : ∀ {vs : List V} {ags : List Ag} (i : Nat), (prs i vs ags).map (·.2) = refAd vs ags
  | [], [], _ => rfl
  | [], _ :: _, _ => rfl
  | _ :: _, [], _ => by simp [prs, refAd]
  | v :: vs, x :: xs, i => by
    have ih := prs_snd (vs := vs) (ags := xs) (i + 1)
    cases x <;> cases v <;> simp only [prs, refAd, List.map_cons, ih]
theorem prs_fst : ∀ {sig : List Bool} {vs : List V} {ags : List Ag} (i : Nat), AgsR K Fa N H vs ags → okSig sig ags = true → (prs i vs ags).map (·.1) = refSlots i sig
  | [], [], [], _, _, _ => rfl
  | [], _ :: _, [], _, h, _ => h.elim
  | true :: bs, v :: vs, .rf d :: xs, i, h, o => by
    obtain ⟨a, rfl, _⟩ := h.1
    simp only [prs, refSlots, List.map_cons, prs_fst (i + 1) h.2 o]
  | false :: bs, v :: vs, .val d :: xs, i, h, o => by
    have ih := prs_fst (i + 1) h.2 o
    cases v <;> simp only [prs, refSlots, ih]
  | false :: bs, v :: vs, .fn k :: xs, i, h, o => by
    have ih := prs_fst (i + 1) h.2 o
    cases v <;> simp only [prs, refSlots, ih]
  | _, [], _ :: _, _, h, _ => h.elim
  | [], _, _ :: _, _, _, o => by simp [okSig] at o
  | _ :: _, _, [], _, _, o => by simp [okSig] at o
  | true :: _, _ :: _, .val _ :: _, _, _, o => by simp [okSig] at o
  | true :: _, _ :: _, .fn _ :: _, _, _, o => by simp [okSig] at o
  | false :: _, _ :: _, .rf _ :: _, _, _, o => by simp [okSig] at o
theorem prs_at : ∀ {vs : List V} {ags : List Ag} (i : Nat), ∀ p ∈ prs i vs ags, ∃ j, p.1 = i + j ∧ vs[j]? = some (.ref p.2)
  | [], [], _, p, hp => by simp [prs] at hp
  | [], _ :: _, _, p, hp => by simp [prs] at hp
  | _ :: _, [], _, p, hp => by simp [prs] at hp
  | v :: vs, x :: xs, i, p, hp => by
    have rest : p ∈ prs (i + 1) vs xs → ∃ j, p.1 = i + j ∧ (v :: vs)[j]? = some (.ref p.2) := fun hp => by
      obtain ⟨j, h1, h2⟩ := prs_at (i + 1) p hp
      exact ⟨j + 1, by omega, by simpa using h2⟩
    cases x with
    | rf d =>
      cases v with
      | ref a =>
        simp only [prs, List.mem_cons] at hp
        rcases hp with rfl | hp
        · exact ⟨0, rfl, rfl⟩
        · exact rest hp
      | _ => exact rest (by simpa only [prs] using hp)
    | val d => cases v <;> exact rest (by simpa only [prs] using hp)
    | fn k => cases v <;> exact rest (by simpa only [prs] using hp)
theorem startA_len : ∀ ags : List Ag, (startA ags).length = ags.length
  | [] => rfl
  | .val d :: r => congrArg (· + 1) (startA_len r)
  | .rf d :: r => congrArg (· + 1) (startA_len r)
  | .fn d :: r => congrArg (· + 1) (startA_len r)
theorem AgsR.len : ∀ {vs : List V} {ags : List Ag}, AgsR K Fa N H vs ags → vs.length = ags.length
  | [], [], _ => rfl
  | _ :: _, _ :: _, h => congrArg (· + 1) (AgsR.len h.2)
  | [], _ :: _, h => h.elim
  | _ :: _, [], h => h.elim
theorem startA_at : ∀ {vs : List V} {ags : List Ag} {j : Nat} {s : Sv}, AgsR K Fa N H vs ags → (startA ags)[j]? = some (some s) → ∃ v, vs[j]? = some v ∧ SvR K Fa N H v s ∧ ∀ d a, s = .dat true d → v = .ref a → a ∈ refAd vs ags
  | [], [], j, s, _, e => by simp [startA] at e
  | v :: vs, x :: xs, 0, s, h, e => by
    cases x with
    | val d =>
      simp only [startA, List.getElem?_cons_zero] at e
      cases e
      exact ⟨v, rfl, h.1, fun d a e => by cases e⟩
    | rf d =>
      simp only [startA, List.getElem?_cons_zero] at e
      cases e
      obtain ⟨a, rfl, h1, h2⟩ := h.1
      exact ⟨_, rfl, ⟨a, rfl, h1, h2⟩, fun d a' _ e => by cases e; exact List.mem_cons_self⟩
    | fn k =>
      simp only [startA, List.getElem?_cons_zero] at e
      cases e
      exact ⟨v, rfl, h.1, fun d a e => by cases e⟩
  | v :: vs, x :: xs, j + 1, s, h, e => by
    have e' : (startA xs)[j]? = some (some s) := by cases x <;> simpa [startA] using e
    obtain ⟨u, h1, h2, h3⟩ := startA_at h.2 e'
    refine ⟨u, by simpa using h1, h2, fun d a e1 e2 => ?_⟩
    have := h3 d a e1 e2
    unfold refAd
    split
    · rename_i q1 q2; cases q1; cases q2; exact List.mem_cons_of_mem _ this
    · rename_i q1 q2; cases q1; cases q2; exact this
    · rename_i q; exact (q v vs x xs rfl rfl).elim
  | [], _ :: _, _, _, h, _ => h.elim
  | _ :: _, [], _, _, h, _ => h.elim
theorem startA_inj : ∀ {vs : List V} {ags : List Ag} {i j : Nat} {d e : D} {a : Addr}, AgsR K Fa N H vs ags → (refAd vs ags).Nodup → (startA ags)[i]? = some (some (.dat true d)) → (startA ags)[j]? = some (some (.dat true e)) → vs[i]? = some (.ref a) → vs[j]? = some (.ref a) → i = j
  | [], [], i, j, d, e, a, _, _, h1, _, _, _ => by simp [startA] at h1
  | v :: vs, x :: xs, 0, 0, d, e, a, h, n, h1, h2, h3, h4 => rfl
  | v :: vs, x :: xs, 0, j + 1, d, e, a, h, n, h1, h2, h3, h4 => by
    cases x with
    | rf d' =>
      cases h3
      have e' : (startA xs)[j]? = some (some (.dat true e)) := by simpa [startA] using h2
      obtain ⟨u, k1, _, k3⟩ := startA_at h.2 e'
      have : u = .ref a := by
        have q : vs[j]? = some (.ref a) := by simpa using h4
        rw [q] at k1
        exact (Option.some.inj k1).symm
      exact absurd (k3 e a rfl this) (List.nodup_cons.mp (show (a :: refAd vs xs).Nodup from n)).1
    | val d' => simp only [startA, List.getElem?_cons_zero] at h1; cases h1
    | fn d' => simp only [startA, List.getElem?_cons_zero] at h1; cases h1
  | v :: vs, x :: xs, i + 1, 0, d, e, a, h, n, h1, h2, h3, h4 => by
    cases x with
    | rf d' =>
      cases h4
      have e' : (startA xs)[i]? = some (some (.dat true d)) := by simpa [startA] using h1
      obtain ⟨u, k1, _, k3⟩ := startA_at h.2 e'
      have : u = .ref a := by
        have q : vs[i]? = some (.ref a) := by simpa using h3
        rw [q] at k1
        exact (Option.some.inj k1).symm
      exact absurd (k3 d a rfl this) (List.nodup_cons.mp (show (a :: refAd vs xs).Nodup from n)).1
    | val d' => simp only [startA, List.getElem?_cons_zero] at h2; cases h2
    | fn d' => simp only [startA, List.getElem?_cons_zero] at h2; cases h2
  | v :: vs, x :: xs, i + 1, j + 1, d, e, a, h, n, h1, h2, h3, h4 => by
    have e1 : (startA xs)[i]? = some (some (.dat true d)) := by cases x <;> simpa [startA] using h1
    have e2 : (startA xs)[j]? = some (some (.dat true e)) := by cases x <;> simpa [startA] using h2
    have n' : (refAd vs xs).Nodup := by
      unfold refAd at n
      split at n
      · rename_i q1 q2; cases q1; cases q2; exact (List.nodup_cons.mp n).2
      · rename_i q1 q2; cases q1; cases q2; exact n
      · rename_i q; exact (q v vs x xs rfl rfl).elim
    exact congrArg (· + 1) (startA_inj h.2 n' e1 e2 (by simpa using h3) (by simpa using h4))
  | [], _ :: _, _, _, _, _, _, h, _, _, _, _, _ => h.elim
  | _ :: _, [], _, _, _, _, _, h, _, _, _, _, _ => h.elim
theorem refAd_N : ∀ {vs : List V} {ags : List Ag}, AgsR K Fa N H vs ags → ∀ a ∈ refAd vs ags, N a
  | [], [], _, a, ha => by simp [refAd] at ha
  | v :: vs, x :: xs, h, a, ha => by
    unfold refAd at ha
    split at ha
    · rename_i q1 q2
      cases q1
      cases q2
      rcases List.mem_cons.mp ha with rfl | ha
      · obtain ⟨b, h1, h2, _⟩ := h.1
        cases h1
        exact h2
      · exact refAd_N h.2 a ha
    · rename_i q1 q2
      cases q1
      cases q2
      exact refAd_N h.2 a ha
    · exact absurd ha (by simp)
  | [], _ :: _, h, _, _ => h.elim
  | _ :: _, [], h, _, _ => h.elim
theorem app_at {α : Type} {l : List α} {n : Nat} {x : α} {j : Nat} {y : α} (h : (l ++ List.replicate n x)[j]? = some y) : l[j]? = some y ∨ y = x := by
  rcases Nat.lt_or_ge j l.length with z | z
  · rw [List.getElem?_append_left z] at h
    exact .inl h
  · rw [List.getElem?_append_right z] at h
    have := List.mem_of_getElem? h
    exact .inr (List.eq_of_mem_replicate this)
/-- where a def's body starts -/
theorem start_ok {names : List Str} {vs : List V} {ags : List Ag} {n : Nat} (hn : n = names.length) (h : AgsR K Fa N H vs ags) (nd : (refAd vs ags).Nodup) (t : ∀ b, N b → Mut (H b)) (tb : TabO N H) : FrI K Fa (prs 0 vs ags) (refAd vs ags) N H (startA ags ++ List.replicate (n - ags.length) none) (L2.start names vs) N H := by
  have hl := h.len
  have sl : ∀ {j : Nat} {s : Sv}, (startA ags ++ List.replicate (n - ags.length) none)[j]? = some (some s) → (startA ags)[j]? = some (some s) := fun {j s} e => by
    rcases app_at e with z | z
    · exact z
    · cases z
  have sv : ∀ {j : Nat} {v : V}, vs[j]? = some v → (L2.start names vs)[j]? = some (some v) := fun {j v} e => by
    unfold L2.start
    rw [List.getElem?_append_left (by rw [List.length_map]; exact (List.getElem?_eq_some_iff.mp e).1), List.getElem?_map, e]
    rfl
  have vs' : ∀ {j : Nat} {v : V}, (L2.start names vs)[j]? = some (some v) → vs[j]? = some v := fun {j v} e => by
    unfold L2.start at e
    rcases app_at e with z | z
    · rw [List.getElem?_map] at z
      obtain ⟨u, h1, h2⟩ := Option.map_eq_some_iff.mp z
      cases h2
      exact h1
    · cases z
  refine ⟨⟨?_, fun j s e => ?_, fun i j d e a h1 h2 h3 h4 => startA_inj h nd (sl h1) (sl h2) (vs' h3) (vs' h4), t, fun p hp => ?_, tb⟩, ⟨fun _ _ e _ _ => e, fun h => h, fun _ h => .inl h, fun _ h _ => h, fun b hb => refAd_N h b hb, fun _ h => h⟩, fun b ⟨j, d, h1, h2⟩ => ?_, fun b hb => mutSome (t b hb)⟩
  · unfold L2.start
    rw [List.length_append, List.length_append, startA_len, List.length_map, List.length_replicate, List.length_replicate, hn, hl]
  · obtain ⟨v, h1, h2, _⟩ := startA_at h (sl e)
    exact ⟨v, sv h1, h2⟩
  · obtain ⟨j, h1, h2⟩ := prs_at 0 p hp
    rw [h1, Nat.zero_add]
    exact sv h2
  · obtain ⟨v, h3, _, h4⟩ := startA_at h (sl h1)
    have := vs' h2
    rw [h3] at this
    exact .inl (h4 d b rfl (Option.some.inj this))
theorem refsOf_ok (g : Good K Fa pr r σ N H) : ∀ {ps : List (Nat × Addr)} {ds : List D}, (∀ p ∈ ps, σ[p.1]? = some (some (.ref p.2))) → refsOf r (ps.map (·.1)) = some ds → RfsR K N H (ps.map (·.2)) ds ∧ ∀ p ∈ ps, own r σ p.2
  | [], ds, _, e => by
    simp only [List.map_nil, refsOf] at e
    cases e
    exact ⟨trivial, fun p hp => absurd hp (by simp)⟩
  | p :: ps, ds, h, e => by
    simp only [List.map_cons, refsOf] at e
    split at e
    · rename_i d ei
      obtain ⟨ds', e1, e2⟩ := Option.map_eq_some_iff.mp e
      subst e2
      obtain ⟨h1, h2⟩ := refsOf_ok g (fun q hq => h q (List.mem_cons_of_mem _ hq)) e1
      obtain ⟨v, h3, a, rfl, h4, h5⟩ := g.slot _ _ ei
      have h6 := h p List.mem_cons_self
      rw [h3] at h6
      cases h6
      refine ⟨⟨⟨h4, h5⟩, h1⟩, fun q hq => ?_⟩
      rcases List.mem_cons.mp hq with rfl | hq
      · exact ⟨_, d, ei, h3⟩
      · exact h2 q hq
    · cases e
end
end E2

set_option Elab.async false
set_option linter.all false
set_option maxRecDepth 100000
set_option maxHeartbeats 4000000
namespace E2
variable [Tbs]
open PySem PySem.Spec PyProof.Rows L2
/-- what is known of the module, whatever runs -/
structure ModOk (S : Sm) (P : Program) (w : World) (K : Kw) (mg : Str → Option Value) (base : Heap) (Fa Ca : Nat → Addr) (G : Gs) (k : Nat) : Prop where
  fd : ∀ i nm, S.fnm[i]? = some nm → mg nm = some (.ref (Fa i)) ∧ ∃ fd ps, FnOk P w K.fr mg base (L2.CX P w) k (Fa i) fd ps (spec K Fa Ca ps.length (G.call i)) ∧ PySem.W.keepIn K.fr (.ref (Fa i)) = true ∧ Binds K.fr fd ps [] ∧ (G.sig i).length = ps.length
  sg : ∀ i, G.sig i ≠ [] → ∃ nm, S.fnm[i]? = some nm
  gc : ∀ g nm, S.gnm[g]? = some nm → ∃ u w dd, mg nm = some u ∧ L2.RelV w u ∧ G.gcs g = some dd ∧ GcR K w dd
  bl : ∀ x, x ∈ bnames → mg x = none
  ex : ∀ c nm, S.enm[c]? = some nm → mg nm = some (.ref (Ca c)) ∧ G.exf c = some [] ∧ ∃ B newId initId bmB, ExcBaseFacts B newId initId bmB ∧ PySem.W.excIn K.fr (Ca c) bmB newId = true ∧ PySem.W.keepIn K.fr (.ref (Ca c)) = true ∧ PySem.W.subIn K.fr (.ref (Ca c)) (.type "BaseException") = some true ∧ PySem.W.typeIn K.fr (.ref (Ca c)) = some (.type "type")
  sub : ∀ a b k, G.sub a b = some k → PySem.W.exmOne K.fr (.ref (Ca a)) (.ref (Ca b)) = some k
section
variable {P : Program} {w : World} {K : Kw} {mg : Str → Option Value} {base : Heap} {Fa Ca : Nat → Addr} {G : Gs} {k : Nat}
theorem refs_at {r : En} : ∀ {ps : List (Nat × Addr)} {ds : List D}, refsOf r (ps.map (·.1)) = some ds → ∀ p ∈ ps, ∃ d, r[p.1]? = some (some (.dat true d))
  | [], _, _, p, hp => absurd hp (by simp)
  | q :: ps, ds, e, p, hp => by
    simp only [List.map_cons, refsOf] at e
    split at e
    · rename_i d ei
      obtain ⟨ds', e1, _⟩ := Option.map_eq_some_iff.mp e
      rcases List.mem_cons.mp hp with rfl | hp
      · exact ⟨d, ei⟩
      · exact refs_at e1 p hp
    · cases e
theorem fn_sound {f : Fn} {fa : Addr} {gn en : List Str} {fnm names ps : List Str} {name qual : Str} {params : Arguments} {body : List Stmt} {scope : Scope} {dV kV doc pm cdv ct oc : Value} {an od : Option Addr} {osl : Array (Option Value)} (hw : K.w = w)
    (M : ModOk ⟨names, refSlots 0 f.sig, fnm, gn, en⟩ P w K mg base Fa Ca G k) (lk : K.fr.lookup fa = some ⟨oc, od, .func (PySem.W.fnOf name qual params body scope dV kV doc pm an cdv ct), osl⟩) (hcd : PySem.W.codeIn K.fr cdv qual = true) (FS : FnScope names ps scope)
    (hn : f.n = names.length) (hm : matSs ⟨names, refSlots 0 f.sig, fnm, gn, en⟩ (stB scope) f.body scope body = true) :
    FnOk P w K.fr mg base (L2.CX P w) (k + 1) fa (PySem.W.fnOf name qual params body scope dV kV doc pm an cdv ct) ps (spec K Fa Ca ps.length (runF G f)) := by
  refine fn_of lk hcd FS (fun vs H Q E h => by obtain ⟨ags, N, h1, _⟩ := h; exact h1) fun A outer s H vs Q E room sp => ?_
  obtain ⟨ags, N, hl, hag, nd, trk, tb, post⟩ := sp
  obtain ⟨fr, kw⟩ : ∃ fr, K = ⟨fr, w⟩ := ⟨K.fr, by rw [← hw]⟩
  -- the pure run's own start
  have osg : okSig f.sig ags = true := by
    cases e : okSig f.sig ags with
    | true => rfl
    | false =>
      have e2 : runF G f ags = .stuck := by unfold runF; rw [e]; rfl
      rw [e2] at post
      exact post.elim
  have efs := prs_fst (i := 0) hag osg
  have esn := prs_snd (vs := vs) (ags := ags) 0
  have C : StOk ⟨names, refSlots 0 f.sig, fnm, gn, en⟩ K Fa Ca (prs 0 vs ags) G k mg scope (stB scope) (cxOf (L2.CX P w) P w K.fr mg base names qual scope fa cdv A outer s H E) (fun cls d _ H => E cls d H) := by
    refine ⟨⟨by rw [kw]; rfl, rfl, FS.nd, rfl, room, rfl, FS.kind, rfl, takes_of rfl rfl rfl rfl, fun x h => ?_, fun i nm e => ?_, M.sg, M.gc, M.bl, fun i hi p hp z => hi ?_⟩, passes_of rfl, rfl, rfl, fun c nm e => ?_, M.sub⟩
    · unfold stB at h
      split at h
      · rename_i e; exact ⟨.inl e, .inl rfl⟩
      · rename_i e; exact ⟨.inr e, .inl rfl⟩
      · cases h
    · obtain ⟨h1, fd, ps', h2, h3, h4, h5⟩ := M.fd i nm e
      exact ⟨h1, fd, ps', h2, h3, h4, h5⟩
    · show i ∈ refSlots 0 f.sig
      rw [← efs]
      exact List.mem_map.mpr ⟨p, hp, z⟩
    · obtain ⟨h1, h2, B, n1, n2, bm, h3, h4, h5, h6, h7⟩ := M.ex c nm e
      exact ⟨h1, h2, B, n1, n2, bm, h3, h4, h5, raises_own h6 h7⟩
  refine ⟨_, soundSs (refs := refAd vs ags) (N0 := N) (H0 := H) f.body C hm, startA ags ++ List.replicate (f.n - ags.length) none, N, start_ok hn hag nd trk tb, ?_⟩
  have fin : ∀ {r' : En} {σ' : L2.St} {N' : NS} {H' : Hp} {ds : List D}, FrI K Fa (prs 0 vs ags) (refAd vs ags) N H r' σ' N' H' → refsOf r' (refSlots 0 f.sig) = some ds → RfsR K N' H' (refAd vs ags) ds ∧ ∀ a ∈ refAd vs ags, own r' σ' a := fun {r' σ' N' H' ds} I e => by
    rw [← efs] at e
    obtain ⟨h1, h2⟩ := refsOf_ok I.g (fun p hp => I.g.prs p hp) e
    rw [esn] at h1
    refine ⟨h1, fun a ha => ?_⟩
    rw [← esn] at ha
    obtain ⟨p, hp, rfl⟩ := List.mem_map.mp ha
    exact h2 p hp
  have done : ∀ {x : R} {r' : En} {v : V} {σ' : L2.St} {N' : NS} {H' : Hp}, runF G f ags = finR f x r' → FrI K Fa (prs 0 vs ags) (refAd vs ags) N H r' σ' N' H' → RetR K Fa (refAd vs ags) N r' σ' N' H' v x → Q v H' := fun {x r' v σ' N' H'} e I rt => by
    rw [e] at post
    cases hr : refsOf r' (refSlots 0 f.sig) with
    | none => simp only [finR, hr] at post
    | some ds =>
      obtain ⟨h1, h2⟩ := fin I hr
      cases x with
      | fn k => simp only [finR, hr] at post
      | val o d =>
        simp only [finR, hr] at post
        refine post v H' N' I.ext I.g.trk ?_ h1
        cases o with
        | false => exact rt.1
        | true =>
          obtain ⟨a, e1, e2, e3, e4⟩ := rt.1
          exact ⟨a, e1, e2, e3, (rt.2 d a rfl e1).elim id fun z => absurd (h2 a z) e4⟩
      | sl i =>
        simp only [finR, hr] at post
        by_cases hi : i ∈ refSlots 0 f.sig
        · rw [if_pos hi] at post
          exact post.elim
        · rw [if_neg hi] at post
          obtain ⟨h3, o, d, ei⟩ := rt.1
          rw [ei] at post
          simp only at post
          refine post v H' N' I.ext I.g.trk ?_ h1
          obtain ⟨v', e1, e2⟩ := I.g.slot _ _ ei
          rw [e1] at h3
          cases h3
          cases o with
          | false => exact e2
          | true =>
            obtain ⟨a, rfl, e4, e5⟩ := e2
            refine ⟨a, rfl, e4, e5, fun z => ?_⟩
            rcases I.ow a ⟨i, d, ei, e1⟩ with q | q
            · rw [← esn] at q
              obtain ⟨p, hp, rfl⟩ := List.mem_map.mp q
              have es := I.g.prs p hp
              rw [← efs] at hr
              obtain ⟨d2, hd2⟩ := refs_at hr p hp
              have := I.g.inj i p.1 d d2 p.2 ei hd2 e1 es
              apply hi
              rw [this, ← efs]
              exact List.mem_map.mpr ⟨p, hp, rfl⟩
            · exact I.t0 a z q
  have er : runF G f ags = match evSs G f.body (startA ags ++ List.replicate (f.n - ags.length) none) with
      | .nx r => finR f (.val false .none) r
      | .ret x r => finR f x r
      | .exc x r => match refsOf r (refSlots 0 f.sig) with
        | some ds => .exc x ds
        | none => .stuck
      | _ => .stuck := by
    unfold runF
    rw [if_pos osg]
    first | done | (generalize evSs G f.body (startA ags ++ List.replicate (f.n - ags.length) none) = o; cases o <;> rfl)
  cases e : evSs G f.body (startA ags ++ List.replicate (f.n - ags.length) none) with
  | nx r' =>
    rw [e] at er
    exact fun σ' N' H' I f' => done er I ⟨Rp.non, fun d a z => by cases z⟩
  | ret x r' =>
    rw [e] at er
    exact fun v σ' N' H' I f' rt => done er I rt
  | exc x r' =>
    rw [e] at er
    intro cls d σ' N' H' I f' hx
    rw [er] at post
    cases hr : refsOf r' (refSlots 0 f.sig) with
    | none => simp only [hr] at post
    | some ds =>
      simp only [hr] at post
      exact post cls d H' N' I.ext I.g.trk hx (fin I hr).1
  | brk r' => rw [e] at er; rw [er] at post; exact post.elim
  | cont r' => rw [e] at er; rw [er] at post; exact post.elim
  | stuck => rw [e] at er; rw [er] at post; exact post.elim
end
end E2

set_option Elab.async false
set_option linter.all false
set_option maxRecDepth 100000
set_option maxHeartbeats 4000000
namespace E2
variable [Tbs]
open PySem PySem.Spec PyProof.Rows L2
/-- the def k of the module is the pure def f: the function object fd, of the parameters ps -/
def DefAt (K : Kw) (mg : Str → Option Value) (Fa : Nat → Addr) (fnm gn en : List Str) (k : Nat) (f : Fn) (fd : FuncData) (ps : List Str) : Prop :=
  ∃ (nm : Str) (names : List Str) (name qual : Str) (params : Arguments) (body : List Stmt) (scope : Scope) (dV kV doc pm cdv ct oc : Value) (an od : Option Addr) (osl : Array (Option Value)),
    fd = PySem.W.fnOf name qual params body scope dV kV doc pm an cdv ct ∧ fnm[k]? = some nm ∧ mg nm = some (.ref (Fa k)) ∧ K.fr.lookup (Fa k) = some ⟨oc, od, .func (PySem.W.fnOf name qual params body scope dV kV doc pm an cdv ct), osl⟩ ∧ PySem.W.codeIn K.fr cdv qual = true ∧ FnScope names ps scope ∧
    f.n = names.length ∧ f.sig.length = ps.length ∧ matSs ⟨names, refSlots 0 f.sig, fnm, gn, en⟩ (stB scope) f.body scope body = true ∧ PySem.W.keepIn K.fr (.ref (Fa k)) = true ∧ Binds K.fr (PySem.W.fnOf name qual params body scope dV kV doc pm an cdv ct) ps []
def DefOk (K : Kw) (mg : Str → Option Value) (Fa : Nat → Addr) (fnm gn en : List Str) (k : Nat) (f : Fn) : Prop := ∃ fd ps, DefAt K mg Fa fnm gn en k f fd ps
structure PrgOk (Pr : Prg) (K : Kw) (mg : Str → Option Value) (Fa Ca : Nat → Addr) (fnm gn en : List Str) : Prop where
  df : ∀ k f, Pr.fns[k]? = some f → DefOk K mg Fa fnm gn en k f
  sz : fnm.length = Pr.fns.length
  gc : ∀ (g : Nat) (nm : Str), gn[g]? = some nm → ∃ u w dd, mg nm = some u ∧ L2.RelV w u ∧ Pr.gcs[g]? = some dd ∧ GcR K w dd
  bl : ∀ x, x ∈ bnames → mg x = none
  ex : ∀ (c : Nat) (nm : Str), en[c]? = some nm → mg nm = some (.ref (Ca c)) ∧ Pr.exf[c]? = some [] ∧ ∃ B newId initId bmB, ExcBaseFacts B newId initId bmB ∧ PySem.W.excIn K.fr (Ca c) bmB newId = true ∧ PySem.W.keepIn K.fr (.ref (Ca c)) = true ∧ PySem.W.subIn K.fr (.ref (Ca c)) (.type "BaseException") = some true ∧ PySem.W.typeIn K.fr (.ref (Ca c)) = some (.type "type")
  sub : ∀ a b k, (Pr.gs fun _ _ => .stuck).sub a b = some k → PySem.W.exmOne K.fr (.ref (Ca a)) (.ref (Ca b)) = some k
section
variable {P : Program} {w : World} {K : Kw} {mg : Str → Option Value} {base : Heap} {Fa Ca : Nat → Addr}
theorem prog_sound {Pr : Prg} {fnm gn en : List Str} (hw : K.w = w) (M : PrgOk Pr K mg Fa Ca fnm gn en) : ∀ (n k : Nat) (f : Fn) (fd : FuncData) (ps : List Str), Pr.fns[k]? = some f → DefAt K mg Fa fnm gn en k f fd ps →
    FnOk P w K.fr mg base (L2.CX P w) n (Fa k) fd ps (spec K Fa Ca ps.length (run Pr n k)) ∧ PySem.W.keepIn K.fr (.ref (Fa k)) = true ∧ Binds K.fr fd ps [] ∧ f.sig.length = ps.length := by
  intro n
  induction n with
  | zero =>
    intro k f fd ps hf hd
    obtain ⟨nm, names, name, qual, params, body, scope, dV, kV, doc, pm, cdv, ct, oc, an, od, osl, h0, h1, h2, h3, h4, h5, h6, h7, h8, h9, h10⟩ := hd
    subst h0
    refine ⟨⟨fun vs H Q E h => by obtain ⟨ags, N, q, _⟩ := h; exact q, fun A outer s H args us vs Q E _ _ _ _ h => ?_⟩, h9, h10, h7⟩
    obtain ⟨ags, N, _, _, _, _, _, q⟩ := h
    simp only [run] at q
  | succ n ih =>
    intro k f fd ps hf hd
    obtain ⟨nm, names, name, qual, params, body, scope, dV, kV, doc, pm, cdv, ct, oc, an, od, osl, h0, h1, h2, h3, h4, h5, h6, h7, h8, h9, h10⟩ := hd
    subst h0
    have e : run Pr (n + 1) k = runF (Pr.gs (run Pr n)) f := by funext ags; simp only [run, hf]
    refine ⟨?_, h9, h10, h7⟩
    rw [e]
    refine fn_sound (fnm := fnm) (gn := gn) (en := en) hw ⟨fun i nm' hi => ?_, fun i hi => ?_, M.gc, M.bl, fun c nm' hc => ?_, M.sub⟩ h3 h4 h5 h6 h8
    · have hlt : i < Pr.fns.length := by rw [← M.sz]; exact (List.getElem?_eq_some_iff.mp hi).1
      have hfi : Pr.fns[i]? = some Pr.fns[i] := List.getElem?_eq_getElem hlt
      obtain ⟨fd, ps', hdi⟩ := M.df i _ hfi
      obtain ⟨q1, q2, q3, q4⟩ := ih i _ fd ps' hfi hdi
      obtain ⟨nm2, _, _, _, _, _, _, _, _, _, _, _, _, _, _, _, _, _, k1, k2, _⟩ := hdi
      have : nm' = nm2 := by have := hi.symm.trans k1; exact Option.some.inj this
      subst this
      refine ⟨k2, fd, ps', q1, q2, q3, ?_⟩
      show (((Pr.fns[i]?).map (·.sig)).getD []).length = _
      rw [hfi]
      exact q4
    · have hi' : ((Pr.fns[i]?).map (·.sig)).getD [] ≠ [] := hi
      cases hfi : Pr.fns[i]? with
      | none => rw [hfi] at hi'; exact absurd rfl hi'
      | some f' =>
        obtain ⟨_, _, nm2, _, _, _, _, _, _, _, _, _, _, _, _, _, _, _, _, _, k1, _⟩ := M.df i f' hfi
        exact ⟨nm2, k1⟩
    · obtain ⟨q1, q2, q3⟩ := M.ex c nm' hc
      exact ⟨q1, q2, q3⟩
end
end E2

set_option Elab.async false
set_option linter.all false
set_option maxRecDepth 100000
set_option maxHeartbeats 4000000
namespace E2
variable [Tbs]
open PySem PySem.Spec PyProof.Rows L2
/-- what law(script) promises -/
def spLaw (K : PySem.W.Frag) : Sp := fun vs H Q _ => ∃ (a : Addr) (ns : List Int), vs = [.ref a] ∧ SqL K H a (ns.map V.int) ∧ ns.length ≤ 63 ∧ TabO (fun _ => False) H ∧ ∀ H', Q (.bl true) H'
/-- the pure law -/
def LawTrue (Pr : Prg) (n k : Nat) : Prop := ∀ ns : List Int, ns.length ≤ 63 → ∃ o, run Pr n k [.val (.list (ns.map .int))] = .ok o (.bool true) []
theorem law_imp {P : Program} {w : World} {K : Kw} {mg : Str → Option Value} {base : Heap} {Fa Ca : Nat → Addr} {Pr : Prg} {n k : Nat} {fd : FuncData} {x : Str} {fa : Addr} (h : LawTrue Pr n k) (F : FnOk P w K.fr mg base (L2.CX P w) n fa fd [x] (spec K Fa Ca [x].length (run Pr n k))) : FnOk P w K.fr mg base (L2.CX P w) n fa fd [x] (spLaw K.fr) := by
  refine F.imp fun vs H Q E ⟨a, ns, e, hS, hl, tb, q⟩ => ?_
  subst e
  obtain ⟨o, ho⟩ := h ns hl
  refine ⟨[.val (.list (ns.map .int))], fun _ => False, rfl, ⟨.lst ?_ (RpA.ofInts ns), trivial⟩, by simp [refAd], fun _ z => z.elim, tb, ?_⟩
  · rcases hS with z | z
    · exact .inl ⟨z, fun z => z⟩
    · exact .inr z
  · rw [ho]
    intro v H' N' _ _ hr _
    cases o with
    | false => cases (show Rp K N' H' v (.bool true) from hr); exact q H'
    | true => obtain ⟨_, _, _, z, _⟩ := hr; exact z.elim
theorem walkE (hT : Tbs.T = []) {l : PySem.W.OpenLaw} {q : Program} {loose : List Str} {XP : (Str → Option Value) → Heap → Prop} {YP : World → Heap → Prop} {d : DefRec} {K : Params → PySem.W.Frag} {n : Nat} {x : Str} (hn : l.most = some 63) (hdf : d.params.defaults = []) (hr : Room n callerA)
    (hY : ∀ (w : World) (h : Heap), YP w h → (K w.params).In h)
    (F : ∀ (w : World) (mg : Str → Option Value) (fa : Addr) (h : Heap), (K w.params).In h → h.Ns mainGlobals mg → mg d.name = some (.ref fa) →
      ∃ fd : FuncData, (∀ (s : Shared) (u : Value), BindsTo s fd ⟨[u], []⟩ [(x, u)]) ∧ ∀ base : Heap, (K w.params).In base → base.Ns mainGlobals mg → FnOk l.prog w (K w.params) mg base (L2.CX l.prog w) n fa fd [x] (spLaw (K w.params))) :
    PySem.W.WalkO q loose XP YP l.row.toRowW d [] (fun f vs => PySem.call f vs) :=
  L2.walk_of (n := 63) (k := n) (x := x) (CX := fun w => L2.CX l.prog w) (sp := fun w => spLaw (K w.params)) hn (by decide) hdf hr hY F (fun _ _ a ns hl _ hS => ⟨a, ns, rfl, hS, hl, fun p hp => absurd (hT ▸ hp) (by simp), fun _ => rfl⟩) fun _ _ _ _ _ ⟨_, _, _, _, _, _, _, _, _, _, _, _, z⟩ => z
end E2

set_option Elab.async false
set_option linter.all false
set_option maxRecDepth 100000
set_option maxHeartbeats 4000000
namespace E2
variable [Tbs]
open PySem PySem.Spec PyProof.Rows L2
/-- one def of a law's program: name, engine code, slots, parameters, statement -/
structure LD where
  nm : Str
  f : Fn
  names : List Str
  ps : List Str
  st : Stmt
/-- a law's program: defs, whole constants, own errors, which is which's heir -/
structure LP where
  ds : List LD
  whs : List (Str × Int)
  es : List Str
  heirs : List (List Nat)
def LD.dd (d : LD) : He.DefD := ⟨(d.nm, none), d.nm, d.nm, defArgs d.st, defBody d.st, defScope d.st, [], []⟩
def LP.pr (L : LP) : Prg := ⟨L.ds.map (·.f), L.whs.map (fun g => .int g.2), L.es.map (fun _ => []), L.heirs⟩
def LP.fnm (L : LP) : List Str := L.ds.map (·.nm)
def LP.gn (L : LP) : List Str := L.whs.map (·.1)
def LP.exms (L : LP) : List He.Fa := (List.range L.heirs.length).flatMap fun a => (List.range L.heirs.length).map fun b => .exm (L.es.getD a "") (L.es.getD b "") ((L.heirs.getD a []).contains b)
def LP.fa (L : LP) : List He.Fa := L.ds.map (fun d => .glo d.nm) ++ (bnames.map .free ++ (L.whs.map (fun g => .int g.1 g.2) ++ (L.es.map .glo ++ (L.es.map .exc ++ L.exms))))
def LP.fn (L : LP) : List He.DefD := L.ds.map LD.dd
def scB (N P : List Str) (sc : Scope) : Bool := decide (sc.kind = .function) && (!sc.isCoroutine && (!sc.isGenerator && (decide N.Nodup && (decide (N.take P.length = P) && (P.all (fun x => decide (sc.names.lookup x = some .local ∨ sc.names.lookup x = some .cell)) && sc.names.all fun y => decide (y.2 ≠ .free))))))
theorem scB_ok {N P : List Str} {sc : Scope} (h : scB N P sc = true) : FnScope N P sc := by
  simp only [scB, Bool.and_eq_true, decide_eq_true_eq, Bool.not_eq_true', List.all_eq_true] at h
  obtain ⟨h1, h2, h3, h4, h5, h6, h7⟩ := h
  exact ⟨h1, h2, h3, h4, h5, h6, h7⟩
def LP.okD (L : LP) (d : LD) : Bool := scB d.names d.ps (defScope d.st) && (decide (d.f.n = d.names.length) && (decide (d.f.sig.length = d.ps.length) && matSs ⟨d.names, refSlots 0 d.f.sig, L.fnm, L.gn, L.es⟩ (stB (defScope d.st)) d.f.body (defScope d.st) (defBody d.st)))
def BdD (d : LD) : Prop := ∀ (kV doc pm : Value) (an : Option Addr) (cdv ct : Value) (us : List Value), us.length = d.ps.length → bindArgs (PySem.W.fnOf d.nm d.nm (defArgs d.st) (defBody d.st) (defScope d.st) .none kV doc pm an cdv ct) ⟨us, []⟩ = pure (d.ps.zip us)
def BdAll : List LD → Prop
  | [] => True
  | d :: r => BdD d ∧ BdAll r
theorem BdAll.at : ∀ {ds : List LD} {k : Nat} {d : LD}, BdAll ds → ds[k]? = some d → BdD d
  | _ :: _, 0, _, h, e => by
    rw [List.getElem?_cons_zero] at e
    exact Option.some.inj e ▸ h.1
  | _ :: _, _ + 1, _, h, e => by
    rw [List.getElem?_cons_succ] at e
    exact BdAll.at h.2 e
theorem says_fact {fa : List He.Fa} {fn : List He.DefD} {K : PySem.W.Frag} (c : He.SaysD fa fn K) {f : He.Fa} (h : f ∈ fa) : f.ok K = true := by
  obtain ⟨i, hi⟩ := List.getElem?_of_mem h
  exact He.SaysD.fact c i hi
theorem lp_at {L : LP} {K : Kw} {mg : Str → Option Value} {h : Heap} (X : K.fr.In h) (G : h.Ns mainGlobals mg) (c : He.SaysD L.fa L.fn K.fr) (ok : L.ds.all L.okD = true) (hb : BdAll L.ds) {k : Nat} {d : LD} (hd : L.ds[k]? = some d) :
    ∃ fd, DefAt K mg (fun k => He.ga K.fr (L.fnm.getD k "")) L.fnm L.gn L.es k d.f fd d.ps ∧ (∀ (s : Shared) (us : List Value), us.length = d.ps.length → BindsTo s fd ⟨us, []⟩ (d.ps.zip us)) := by
  have hm : d ∈ L.ds := List.mem_of_getElem? hd
  have o := List.all_eq_true.mp ok d hm
  simp only [LP.okD, Bool.and_eq_true, decide_eq_true_eq] at o
  obtain ⟨o1, o2, o3, o4⟩ := o
  have hfn : L.fn[k]? = some d.dd := by
    show (L.ds.map LD.dd)[k]? = _
    rw [List.getElem?_map, hd] <;> rfl
  obtain ⟨fd, F⟩ := He.SaysD.def_ c k hfn
  have F' : FunD K.fr d.nm d.nm (defArgs d.st) (defBody d.st) (defScope d.st) [] [] (He.ga K.fr d.nm) fd := F
  have bb : Binds K.fr fd d.ps [] := F'.bindsN (hb.at hd)
  have bA := F'.bindsA (ps := d.ps) (hb.at hd)
  have kp := F'.kp
  obtain ⟨oc, od, dV, kV, doc, pm, an, cdv, ct, osl, e, lk, hcd, hdv, _⟩ := F'.ex
  have hk : L.fnm[k]? = some d.nm := by
    show (L.ds.map (·.nm))[k]? = _
    rw [List.getElem?_map, hd] <;> rfl
  have hg : L.fnm.getD k "" = d.nm := by rw [List.getD_eq_getElem?_getD, hk] <;> rfl
  have gl := He.glo_ok X G (says_fact c (f := .glo d.nm) (List.mem_append_left _ (List.mem_map_of_mem (f := fun d : LD => He.Fa.glo d.nm) hm)))
  subst e
  refine ⟨_, ⟨d.nm, d.names, d.nm, d.nm, _, _, _, dV, kV, doc, pm, cdv, ct, oc, an, od, osl, rfl, hk, ?_, ?_, hcd, scB_ok o1, o2, o3, o4, ?_, bb⟩, bA⟩
  · show mg d.nm = some (.ref (He.ga K.fr (L.fnm.getD k "")))
    rw [hg]; exact gl
  · show K.fr.lookup (He.ga K.fr (L.fnm.getD k "")) = _
    rw [hg]; exact lk
  · show PySem.W.keepIn K.fr (.ref (He.ga K.fr (L.fnm.getD k ""))) = true
    rw [hg]; exact kp
theorem lp_ok {L : LP} {K : Kw} {mg : Str → Option Value} {h : Heap} (X : K.fr.In h) (G : h.Ns mainGlobals mg) (c : He.SaysD L.fa L.fn K.fr) (ok : L.ds.all L.okD = true) (hb : BdAll L.ds) (hl : L.heirs.length = L.es.length) :
    PrgOk L.pr K mg (fun k => He.ga K.fr (L.fnm.getD k "")) (fun k => He.ga K.fr (L.es.getD k "")) L.fnm L.gn L.es where
  df := by
    intro k f hf
    have hf' : (L.ds.map (·.f))[k]? = some f := hf
    rw [List.getElem?_map] at hf'
    cases hd : L.ds[k]? with
    | none => rw [hd] at hf'; cases hf'
    | some d =>
      rw [hd] at hf'
      obtain rfl : d.f = f := Option.some.inj hf'
      obtain ⟨fd, q, _⟩ := lp_at X G c ok hb hd
      exact ⟨fd, d.ps, q⟩
  sz := by simp [LP.fnm, LP.pr]
  gc := by
    intro g nm hg
    have hg' : (L.whs.map (·.1))[g]? = some nm := hg
    rw [List.getElem?_map] at hg'
    cases hd : L.whs[g]? with
    | none => rw [hd] at hg'; cases hg'
    | some d =>
      rw [hd] at hg'
      obtain rfl : d.1 = nm := Option.some.inj hg'
      have hm : d ∈ L.whs := List.mem_of_getElem? hd
      obtain ⟨t, ht⟩ := He.int_ok X G (says_fact c (f := .int d.1 d.2) (List.mem_append_right _ (List.mem_append_right _ (List.mem_append_left _ (List.mem_map_of_mem (f := fun g : Str × Int => He.Fa.int g.1 g.2) hm)))))
      refine ⟨_, .int d.2, .int d.2, ht, ?_, ?_, ?_⟩
      · exact ⟨_, rfl⟩
      · show (L.whs.map (fun g => (.int g.2 : D)))[g]? = _
        rw [List.getElem?_map, hd] <;> rfl
      · intro N H
        exact Rp.int _
  bl := fun x hx => He.free_ok X G (says_fact c (f := .free x) (List.mem_append_right _ (List.mem_append_left _ (List.mem_map_of_mem hx))))
  ex := by
    intro k nm hn
    have hm : nm ∈ L.es := List.mem_of_getElem? hn
    have hg : L.es.getD k "" = nm := by rw [List.getD_eq_getElem?_getD, hn] <;> rfl
    have g1 := He.glo_ok X G (says_fact c (f := .glo nm) (List.mem_append_right _ (List.mem_append_right _ (List.mem_append_right _ (List.mem_append_left _ (List.mem_map_of_mem hm))))))
    obtain ⟨e1, e2, e3, e4⟩ := He.exc_ok (says_fact c (f := .exc nm) (List.mem_append_right _ (List.mem_append_right _ (List.mem_append_right _ (List.mem_append_right _ (List.mem_append_left _ (List.mem_map_of_mem hm)))))))
    show mg nm = some (.ref (He.ga K.fr (L.es.getD k ""))) ∧ (L.es.map fun _ => ([] : List Str))[k]? = some [] ∧ ∃ B newId initId bmB, ExcBaseFacts B newId initId bmB ∧ PySem.W.excIn K.fr (He.ga K.fr (L.es.getD k "")) bmB newId = true ∧ PySem.W.keepIn K.fr (.ref (He.ga K.fr (L.es.getD k ""))) = true ∧ PySem.W.subIn K.fr (.ref (He.ga K.fr (L.es.getD k ""))) (.type "BaseException") = some true ∧ PySem.W.typeIn K.fr (.ref (He.ga K.fr (L.es.getD k ""))) = some (.type "type")
    rw [hg]
    refine ⟨g1, ?_, _, _, _, _, PySem.F.excBase_ValueError, e1, e2, e3, e4⟩
    rw [List.getElem?_map, hn] <;> rfl
  sub := by
    intro a b k e
    have e' : (match L.heirs[a]? with
      | some l => if b < L.heirs.length then some (l.contains b) else none
      | none => none) = some k := e
    split at e'
    · rename_i l hl'
      split at e'
      · rename_i hb'
        have ha' : a < L.heirs.length := (List.getElem?_eq_some_iff.mp hl').1
        have hg : L.heirs.getD a [] = l := by rw [List.getD_eq_getElem?_getD, hl'] <;> rfl
        have hm : He.Fa.exm (L.es.getD a "") (L.es.getD b "") k ∈ L.exms := by
          refine List.mem_flatMap.mpr ⟨a, List.mem_range.mpr ha', List.mem_map.mpr ⟨b, List.mem_range.mpr hb', ?_⟩⟩
          rw [hg, Option.some.inj e']
        exact He.exm_ok (says_fact c (List.mem_append_right _ (List.mem_append_right _ (List.mem_append_right _ (List.mem_append_right _ (List.mem_append_right _ hm))))))
      · cases e'
    · cases e'
/-- the end: the law by its engine program -/
theorem lp_law {L : LP} {P : Program} {w : World} {K : Kw} {mg : Str → Option Value} {h : Heap} {n k : Nat} {nm x : Str} {f : Fn} {fa : Addr} (hw : K.w = w) (X : K.fr.In h) (G : h.Ns mainGlobals mg) (hfa : mg nm = some (.ref fa)) (c : He.SaysD L.fa L.fn K.fr) (ok : L.ds.all L.okD = true) (hb : BdAll L.ds) (hl : L.heirs.length = L.es.length)
    (hk : L.fnm[k]? = some nm) (hp : L.ds[k]?.map (·.ps) = some [x]) (T : LawTrue L.pr n k) :
    ∃ fd : FuncData, (∀ (s : Shared) (u : Value), BindsTo s fd ⟨[u], []⟩ [(x, u)]) ∧ ∀ base : Heap, K.fr.In base → base.Ns mainGlobals mg → FnOk P w K.fr mg base (L2.CX P w) n fa fd [x] (spLaw K.fr) := by
  cases hd : L.ds[k]? with
  | none => rw [hd] at hp; cases hp
  | some d =>
    rw [hd] at hp
    have hps : d.ps = [x] := Option.some.inj hp
    have hk' : (L.ds.map (·.nm))[k]? = some nm := hk
    rw [List.getElem?_map, hd] at hk'
    obtain rfl : d.nm = nm := Option.some.inj hk'
    have hff : L.pr.fns[k]? = some d.f := by
      show (L.ds.map (·.f))[k]? = _
      rw [List.getElem?_map, hd] <;> rfl
    have hg : L.fnm.getD k "" = d.nm := by rw [List.getD_eq_getElem?_getD, hk] <;> rfl
    have gl := He.glo_ok X G (says_fact c (f := .glo d.nm) (List.mem_append_left _ (List.mem_map_of_mem (f := fun d : LD => He.Fa.glo d.nm) (List.mem_of_getElem? hd))))
    have e := hfa.symm.trans gl
    obtain rfl : fa = He.ga K.fr d.nm := by injection e with e; injection e
    obtain ⟨fd, q, bA⟩ := lp_at X G c ok hb hd
    refine ⟨fd, fun s u => ?_, fun base KB GB => ?_⟩
    · have z := bA s [u] (by rw [hps] <;> rfl)
      rw [hps] at z
      exact z
    · have z := (prog_sound (P := P) (base := base) hw (lp_ok X G c ok hb hl) n k d.f fd d.ps hff q).1
      rw [hps] at z
      have z' : FnOk P w K.fr mg base (L2.CX P w) n (He.ga K.fr (L.fnm.getD k "")) fd [x] (spec K (fun k => He.ga K.fr (L.fnm.getD k "")) (fun k => He.ga K.fr (L.es.getD k "")) [x].length (run L.pr n k)) := z
      rw [hg] at z'
      exact law_imp T z'
end E2
namespace E2
variable [Tbs]
open PySem PySem.Spec PyProof.Rows L2
theorem walkL (hT : Tbs.T = []) {l : PySem.W.OpenLaw} {q : Program} {loose : List Str} {XP : (Str → Option Value) → Heap → Prop} {YP : World → Heap → Prop} {d : DefRec} {n : Nat} {x : Str} (hn : l.most = some 63) (hdf : d.params.defaults = []) (hr : Room n callerA)
    (F : ∀ (w : World) (mg : Str → Option Value) (fa : Addr) (h : Heap), YP w h → h.Ns mainGlobals mg → mg d.name = some (.ref fa) →
      ∃ K : PySem.W.Frag, K.In h ∧ ∃ fd : FuncData, (∀ (s : Shared) (u : Value), BindsTo s fd ⟨[u], []⟩ [(x, u)]) ∧ ∀ base : Heap, K.In base → base.Ns mainGlobals mg → FnOk l.prog w K mg base (L2.CX l.prog w) n fa fd [x] (spLaw K)) :
    PySem.W.WalkO q loose XP YP l.row.toRowW d [] (fun f vs => PySem.call f vs) := by
  refine Att.attach_call hn hdf fun w s₀ s₁ mg mb fa o pm cd doc a vs ns G Y ho hd hcd hmg hobj hints hlen hg => ?_
  obtain ⟨K, KX, fd, hb, hF⟩ := F w mg fa _ Y G.T.g hmg
  exact law_call KX G.T.g G.T.b G.T.builtins G.T.nolimit hg hobj hints (Nat.le_trans hlen (by decide)) hr hF hb (fun H hO hS => ⟨a, ns, rfl, hS, hlen, fun p hp => absurd (hT ▸ hp) (by simp), fun _ => rfl⟩) fun H e s' ⟨_, _, _, _, _, _, _, _, _, _, _, _, z⟩ => z
end E2

set_option Elab.async false
set_option linter.all false
set_option maxRecDepth 100000
set_option maxHeartbeats 1000000
namespace E2
open PySem L2
/-! ## what an evaluation ends in -/
/-- a mark that hangs on what simp is to leave alone -/
structure Blk {β : Type u} (b : β) : Type u where
inductive Rs.w0 {α : Type} : Rs α → (α → En → Prop) → (Ex → En → Prop) → Prop
  | ok {a : α} {r : En} {Q : α → En → Prop} {X : Ex → En → Prop} : Q a r → Rs.w0 (.ok a r) Q X
  | exc {e : Ex} {r : En} {Q : α → En → Prop} {X : Ex → En → Prop} : X e r → Rs.w0 (.exc e r) Q X
def Rs.w {α : Type} (x : Rs α) (Q : α → En → Prop) (X : Ex → En → Prop) (_t : Blk (Q, X) := ⟨⟩) : Prop := Rs.w0 x Q X
structure Pt where
  nx : En → Prop
  rt : R → En → Prop := fun _ _ => False
  ex : Ex → En → Prop := fun _ _ => False
  bk : En → Prop := fun _ => False
  ct : En → Prop := fun _ => False
inductive So.w0 : So → Pt → Prop
  | nx {r : En} {P : Pt} : P.nx r → So.w0 (.nx r) P
  | ret {x : R} {r : En} {P : Pt} : P.rt x r → So.w0 (.ret x r) P
  | brk {r : En} {P : Pt} : P.bk r → So.w0 (.brk r) P
  | cont {r : En} {P : Pt} : P.ct r → So.w0 (.cont r) P
  | exc {e : Ex} {r : En} {P : Pt} : P.ex e r → So.w0 (.exc e r) P
def So.w (o : So) (P : Pt) (_t : Blk P := ⟨⟩) : Prop := So.w0 o P
section
variable {α β : Type} {Q : α → En → Prop} {X : Ex → En → Prop} {P P' : Pt} {r : En}
theorem ok_w {a : α} : (Rs.ok a r).w Q X ↔ Q a r := ⟨fun h => by cases (show Rs.w0 _ _ _ from h); assumption, fun h => .ok h⟩
theorem exc_w {e : Ex} : (Rs.exc e r : Rs α).w Q X ↔ X e r := ⟨fun h => by cases (show Rs.w0 _ _ _ from h); assumption, fun h => .exc h⟩
theorem stuck_w : (Rs.stuck : Rs α).w Q X ↔ False := ⟨fun h => (nomatch (show Rs.w0 _ _ _ from h)), False.elim⟩
theorem nx_w : (So.nx r).w P ↔ P.nx r := ⟨fun h => by cases (show So.w0 _ _ from h); assumption, fun h => .nx h⟩
theorem ret_w {x : R} : (So.ret x r).w P ↔ P.rt x r := ⟨fun h => by cases (show So.w0 _ _ from h); assumption, fun h => .ret h⟩
theorem brk_w : (So.brk r).w P ↔ P.bk r := ⟨fun h => by cases (show So.w0 _ _ from h); assumption, fun h => .brk h⟩
theorem cont_w : (So.cont r).w P ↔ P.ct r := ⟨fun h => by cases (show So.w0 _ _ from h); assumption, fun h => .cont h⟩
theorem sexc_w {e : Ex} : (So.exc e r).w P ↔ P.ex e r := ⟨fun h => by cases (show So.w0 _ _ from h); assumption, fun h => .exc h⟩
theorem sstuck_w : So.stuck.w P ↔ False := ⟨fun h => (nomatch (show So.w0 _ _ from h)), False.elim⟩
theorem bind_w {x : Rs β} {f : β → En → Rs α} : (x.bind f).w Q X ↔ x.w (fun a r => (f a r).w Q X) X := by
  cases x <;> simp only [Rs.bind, ok_w, exc_w, stuck_w]
theorem so_w {x : Rs β} {f : β → En → So} : (x.so f).w P ↔ x.w (fun a r => (f a r).w P) P.ex := by
  cases x <;> simp only [Rs.so, ok_w, exc_w, stuck_w, sexc_w, sstuck_w]
theorem then_w {o : So} {f : En → So} : (o.then f).w P ↔ o.w { P with nx := fun r => (f r).w P } := by
  cases o <;> simp only [So.then, nx_w, ret_w, brk_w, cont_w, sexc_w, sstuck_w]
theorem Rs.w.imp {x : Rs α} {Q' : α → En → Prop} {X' : Ex → En → Prop} (h : x.w Q X) (hq : ∀ a r, Q a r → Q' a r) (hx : ∀ e r, X e r → X' e r) : x.w Q' X' := by
  have h : Rs.w0 x Q X := h
  cases h with
  | ok h => exact .ok (hq _ _ h)
  | exc h => exact .exc (hx _ _ h)
theorem So.w.imp {o : So} (h : o.w P) (h1 : ∀ r, P.nx r → P'.nx r) (h2 : ∀ x r, P.rt x r → P'.rt x r) (h3 : ∀ e r, P.ex e r → P'.ex e r) (h4 : ∀ r, P.bk r → P'.bk r) (h5 : ∀ r, P.ct r → P'.ct r) : o.w P' := by
  have h : So.w0 o P := h
  cases h with
  | nx h => exact .nx (h1 _ h)
  | ret h => exact .ret (h2 _ _ h)
  | brk h => exact .brk (h4 _ h)
  | cont h => exact .cont (h5 _ h)
  | exc h => exact .exc (h3 _ _ h)
end
/-- the inside of a loop's turn: nx, ct go on by I; bk leaves -/
def Pt.lp (P : Pt) (I : En → Prop) : Pt := ⟨I, P.rt, P.ex, P.nx, I⟩
theorem for_w {α : Type} {bind : D → En → Option En} {b : En → So} {P : Pt} (g : α → D) (I : List α → En → Prop) (hs : ∀ a as r, I (a :: as) r → ∃ r1, bind (g a) r = some r1 ∧ (b r1).w (P.lp (I as))) (he : ∀ r, I [] r → P.nx r) :
    ∀ (as : List α) (r : En), I as r → (forF bind b (as.map g) r).w P
  | [], r, h => .nx (he r h)
  | a :: as, r, h => by
    obtain ⟨r1, e, hb⟩ := hs a as r h
    rw [List.map_cons]
    simp only [forF, e]
    cases hb1 : b r1 with
    | nx r2 => rw [hb1] at hb; exact for_w g I hs he as r2 (nx_w.mp hb)
    | cont r2 => rw [hb1] at hb; exact for_w g I hs he as r2 (cont_w.mp hb)
    | brk r2 => rw [hb1] at hb; exact .nx (have q := brk_w.mp hb; q)
    | ret x r2 => rw [hb1] at hb; exact .ret (have q := ret_w.mp hb; q)
    | exc x r2 => rw [hb1] at hb; exact .exc (have q := sexc_w.mp hb; q)
    | stuck => rw [hb1] at hb; exact (sstuck_w.mp hb).elim
theorem while_w {t : En → Rs Bool} {b : En → So} {P : Pt} (I : Nat → En → Prop) (hs : ∀ n r, I n r → (t r).w (fun k r1 => (k = true → (b r1).w (P.lp fun r2 => ∃ m, m < n ∧ I m r2)) ∧ (k = false → P.nx r1)) P.ex) :
    ∀ (f n : Nat) (r : En), n < f → I n r → (whileF t b f r).w P
  | 0, n, r, h, _ => absurd h (Nat.not_lt_zero _)
  | f + 1, n, r, h, hI => by
    have h1 := hs n r hI
    simp only [whileF, so_w]
    refine Rs.w.imp h1 (fun k r1 hk => ?_) fun _ _ z => z
    cases k with
    | false => exact .nx (hk.2 rfl)
    | true =>
      have hb := hk.1 rfl
      show (match b r1 with
        | .nx r2 => whileF t b f r2
        | .cont r2 => whileF t b f r2
        | .brk r2 => .nx r2
        | .ret x r2 => .ret x r2
        | .exc x r2 => .exc x r2
        | .stuck => .stuck : So).w P
      cases hb1 : b r1 with
      | nx r2 =>
        rw [hb1] at hb
        obtain ⟨m, hm, hI2⟩ := nx_w.mp hb
        exact while_w I hs f m r2 (by omega) hI2
      | cont r2 =>
        rw [hb1] at hb
        obtain ⟨m, hm, hI2⟩ := cont_w.mp hb
        exact while_w I hs f m r2 (by omega) hI2
      | brk r2 => rw [hb1] at hb; exact .nx (have q := brk_w.mp hb; q)
      | ret x r2 => rw [hb1] at hb; exact .ret (have q := ret_w.mp hb; q)
      | exc x r2 => rw [hb1] at hb; exact .exc (have q := sexc_w.mp hb; q)
      | stuck => rw [hb1] at hb; exact (sstuck_w.mp hb).elim
/-- a comprehension that leaves its surroundings alone: g the items, p its test, f its element -/
theorem lcGo_eq {α : Type} {vs : List Nat} {bind : D → En → Option En} {cond : En → Rs Bool} {elt : En → Rs R} (g : α → D) (p : α → Bool) (f : α → D) {r0 : En} (hw : wipeE r0 vs = r0) :
    ∀ (as : List α) (acc : List D) (r : En), (∀ a ∈ as, ∃ r1, bind (g a) r0 = some r1 ∧ (∃ r2, cond r1 = .ok (p a) r2 ∧ wipeE r2 vs = r0 ∧ (p a = true → ∃ o r3, elt r2 = .ok (.val o (f a)) r3 ∧ wipeE r3 vs = r0))) → wipeE r vs = r0 → acc.length + as.length ≤ sizeLine →
      ∃ r', lcGo vs bind cond elt (as.map g) acc r = .ok (acc ++ (as.filter p).map f) r' ∧ wipeE r' vs = r0 ∧ (r' = r ∨ r' = r0)
  | [], acc, r, _, h, _ => ⟨r, by simp [lcGo], h, .inl rfl⟩
  | a :: as, acc, r, hs, h, hl => by
    obtain ⟨r1, e1, r2, e2, e3, e4⟩ := hs a (List.mem_cons_self)
    have hl' : acc.length + (as.length + 1) ≤ sizeLine := by simpa using hl
    have hs' := fun a h => hs a (List.mem_cons_of_mem _ h)
    cases hp : p a with
    | false =>
      obtain ⟨r', q1, q2, q3⟩ := lcGo_eq g p f hw as acc (wipeE r2 vs) hs' (by rw [e3, hw]) (by omega)
      refine ⟨r', ?_, q2, ?_⟩
      · rw [List.map_cons]
        simp only [lcGo, h, e1, e2, hp]
        rw [q1, List.filter_cons_of_neg (by simp [hp])]
      · rw [e3] at q3
        exact .inr (q3.elim id id)
    | true =>
      obtain ⟨o, r3, e5, e6⟩ := e4 hp
      obtain ⟨r', q1, q2, q3⟩ := lcGo_eq g p f hw as (acc ++ [f a]) (wipeE r3 vs) hs' (by rw [e6, hw]) (by simp; omega)
      refine ⟨r', ?_, q2, ?_⟩
      · rw [List.map_cons]
        simp only [lcGo, h, e1, e2, hp, e5, take]
        rw [if_pos (by omega), q1, List.filter_cons_of_pos (by simp [hp])]
        simp
      · rw [e6] at q3
        exact .inr (q3.elim id id)
/-! ## whole numbers as data -/
abbrev dn (n : Nat) : D := .int n
abbrev tn (xs : List Nat) : D := .tuple (xs.map dn)
theorem atI_nat {α : Type} (xs : List α) (n : Nat) : atI xs (n : Int) = xs[n]? := by
  unfold atI ixN
  by_cases h : n < xs.length
  · rw [if_pos (by omega), if_pos (by omega)]; rfl
  · rw [if_pos (by omega), if_neg (by omega)]
    exact (List.getElem?_eq_none (by omega)).symm
theorem ixN_nat {n i : Nat} (h : i < n) : ixN n (i : Int) = some i := by
  unfold ixN
  rw [if_pos (by omega), if_pos (by omega)]; rfl
theorem eqv_dn (a b : Nat) : PyData.eqv (dn a) (dn b) = decide (a = b) := by
  rw [PyData.eqv, Bool.eq_iff_iff, beq_iff_eq, decide_eq_true_eq]
  omega
theorem eqvAll_dn : ∀ xs ys : List Nat, PyData.eqvAll (xs.map dn) (ys.map dn) = decide (xs = ys)
  | [], [] => by simp [PyData.eqvAll]
  | [], _ :: _ => by simp [PyData.eqvAll]
  | _ :: _, [] => by simp [PyData.eqvAll]
  | x :: xs, y :: ys => by
    rw [List.map_cons, List.map_cons, PyData.eqvAll, eqv_dn, eqvAll_dn xs ys, ← Bool.decide_and]
    exact decide_eq_decide.mpr (by rw [List.cons.injEq])
theorem any_dn (xs : List Nat) (k : Nat) : (xs.map dn).any (fun x => PyData.eqv x (dn k)) = decide (k ∈ xs) := by
  rw [List.any_map, Bool.eq_iff_iff, List.any_eq_true, decide_eq_true_eq]
  constructor
  · rintro ⟨y, hy, e⟩
    have e' : PyData.eqv (dn y) (dn k) = true := e
    rw [eqv_dn, decide_eq_true_eq] at e'
    exact e' ▸ hy
  · intro h
    exact ⟨k, h, by show PyData.eqv (dn k) (dn k) = true; rw [eqv_dn]; simp⟩
theorem canLayAll_dn : ∀ xs : List Nat, PyData.canLayAll0 (xs.map dn) = true
  | [] => by simp [PyData.canLayAll0]
  | x :: xs => by rw [List.map_cons, PyData.canLayAll0, canLayAll_dn xs]; simp [PyData.canLay0]
theorem depthAll_dn : ∀ xs : List Nat, PyData.depthAll (xs.map dn) = 0
  | [] => by simp [PyData.depthAll]
  | x :: xs => by rw [List.map_cons, PyData.depthAll, depthAll_dn xs]; simp [PyData.depth]
theorem rngI_nat (a b : Nat) : rngI a b = (List.range (b - a)).map fun i => dn (a + i) := by
  unfold rngI
  have e : ((b : Int) - (a : Int)).toNat = b - a := by omega
  rw [e]
  refine List.map_congr_left fun i _ => ?_
  show PyData.int ((a : Int) + (i : Int)) = PyData.int ((a + i : Nat) : Int)
  rw [Int.natCast_add]
theorem rngI_zero (b : Nat) : rngI 0 b = (List.range b).map dn := by
  have := rngI_nat 0 b
  simpa using this
theorem enumT_map {α : Type} (f : α → D) : ∀ (xs : List α) (n : Nat), enumT n (xs.map f) = (xs.zipIdx n).map fun p => .tuple [dn p.2, f p.1]
  | [], _ => rfl
  | x :: xs, n => by rw [List.map_cons, enumT, enumT_map f xs (n + 1), List.zipIdx_cons, List.map_cons]
end E2

set_option Elab.async false
set_option linter.all false
set_option maxRecDepth 100000
set_option maxHeartbeats 1000000
namespace E2
open PySem L2
/-! ## running by rewriting: only what stands in front is looked at -/
section
variable {α β : Type}
/-- keeps the kernel from unfolding both sides -/
theorem same {γ : Sort u} {a b : γ} (h : a = b) : a = b := Eq.trans h (Eq.refl b)
/-- a mark: it goes away as soon as it is looked at -/
def tick {γ : Sort u} (x : γ) : γ := x
@[simp] theorem tick_off {γ : Sort u} (x : γ) : tick x = x := Eq.trans (Eq.refl _) (Eq.refl x)
@[simp] theorem bind_okR {a : α} {r : En} {f : α → En → Rs β} : (Rs.ok a r).bind f = f a r := same rfl
@[simp] theorem bind_excR {e : Ex} {r : En} {f : α → En → Rs β} : (Rs.exc e r : Rs α).bind f = .exc e r := same rfl
@[simp] theorem so_ok {a : α} {r : En} {f : α → En → So} : (Rs.ok a r).so f = f a r := same rfl
@[simp] theorem so_exc {e : Ex} {r : En} {f : α → En → So} : (Rs.exc e r : Rs α).so f = .exc e r := same rfl
@[simp] theorem then_nx {r : En} {f : En → So} : (So.nx r).then f = f r := same rfl
@[simp] theorem then_ret {x : R} {r : En} {f : En → So} : (So.ret x r).then f = .ret x r := same rfl
@[simp] theorem then_exc {x : Ex} {r : En} {f : En → So} : (So.exc x r).then f = .exc x r := same rfl
@[simp] theorem then_brk {r : En} {f : En → So} : (So.brk r).then f = .brk r := same rfl
@[simp] theorem then_cont {r : En} {f : En → So} : (So.cont r).then f = .cont r := same rfl
end
section
variable {α β : Type} {Q : α → En → Prop} {X : Ex → En → Prop} {P : Pt} {r : En}
@[simp] theorem ok_w' {a : α} : (Rs.ok a r).w Q X ↔ Q a r := ok_w
@[simp] theorem exc_w' {e : Ex} : (Rs.exc e r : Rs α).w Q X ↔ X e r := exc_w
@[simp] theorem nx_w' : (So.nx r).w P ↔ P.nx r := nx_w
@[simp] theorem ret_w' {x : R} : (So.ret x r).w P ↔ P.rt x r := ret_w
@[simp] theorem cont_w' : (So.cont r).w P ↔ P.ct r := cont_w
@[simp] theorem brk_w' : (So.brk r).w P ↔ P.bk r := brk_w
@[simp] theorem sexc_w' {e : Ex} : (So.exc e r).w P ↔ P.ex e r := sexc_w
end
/-! ## the steps, each by a lemma of its own: no match is left on a right side -/
section
variable {α β : Type}
def oS (o : Option α) (f : α → Rs β) : Rs β := match o with | some a => f a | none => .stuck
def oX (o : Option α) (f : α → So) : So := match o with | some a => f a | none => .stuck
def oO (o : Option α) (f : α → Option β) : Option β := match o with | some a => f a | none => none
def bS (b : Bool) (x y : Rs β) : Rs β := match b with | true => x | false => y
def bX (b : Bool) (x y : So) : So := match b with | true => x | false => y
def gS (c : Prop) [Decidable c] (x : Rs β) : Rs β := if c then x else .stuck
def gO (c : Prop) [Decidable c] (x : Option β) : Option β := if c then x else none
@[simp] theorem oS_some {a : α} {f : α → Rs β} : oS (some a) f = f a := same rfl
@[simp] theorem oS_none {f : α → Rs β} : oS none f = .stuck := same rfl
@[simp] theorem oX_some {a : α} {f : α → So} : oX (some a) f = f a := same rfl
@[simp] theorem oO_some {a : α} {f : α → Option β} : oO (some a) f = f a := same rfl
@[simp] theorem oO_none {f : α → Option β} : oO none f = none := same rfl
@[simp] theorem bS_true {x y : Rs β} : bS true x y = x := same rfl
@[simp] theorem bS_false {x y : Rs β} : bS false x y = y := same rfl
@[simp] theorem bX_true {x y : So} : bX true x y = x := same rfl
@[simp] theorem bX_false {x y : So} : bX false x y = y := same rfl
@[simp] theorem gS_of {c : Prop} [Decidable c] {x : Rs β} (h : c) : gS c x = x := if_pos h
@[simp] theorem gO_of {c : Prop} [Decidable c] {x : Option β} (h : c) : gO c x = x := if_pos h
end
def svR (i : Nat) : Option (Option Sv) → Option R
  | some (some (.dat false d)) => some (.val false d)
  | some (some (.dat true _)) => some (.sl i)
  | some (some (.fn k)) => some (.fn k)
  | _ => none
def svD : Option (Option Sv) → Option D
  | some (some (.dat _ d)) => some d
  | _ => none
def svO : Option (Option Sv) → Option D
  | some (some (.dat true d)) => some d
  | _ => none
def svF : Option (Option Sv) → Option Nat
  | some (some (.fn k)) => some k
  | _ => none
def svL : Option (Option Sv) → Option Unit
  | some (some (.dat true (.list _))) => some ()
  | _ => none
def rInt : R → Option Int
  | .val _ (.int i) => some i
  | _ => none
@[simp] theorem svR_0 {i : Nat} {d : D} : svR i (some (some (.dat false d))) = some (.val false d) := same rfl
@[simp] theorem svR_1 {i : Nat} {d : D} : svR i (some (some (.dat true d))) = some (.sl i) := same rfl
@[simp] theorem svR_f {i k : Nat} : svR i (some (some (.fn k))) = some (.fn k) := same rfl
@[simp] theorem svD_d {o : Bool} {d : D} : svD (some (some (.dat o d))) = some d := same (by cases o <;> rfl)
@[simp] theorem svO_d {d : D} : svO (some (some (.dat true d))) = some d := same rfl
@[simp] theorem svF_f {k : Nat} : svF (some (some (.fn k))) = some k := same rfl
@[simp] theorem svL_l {xs : List D} : svL (some (some (.dat true (.list xs)))) = some () := same rfl
@[simp] theorem rInt_i {o : Bool} {i : Int} : rInt (.val o (.int i)) = some i := same rfl
def repR (r2 : En) (x y : R) : Rs R := match x, y with
    | .val true (.list xs), .val false (.int k) => if k < 2 ^ 63 ∧ -(2 ^ 63) ≤ k ∧ xs.length * k.toNat ≤ sizeLine then .ok (.val true (.list (List.replicate k.toNat xs).flatten)) r2 else .stuck
    | _, _ => .stuck
def crS (c : Cr) (sl : List Nat) (r1 : En) : Rs R := match c with
  | .ok own d refs => oS (putRefs r1 sl refs) fun r2 => .ok (.val own d) r2
  | .exc x refs => oS (putRefs r1 sl refs) fun r2 => .exc x r2
  | .stuck => .stuck
section
variable {G : Gs} {r : En}
@[simp] theorem crS_ok {o : Bool} {d : D} {refs : List D} {sl : List Nat} : crS (.ok o d refs) sl r = oS (putRefs r sl refs) fun r2 => .ok (.val o d) r2 := same rfl
@[simp] theorem crS_exc {x : Ex} {refs : List D} {sl : List Nat} : crS (.exc x refs) sl r = oS (putRefs r sl refs) fun r2 => .exc x r2 := same rfl
theorem nameR_sv {i : Nat} : nameR r i = svR i r[i]? := by
  unfold nameR svR; rfl
@[simp] theorem dref_val {o : Bool} {d : D} : dref r (.val o d) = some d := same rfl
@[simp] theorem dref_sl {i : Nat} : dref r (.sl i) = svD r[i]? := same (by unfold dref svD; rfl)
@[simp] theorem take_val {o : Bool} {d : D} : take r (.val o d) = some (d, r) := same rfl
@[simp] theorem take_sl {i : Nat} : take r (.sl i) = oO (svD r[i]?) fun d => some (d, r.set i (some (.dat false d))) := by
  unfold take svD
  show (match r[i]? with
    | some (some (.dat _ d)) => some (d, r.set i (some (.dat false d)))
    | _ => none) = _
  cases r[i]? with
  | none => rfl
  | some x => cases x with
    | none => rfl
    | some y => cases y <;> rfl
@[simp] theorem takes_nil : takes r [] = some ([], r) := same rfl
@[simp] theorem takes_cons {x : R} {xs : List R} : takes r (x :: xs) = oO (take r x) fun p => oO (takes p.2 xs) fun q => some (p.1 :: q.1, q.2) := by
  show (match take r x with
    | some (d, r1) => match takes r1 xs with
      | some (ds, r2) => some (d :: ds, r2)
      | none => none
    | none => none) = _
  cases take r x with
  | none => rfl
  | some p =>
    show (match takes p.2 xs with
      | some (ds, r2) => some (p.1 :: ds, r2)
      | none => none) = oO (takes p.2 xs) _
    cases takes p.2 xs <;> rfl
@[simp] theorem drefs_nil : drefs r [] = some [] := same rfl
@[simp] theorem drefs_cons {x : R} {xs : List R} : drefs r (x :: xs) = oO (dref r x) fun d => oO (drefs r xs) fun ds => some (d :: ds) := by
  show (match dref r x, drefs r xs with
    | some d, some ds => some (d :: ds)
    | _, _ => none) = _
  cases dref r x <;> cases drefs r xs <;> rfl
@[simp] theorem optR_some {o : Bool} {d : D} : optR r (some (o, d)) = .ok (.val o d) r := same rfl
@[simp] theorem e_var {i : Nat} : evE G (.var i) r = oS (svR i r[i]?) fun x => .ok x r := by
  rw [evE, nameR_sv]
  cases svR i r[i]? <;> rfl
@[simp] theorem e_cst {d : D} : evE G (.cst d) r = .ok (.val false d) r := by rw [evE]
@[simp] theorem e_gc {g : Nat} : evE G (.gc g) r = oS (G.gcs g) fun d => .ok (.val false d) r := by
  rw [evE]
  cases G.gcs g <;> rfl
@[simp] theorem e_fnv {k : Nat} : evE G (.fnv k) r = .ok (.fn k) r := by rw [evE]
theorem bind_ext {α β : Type} {x : Rs α} {f g : α → En → Rs β} (h : ∀ a r, f a r = g a r) : x.bind f = x.bind g := by
  have : f = g := funext fun a => funext fun r => h a r
  rw [this]
theorem so_ext {α : Type} {x : Rs α} {f g : α → En → So} (h : ∀ a r, f a r = g a r) : x.so f = x.so g := by
  have : f = g := funext fun a => funext fun r => h a r
  rw [this]
@[simp] theorem e_tup {es : CEs} : evE G (.tup es) r = (evEs G es r).bind fun xs r1 => oS (takes r1 xs) fun p => gS (p.1.length ≤ 16777216) (.ok (.val false (.tuple p.1)) p.2) := by
  rw [evE]
  refine bind_ext fun xs r1 => ?_
  cases takes r1 xs with
  | none => rfl
  | some p => show (if p.1.length ≤ sizeLine then _ else _) = _; rw [sizeLine_eq]; rfl
@[simp] theorem e_lst {es : CEs} : evE G (.lst es) r = (evEs G es r).bind fun xs r1 => oS (takes r1 xs) fun p => gS (p.1.length ≤ 16777216) (.ok (.val true (.list p.1)) p.2) := by
  rw [evE]
  refine bind_ext fun xs r1 => ?_
  cases takes r1 xs with
  | none => rfl
  | some p => show (if p.1.length ≤ sizeLine then _ else _) = _; rw [sizeLine_eq]; rfl
@[simp] theorem e_dic0 : evE G .dic0 r = .ok (.val true (.dict [])) r := by rw [evE]
@[simp] theorem e_bin {op : Operator} {a b : CE} : evE G (.bin op a b) r = (evE G a r).bind fun x r1 => (evE G b r1).bind fun y r2 => oS (dref r2 x) fun d => oS (dref r2 y) fun e => optR r2 (binD op d e) := by
  rw [evE]
  refine bind_ext fun x r1 => bind_ext fun y r2 => ?_
  cases dref r2 x <;> cases dref r2 y <;> rfl
@[simp] theorem e_rep {a b : CE} : evE G (.rep a b) r = (evE G a r).bind fun x r1 => (evE G b r1).bind fun y r2 => repR r2 x y := by rw [evE] <;> rfl
@[simp] theorem repR_nat {d : D} {n : Nat} (h : n ≤ 16777216) : repR r (.val true (.list [d])) (.val false (.int n)) = .ok (.val true (.list (List.replicate n d))) r := by
  have e : (List.replicate n [d]).flatten = List.replicate n d := by simp
  have e2 : (n : Int) < 2 ^ 63 ∧ -(2 ^ 63) ≤ (n : Int) ∧ [d].length * (n : Int).toNat ≤ sizeLine := by
    rw [sizeLine_eq]
    refine ⟨by omega, by omega, ?_⟩
    simp only [List.length_singleton, Int.toNat_natCast]
    omega
  unfold repR
  simp only [Int.toNat_natCast] at e2 ⊢
  rw [if_pos e2, e]
@[simp] theorem e_neg {a : CE} : evE G (.neg a) r = (evE G a r).bind fun x r1 => oS (rInt x) fun i => .ok (.val false (.int (-i))) r1 := by
  rw [evE]
  refine bind_ext fun x r1 => ?_
  cases x with
  | val o d => cases d <;> rfl
  | _ => rfl
@[simp] theorem e_cmp {op : CmpOp} {a b : CE} : evE G (.cmp op a b) r = (evE G a r).bind fun x r1 => (evE G b r1).bind fun y r2 => oS (dref r2 x) fun d => oS (dref r2 y) fun e => oS (cmpD op d e) fun k => .ok (.val false (.bool k)) r2 := by
  rw [evE]
  refine bind_ext fun x r1 => bind_ext fun y r2 => ?_
  cases dref r2 x with
  | none => cases dref r2 y <;> rfl
  | some d => cases dref r2 y with
    | none => rfl
    | some e =>
      show (match cmpD op d e with
      | some k => Rs.ok (R.val false (.bool k)) r2
      | none => .stuck) = oS (cmpD op d e) _
      cases cmpD op d e <;> rfl
@[simp] theorem e_chn {op1 op2 : CmpOp} {a b c : CE} : evE G (.chn op1 op2 a b c) r = (evE G a r).bind fun x r1 => (evE G b r1).bind fun y r2 => oS (dref r2 x) fun d => oS (dref r2 y) fun e => oS (cmpD op1 d e) fun k => bS k
    ((evE G c r2).bind fun z r3 => oS (dref r3 y) fun e' => oS (dref r3 z) fun f => oS (cmpD op2 e' f) fun k => .ok (.val false (.bool k)) r3) (.ok (.val false (.bool false)) r2) := by
  rw [evE]
  refine bind_ext fun x r1 => bind_ext fun y r2 => ?_
  cases dref r2 x with
  | none => cases dref r2 y <;> rfl
  | some d => cases dref r2 y with
    | none => rfl
    | some e =>
      simp only [oS_some, tick_off]
      cases cmpD op1 d e with
      | none => rfl
      | some k => cases k with
        | false => rfl
        | true =>
          simp only [oS_some, bS_true, tick_off]
          refine bind_ext fun z r3 => ?_
          cases dref r3 y with
          | none => cases dref r3 z <;> rfl
          | some d => cases dref r3 z with
            | none => rfl
            | some e =>
              simp only [oS_some, tick_off]
              cases cmpD op2 d e <;> rfl
@[simp] theorem e_and {a b : CE} : evE G (.and a b) r = (evE G a r).bind fun x r1 => oS (oO (dref r1 x) truD) fun k => bS k (evE G b r1) (.ok x r1) := by
  rw [evE]
  refine bind_ext fun x r1 => ?_
  cases dref r1 x with
  | none => rfl
  | some d =>
    simp only [Option.bind_some, oO_some, tick_off]
    cases truD d with
    | none => rfl
    | some k => cases k <;> rfl
@[simp] theorem e_or {a b : CE} : evE G (.or a b) r = (evE G a r).bind fun x r1 => oS (oO (dref r1 x) truD) fun k => bS k (.ok x r1) (evE G b r1) := by
  rw [evE]
  refine bind_ext fun x r1 => ?_
  cases dref r1 x with
  | none => rfl
  | some d =>
    simp only [Option.bind_some, oO_some, tick_off]
    cases truD d with
    | none => rfl
    | some k => cases k <;> rfl
@[simp] theorem e_not {a : CE} : evE G (.not a) r = (evE G a r).bind fun x r1 => oS (oO (dref r1 x) truD) fun k => .ok (.val false (.bool (!k))) r1 := by
  rw [evE]
  refine bind_ext fun x r1 => ?_
  cases dref r1 x with
  | none => rfl
  | some d =>
    simp only [Option.bind_some, oO_some, tick_off]
    cases truD d <;> rfl
@[simp] theorem e_ife {c : CT} {a b : CE} : evE G (.ife c a b) r = (evT G c r).bind fun k r1 => bS k (evE G a r1) (evE G b r1) := by
  rw [evE]
  refine bind_ext fun k r1 => ?_
  cases k <;> rfl
@[simp] theorem e_idx {a i : CE} : evE G (.idx a i) r = (evE G a r).bind fun x r1 => (evE G i r1).bind fun y r2 => oS (dref r2 x) fun d => oS (dref r2 y) fun e => oS (idxD d e) fun v => .ok (.val false v) r2 := by
  rw [evE]
  refine bind_ext fun x r1 => bind_ext fun y r2 => ?_
  cases dref r2 x with
  | none => cases dref r2 y <;> rfl
  | some d => cases dref r2 y with
    | none => rfl
    | some e =>
      simp only [oS_some, tick_off]
      cases idxD d e <;> rfl
@[simp] theorem e_sli {a : CE} {lo hi : CEo} : evE G (.sli a lo hi) r = (evE G a r).bind fun x r1 => (evO G lo r1).bind fun l r2 => (evO G hi r2).bind fun h r3 => oS (dref r3 x) fun d => optR r3 (sliD d l h) := by
  rw [evE]
  refine bind_ext fun x r1 => bind_ext fun l r2 => bind_ext fun h r3 => ?_
  cases dref r3 x <;> rfl
@[simp] theorem e_call {k : Nat} {es : CEs} : evE G (.call k es) r = (evEs G es r).bind fun xs r1 => callR G k xs r1 := by rw [evE] <;> rfl
@[simp] theorem e_callv {i : Nat} {es : CEs} : evE G (.callv i es) r = oS (svF r[i]?) fun k => gS ((G.sig k).all (!·) = true ∧ G.sig k ≠ []) ((evEs G es r).bind fun xs r1 => callR G k xs r1) := by
  rw [evE]
  cases r[i]? with
  | none => rfl
  | some x => cases x with
    | none => rfl
    | some y => cases y <;> rfl
@[simp] theorem callR_sv {k : Nat} {rs : List R} : callR G k rs r = oS (passA r [] (G.sig k) rs) fun p => crS (G.call k p.1) p.2.1 p.2.2 := by
  unfold callR
  cases passA r [] (G.sig k) rs with
  | none => rfl
  | some p =>
    simp only [oS_some, tick_off]
    cases G.call k p.1 with
    | ok o d refs =>
      simp only [crS_ok, tick_off]
      cases putRefs p.2.2 p.2.1 refs <;> rfl
    | exc x refs =>
      simp only [crS_exc, tick_off]
      cases putRefs p.2.2 p.2.1 refs <;> rfl
    | stuck => rfl
@[simp] theorem pass_nil {used : List Nat} : passA r used [] [] = some ([], [], r) := by rw [passA]
@[simp] theorem pass_fn {used : List Nat} {bs : List Bool} {k : Nat} {xs : List R} : passA r used (false :: bs) (.fn k :: xs) = oO (passA r used bs xs) fun p => some (.fn k :: p.1, p.2.1, p.2.2) := by
  rw [passA]
  cases passA r used bs xs <;> rfl
@[simp] theorem pass_val {used : List Nat} {bs : List Bool} {o : Bool} {d : D} {xs : List R} : passA r used (false :: bs) (.val o d :: xs) = oO (passA r used bs xs) fun p => some (.val d :: p.1, p.2.1, p.2.2) := by
  rw [passA]
  cases passA r used bs xs <;> rfl
@[simp] theorem pass_sl {used : List Nat} {bs : List Bool} {i : Nat} {xs : List R} : passA r used (false :: bs) (.sl i :: xs) = gO (¬ i ∈ used) (oO (take r (.sl i)) fun q => oO (passA q.2 used bs xs) fun p => some (.val q.1 :: p.1, p.2.1, p.2.2)) := by
  rw [passA]
  unfold gO
  by_cases h : i ∈ used
  · rw [if_pos h, if_neg (fun q => q h)]
  · rw [if_neg h, if_pos h]
    cases take r (.sl i) with
    | none => rfl
    | some q =>
      simp only [oO_some, tick_off]
      cases passA q.2 used bs xs <;> rfl
@[simp] theorem pass_rf {used : List Nat} {bs : List Bool} {i : Nat} {xs : List R} : passA r used (true :: bs) (.sl i :: xs) = gO (¬ i ∈ used) (oO (svO r[i]?) fun d => oO (passA r (i :: used) bs xs) fun p => some (.rf d :: p.1, i :: p.2.1, p.2.2)) := by
  rw [passA]
  unfold gO
  by_cases h : i ∈ used
  · rw [if_pos h, if_neg (fun q => q h)]
  · rw [if_neg h, if_pos h]
    cases r[i]? with
    | none => rfl
    | some x => cases x with
      | none => rfl
      | some y => cases y with
        | dat o d => cases o with
          | false => rfl
          | true =>
            simp only [svO_d, oO_some, tick_off]
            cases passA r (i :: used) bs xs <;> rfl
        | _ => rfl
@[simp] theorem e_blt {b : Blt} {es : CEs} : evE G (.blt b es) r = (evEs G es r).bind fun xs r1 => oS (drefs r1 xs) fun ds => optR r1 (bltD b ds) := by
  rw [evE]
  refine bind_ext fun xs r1 => ?_
  cases drefs r1 xs <;> rfl
@[simp] theorem e_rng0 {es : CEs} : evE G (.rng false es) r = (evEs G es r).bind fun xs r1 => oS (drefs r1 xs) fun ds => oS (rngD ds) fun is => gS (rngFew ds = true) (.ok (.val true (.list is)) r1) := by
  rw [evE]
  refine bind_ext fun xs r1 => ?_
  cases drefs r1 xs with
  | none => rfl
  | some ds =>
    simp only [oS_some, tick_off]
    cases rngD ds <;> rfl
@[simp] theorem e_rng1 {es : CEs} : evE G (.rng true es) r = (evEs G es r).bind fun xs r1 => oS (drefs r1 xs) fun ds => oS (rngD ds) fun is => gS (rngFew ds = true) (.ok (.val false (.tuple is)) r1) := by
  rw [evE]
  refine bind_ext fun xs r1 => ?_
  cases drefs r1 xs with
  | none => rfl
  | some ds =>
    simp only [oS_some, tick_off]
    cases rngD ds <;> rfl
@[simp] theorem e_isin {a : CE} {t : String} : evE G (.isin a t) r = (evE G a r).bind fun x r1 => oS (dref r1 x) fun d => oS (isTyD d t) fun k => .ok (.val false (.bool k)) r1 := by
  rw [evE]
  refine bind_ext fun x r1 => ?_
  cases dref r1 x with
  | none => rfl
  | some d =>
    simp only [oS_some, tick_off]
    cases isTyD d t <;> rfl
@[simp] theorem e_meth {m : Meth} {o : CE} {es : CEs} : evE G (.meth m o es) r = (evE G o r).bind fun x r1 => oS (dref r1 x) fun d0 => gS (methT m d0 ≠ "") ((evEs G es r1).bind fun xs r2 => oS (dref r2 x) fun d => oS (drefs r2 xs) fun ds => gS (tyName d0 = tyName d) (optR r2 (methD m d ds))) := by
  rw [evE]
  refine bind_ext fun x r1 => ?_
  cases dref r1 x with
  | none => rfl
  | some d0 =>
    simp only [oS_some, tick_off]
    unfold gS
    by_cases h : methT m d0 = ""
    · rw [if_pos h, if_neg (fun q => q h)]
    · rw [if_neg h, if_pos h]
      refine bind_ext fun xs r2 => ?_
      cases dref r2 x with
      | none => cases drefs r2 xs <;> rfl
      | some d => cases drefs r2 xs <;> rfl
@[simp] theorem e_mut {m : MMeth} {i : Nat} {es : CEs} : evE G (.mut m i es) r = oS (svL r[i]?) fun _ => (evEs G es r).bind fun xs r1 => oS (takes r1 xs) fun p => oS (svO p.2[i]?) fun d => oS (mutD m d p.1) fun q => .ok (.val false q.1) (p.2.set i (some (.dat true q.2))) := by
  rw [evE]
  have key : ∀ (xs : List R) (r1 : En), (match takes r1 xs with
      | some (ds, r2) => match r2[i]? with
        | some (some (.dat true d)) => match mutD m d ds with
          | some (v, d') => Rs.ok (R.val false v) (r2.set i (some (.dat true d')))
          | none => .stuck
        | _ => .stuck
      | none => .stuck) = oS (takes r1 xs) fun p => oS (svO p.2[i]?) fun d => oS (mutD m d p.1) fun q => .ok (.val false q.1) (p.2.set i (some (.dat true q.2))) := by
    intro xs r1
    cases takes r1 xs with
    | none => rfl
    | some p =>
      simp only [oS_some, tick_off]
      cases p.2[i]? with
      | none => rfl
      | some x => cases x with
        | none => rfl
        | some y => cases y with
          | dat o d => cases o with
            | false => rfl
            | true =>
              simp only [svO_d, oS_some, tick_off]
              cases mutD m d p.1 <;> rfl
          | _ => rfl
  cases hr : r[i]? with
  | none => rfl
  | some x => cases x with
    | none => rfl
    | some y => cases y with
      | dat o d => cases o with
        | false => rfl
        | true => cases d with
          | list xs =>
            simp only [svL_l, oS_some, tick_off]
            exact bind_ext key
          | _ => rfl
      | _ => rfl
@[simp] theorem e_nil : evEs G .nil r = .ok [] r := by rw [evEs]
@[simp] theorem e_cons {e : CE} {es : CEs} : evEs G (.cons e es) r = (evE G e r).bind fun x r1 => (evEs G es r1).bind fun xs r2 => .ok (x :: xs) r2 := by rw [evEs] <;> rfl
@[simp] theorem o_non : evO G .non r = .ok none r := by rw [evO]
@[simp] theorem o_som {e : CE} : evO G (.som e) r = (evE G e r).bind fun x r1 => oS (rInt x) fun i => .ok (some i) r1 := by
  rw [evO]
  refine bind_ext fun x r1 => ?_
  cases x with
  | val o d => cases d <;> rfl
  | _ => rfl
@[simp] theorem c_non : evC G .non r = .ok true r := by rw [evC]
@[simp] theorem c_som {e : CT} : evC G (.som e) r = evT G e r := by rw [evC]
@[simp] theorem t_and {a b : CT} : evT G (.and a b) r = (evT G a r).bind fun k r1 => bS k (evT G b r1) (.ok false r1) := by
  rw [evT]
  refine bind_ext fun k r1 => ?_
  cases k <;> rfl
@[simp] theorem t_or {a b : CT} : evT G (.or a b) r = (evT G a r).bind fun k r1 => bS k (.ok true r1) (evT G b r1) := by
  rw [evT]
  refine bind_ext fun k r1 => ?_
  cases k <;> rfl
@[simp] theorem t_not {a : CT} : evT G (.not a) r = (evT G a r).bind fun k r1 => .ok (!k) r1 := by rw [evT] <;> rfl
@[simp] theorem t_ex {e : CE} : evT G (.ex e) r = (evE G e r).bind fun x r1 => oS (oO (dref r1 x) truD) fun k => .ok k r1 := by
  rw [evT]
  refine bind_ext fun x r1 => ?_
  cases dref r1 x with
  | none => rfl
  | some d =>
    simp only [Option.bind_some, oO_some, tick_off]
    cases truD d <;> rfl
@[simp] theorem i_seq {e : CE} : evI G (.seq e) r = (evE G e r).bind fun x r1 => oS (take r1 x) fun p => oS (seqOf p.1) fun xs => .ok xs p.2 := by
  rw [evI]
  refine bind_ext fun x r1 => ?_
  cases take r1 x with
  | none => rfl
  | some p =>
    simp only [oS_some, tick_off]
    cases seqOf p.1 <;> rfl
@[simp] theorem i_rng {es : CEs} : evI G (.rng es) r = (evEs G es r).bind fun xs r1 => oS (drefs r1 xs) fun ds => oS (rngD ds) fun is => .ok is r1 := by
  rw [evI]
  refine bind_ext fun xs r1 => ?_
  cases drefs r1 xs with
  | none => rfl
  | some ds =>
    simp only [oS_some, tick_off]
    cases rngD ds <;> rfl
def one_ : List D → Option D
  | [d] => some d
  | _ => none
def two_ : List D → Option (D × D)
  | [d, e] => some (d, e)
  | _ => none
@[simp] theorem one_is {d : D} : one_ [d] = some d := same rfl
@[simp] theorem two_is {d e : D} : two_ [d, e] = some (d, e) := same rfl
@[simp] theorem i_enum {es : CEs} : evI G (.enum es) r = (evEs G es r).bind fun xs r1 => oS (takes r1 xs) fun p => oS (one_ p.1) fun d => oS (seqOf d) fun ys => .ok (enumT 0 ys) p.2 := by
  rw [evI]
  refine bind_ext fun xs r1 => ?_
  cases takes r1 xs with
  | none => rfl
  | some p =>
    obtain ⟨ds, r2⟩ := p
    simp only [oS_some, tick_off]
    match ds with
    | [] => rfl
    | [d] =>
      simp only [one_is, oS_some, tick_off]
      cases seqOf d <;> rfl
    | _ :: _ :: _ => rfl
@[simp] theorem i_zip {es : CEs} : evI G (.zip es) r = (evEs G es r).bind fun xs r1 => oS (takes r1 xs) fun p => oS (two_ p.1) fun d => oS (zipD d.1 d.2) fun ys => .ok ys p.2 := by
  rw [evI]
  refine bind_ext fun xs r1 => ?_
  cases takes r1 xs with
  | none => rfl
  | some p =>
    obtain ⟨ds, r2⟩ := p
    simp only [oS_some, tick_off]
    match ds with
    | [] => rfl
    | [d] => rfl
    | [d, e] =>
      simp only [two_is, oS_some, tick_off]
      cases zipD d e <;> rfl
    | _ :: _ :: _ :: _ => rfl
@[simp] theorem seqOf_list {xs : List D} : seqOf (.list xs) = some xs := same rfl
@[simp] theorem seqOf_tuple {xs : List D} : seqOf (.tuple xs) = some xs := same rfl
@[simp] theorem truD_bool {b : Bool} : truD (.bool b) = some b := same rfl
@[simp] theorem bindT_nm {d : D} {i : Nat} : bindT d r (.nm i) = gO (i < r.length) (some (r.set i (some (.dat false d)))) := by rw [bindT]; rfl
@[simp] theorem bindT_tup {ds : List D} {ts : List Tg} : bindT (.tuple ds) r (.tup ts) = bindTs ds r ts := by rw [bindT]
@[simp] theorem bindTs_nil : bindTs [] r [] = some r := by rw [bindTs]
@[simp] theorem bindTs_cons {d : D} {ds : List D} {t : Tg} {ts : List Tg} : bindTs (d :: ds) r (t :: ts) = oO (bindT d r t) fun r1 => bindTs ds r1 ts := by
  rw [bindTs]
  show (match bindT d r t with
      | some r1 => bindTs ds r1 ts
      | none => none) = _
  cases bindT d r t <;> rfl
@[simp] theorem wipeE_nil : wipeE r [] = r := same rfl
@[simp] theorem wipeE_cons {v : Nat} {vs : List Nat} : wipeE r (v :: vs) = (wipeE r vs).set v none := same rfl
@[simp] theorem backE_nil {r0 : En} : backE r0 r [] = r := same rfl
@[simp] theorem backE_cons {r0 : En} {v : Nat} {vs : List Nat} : backE r0 r (v :: vs) = (backE r0 r vs).set v ((r0[v]?).getD none) := same rfl
@[simp] theorem s_ret {e : CE} : evS G (.ret e) r = (evE G e r).so fun x r1 => .ret x r1 := by rw [evS]
@[simp] theorem s_retN : evS G .retN r = .ret (.val false .none) r := by rw [evS]
@[simp] theorem s_ex {e : CE} : evS G (.ex e) r = (evE G e r).so fun _ r1 => .nx r1 := by rw [evS]
@[simp] theorem s_set {i : Nat} {e : CE} : evS G (.set i e) r = (evE G e r).so fun x r1 => oX (putSlot i x r1) fun r2 => .nx r2 := by
  rw [evS]
  refine so_ext fun x r1 => ?_
  cases putSlot i x r1 <;> rfl
@[simp] theorem s_par {is : List Nat} {es : CEs} : evS G (.par is es) r = (evEs G es r).so fun xs r1 => oX (settle r1 xs) fun p => oX (putPar is p.1 p.2) fun r3 => .nx r3 := by
  rw [evS]
  refine so_ext fun xs r1 => ?_
  cases settle r1 xs with
  | none => rfl
  | some p =>
    simp only [oX_some, tick_off]
    cases putPar is p.1 p.2 <;> rfl
@[simp] theorem s_asg {t : TX} {e : CE} : evS G (.asg t e) r = (evE G e r).so fun x r1 => oX (take r1 x) fun p => (evX G t p.1 p.2).so fun _ r3 => .nx r3 := by
  rw [evS]
  refine so_ext fun x r1 => ?_
  cases take r1 x <;> rfl
@[simp] theorem s_ite {t : CT} {a b : CSs} : evS G (.ite t a b) r = (evT G t r).so fun k r1 => bX k (evSs G a r1) (evSs G b r1) := by
  rw [evS]
  refine so_ext fun k r1 => ?_
  cases k <;> rfl
@[simp] theorem s_whl {t : CT} {b : CSs} : evS G (.whl t b) r = whileF (evT G t) (evSs G b) G.fuel r := by rw [evS]
@[simp] theorem s_for {tg : Tg} {it : CI} {b : CSs} : evS G (.for tg it b) r = (evI G it r).so fun xs r1 => forF (fun d r => bindT d r tg) (evSs G b) xs r1 := by rw [evS]
@[simp] theorem s_pass : evS G .pass r = .nx r := by rw [evS]
@[simp] theorem s_brk : evS G .brk r = .brk r := by rw [evS]
@[simp] theorem s_cont : evS G .cont r = .cont r := by rw [evS]
@[simp] theorem s_rais {c : Nat} {es : CEs} : evS G (.rais c es) r = (evEs G es r).so fun xs r1 => oX (takes r1 xs) fun p => oX (G.exf c) fun fs => .exc ⟨c, fs.zip p.1⟩ p.2 := by
  rw [evS]
  refine so_ext fun xs r1 => ?_
  cases takes r1 xs with
  | none => rfl
  | some p =>
    simp only [oX_some, tick_off]
    cases G.exf c <;> rfl
/-- what a try makes of its body's end -/
def tryX (h : Ex → En → So) : So → So
  | .exc x r => h x r
  | o => o
@[simp] theorem tryX_exc {h : Ex → En → So} {x : Ex} : tryX h (.exc x r) = h x r := same rfl
@[simp] theorem tryX_nx {h : Ex → En → So} : tryX h (.nx r) = .nx r := same rfl
@[simp] theorem tryX_ret {h : Ex → En → So} {x : R} : tryX h (.ret x r) = .ret x r := same rfl
@[simp] theorem s_try {b : CSs} {hs : Hds} : evS G (.try_ b hs) r = tryX (evH G hs) (evSs G b r) := by
  rw [evS]
  cases evSs G b r <;> rfl
/-- a handler may not raise -/
def noX : So → So
  | .exc _ _ => .stuck
  | o => o
@[simp] theorem noX_nx : noX (.nx r) = .nx r := same rfl
@[simp] theorem noX_ret {x : R} : noX (.ret x r) = .ret x r := same rfl
@[simp] theorem h_cons {c : Nat} {b : CSs} {hs : Hds} {x : Ex} : evH G (.cons c none b hs) x r = oX (G.sub x.cls c) fun k => bX k (noX (evSs G b r)) (evH G hs x r) := by
  rw [evH]
  cases G.sub x.cls c with
  | none => rfl
  | some k => cases k with
    | false => rfl
    | true =>
      simp only [oX_some, bX_true, tick_off]
      cases evSs G b r <;> rfl
@[simp] theorem h_nil {x : Ex} : evH G .nil x r = .exc x r := by rw [evH]
@[simp] theorem ss_nil : evSs G .nil r = .nx r := by rw [evSs]
@[simp] theorem ss_cons {s : CS} {ss : CSs} : evSs G (.cons s ss) r = (evS G s r).then fun r1 => evSs G ss r1 := by rw [evSs]
@[simp] theorem x_nm {i : Nat} {d : D} : evX G (.nm i) d r = gS (i < r.length) (.ok () (r.set i (some (.dat false d)))) := by rw [evX]; rfl
@[simp] theorem x_sub {i : Nat} {ix : CE} {d : D} : evX G (.sub i ix) d r = oS (svO r[i]?) fun _ => (evE G ix r).bind fun x r1 => oS (dref r1 x) fun k => oS (svO r1[i]?) fun c => oS (setD c k d) fun c' => .ok () (r1.set i (some (.dat true c'))) := by
  rw [evX]
  have key : ∀ (x : R) (r1 : En), (match dref r1 x with
      | some k => match r1[i]? with
        | some (some (.dat true c)) => match setD c k d with
          | some c' => Rs.ok () (r1.set i (some (.dat true c')))
          | none => .stuck
        | _ => .stuck
      | none => .stuck) = oS (dref r1 x) fun k => oS (svO r1[i]?) fun c => oS (setD c k d) fun c' => .ok () (r1.set i (some (.dat true c'))) := by
    intro x r1
    cases dref r1 x with
    | none => rfl
    | some k =>
      simp only [oS_some, tick_off]
      cases r1[i]? with
      | none => rfl
      | some x => cases x with
        | none => rfl
        | some y => cases y with
          | dat o c => cases o with
            | false => rfl
            | true =>
              simp only [svO_d, oS_some, tick_off]
              cases setD c k d <;> rfl
          | _ => rfl
  cases r[i]? with
  | none => rfl
  | some x => cases x with
    | none => rfl
    | some y => cases y with
      | dat o c => cases o with
        | false => rfl
        | true =>
          simp only [svO_d, oS_some, tick_off]
          exact bind_ext key
      | _ => rfl
@[simp] theorem putSlot_val {i : Nat} {o : Bool} {d : D} : putSlot i (.val o d) r = gO (i < r.length) (some (r.set i (some (.dat o d)))) := same rfl
@[simp] theorem putSlot_fn {i : Nat} {k : Nat} : putSlot i (.fn k) r = gO (i < r.length) (some (r.set i (some (.fn k)))) := same rfl
@[simp] theorem putSlot_sl {i j : Nat} : putSlot i (.sl j) r = gO (i < r.length) (oO (svD r[j]?) fun d => some ((r.set j (some (.dat false d))).set i (some (.dat false d)))) := by
  unfold putSlot gO
  by_cases h : i < r.length
  · rw [if_pos h, if_pos h]
    show (match r[j]? with
      | some (some (.dat _ d)) => some ((r.set j (some (.dat false d))).set i (some (.dat false d)))
      | _ => none) = _
    cases r[j]? with
    | none => rfl
    | some x => cases x with
      | none => rfl
      | some y => cases y <;> rfl
  · rw [if_neg h, if_neg h]
@[simp] theorem settle_nil : settle r [] = some ([], r) := same rfl
@[simp] theorem settle_val {o : Bool} {d : D} {xs : List R} : settle r (.val o d :: xs) = oO (settle r xs) fun p => some (.val o d :: p.1, p.2) := by
  show (match settle r xs with
    | some (ys, r1) => some (R.val o d :: ys, r1)
    | none => none) = _
  cases settle r xs <;> rfl
@[simp] theorem settle_sl {i : Nat} {xs : List R} : settle r (.sl i :: xs) = oO (take r (.sl i)) fun q => oO (settle q.2 xs) fun p => some (.val false q.1 :: p.1, p.2) := by
  show (match take r (.sl i) with
    | some (d, r1) => match settle r1 xs with
      | some (ys, r2) => some (R.val false d :: ys, r2)
      | none => none
    | none => none) = _
  cases take r (.sl i) with
  | none => rfl
  | some q =>
    simp only [oO_some, tick_off]
    cases settle q.2 xs <;> rfl
@[simp] theorem putPar_nil : putPar [] [] r = some r := same rfl
@[simp] theorem putPar_cons {i : Nat} {is : List Nat} {o : Bool} {d : D} {xs : List R} : putPar (i :: is) (.val o d :: xs) r = gO (i < r.length) (putPar is xs (r.set i (some (.dat o d)))) := same rfl
@[simp] theorem putRefs_nil : putRefs r [] [] = some r := same rfl
@[simp] theorem putRefs_cons {i : Nat} {is : List Nat} {d : D} {ds : List D} : putRefs r (i :: is) (d :: ds) = putRefs (r.set i (some (.dat true d))) is ds := same rfl
@[simp] theorem gs_call {P : Prg} {c : Nat → List Ag → Cr} : (P.gs c).call = c := same rfl
@[simp] theorem gs_fuel {P : Prg} {c : Nat → List Ag → Cr} : (P.gs c).fuel = 1000000 := same rfl
end
end E2
namespace E2
open PySem L2
@[simp] theorem sizeLine_num : sizeLine = 16777216 := sizeLine_eq
@[simp] theorem rngD_one {n : Nat} (h : n ≤ 16777216) : rngD [.int n] = some ((List.range n).map dn) := by
  have e : rngOk 0 n = true := by
    unfold rngOk
    exact decide_eq_true ⟨by omega, by omega, by omega, by omega⟩
  show (if rngOk 0 n = true then some (rngI 0 n) else none) = _
  rw [if_pos e, rngI_zero]
@[simp] theorem rngFew_one {n : Nat} (h : n ≤ 16777216) : rngFew [.int n] = true := by
  unfold rngFew
  exact decide_eq_true (by omega)
theorem rngD_two {a b : Nat} (h : b ≤ 16777216) (h' : a ≤ 16777216) : rngD [.int a, .int b] = some ((List.range (b - a)).map fun i => dn (a + i)) := by
  have e : rngOk a b = true := by
    unfold rngOk
    exact decide_eq_true ⟨by omega, by omega, by omega, by omega⟩
  show (if rngOk a b = true then some (rngI a b) else none) = _
  rw [if_pos e, rngI_nat]
@[simp] theorem idxD_list {xs : List D} {n : Nat} : idxD (.list xs) (.int n) = xs[n]? := atI_nat xs n
@[simp] theorem idxD_tuple {xs : List D} {n : Nat} : idxD (.tuple xs) (.int n) = xs[n]? := atI_nat xs n
@[simp] theorem setD_nat {xs : List D} {n : Nat} {v : D} (h : n < xs.length) : setD (.list xs) (.int n) v = some (.list (xs.set n v)) := by
  show (ixN xs.length n).map (fun j => PyData.list (xs.set j v)) = _
  rw [ixN_nat h]; rfl
@[simp] theorem blt_len_list {xs : List D} : bltD .len [.list xs] = some (false, .int xs.length) := same rfl
@[simp] theorem blt_len_tuple {xs : List D} : bltD .len [.tuple xs] = some (false, .int xs.length) := same rfl
@[simp] theorem blt_tuple_list {xs : List D} : bltD .tuple [.list xs] = some (false, .tuple xs) := same rfl
@[simp] theorem blt_tuple_tuple {xs : List D} : bltD .tuple [.tuple xs] = some (false, .tuple xs) := same rfl
@[simp] theorem blt_list_list {xs : List D} : bltD .list [.list xs] = some (true, .list xs) := same rfl
@[simp] theorem blt_list_tuple {xs : List D} : bltD .list [.tuple xs] = some (true, .list xs) := same rfl
@[simp] theorem bin_add {i j : Int} : binD .Add (.int i) (.int j) = some (false, .int (i + j)) := same rfl
@[simp] theorem bin_sub {i j : Int} : binD .Sub (.int i) (.int j) = some (false, .int (i - j)) := same rfl
end E2
namespace E2
open PySem L2
section
variable {G : Gs} {r : En} {P : Pt} {X : Ex → En → Prop}
@[simp ↓] theorem w_e_var {i : Nat} {Q : R → En → Prop} : (evE G (.var i) r).w Q X ↔ (oS (svR i r[i]?) fun x => .ok x r : Rs (R)).w Q X := by rw [e_var]
@[simp ↓] theorem w_e_cst {d : D} {Q : R → En → Prop} : (evE G (.cst d) r).w Q X ↔ (.ok (.val false d) r : Rs (R)).w Q X := by rw [e_cst]
@[simp ↓] theorem w_e_gc {g : Nat} {Q : R → En → Prop} : (evE G (.gc g) r).w Q X ↔ (oS (G.gcs g) fun d => .ok (.val false d) r : Rs (R)).w Q X := by rw [e_gc]
@[simp ↓] theorem w_e_fnv {k : Nat} {Q : R → En → Prop} : (evE G (.fnv k) r).w Q X ↔ (.ok (.fn k) r : Rs (R)).w Q X := by rw [e_fnv]
@[simp ↓] theorem w_e_tup {es : CEs} {Q : R → En → Prop} : (evE G (.tup es) r).w Q X ↔ ((evEs G es r).bind fun xs r1 => oS (takes r1 xs) fun p => gS (p.1.length ≤ 16777216) (.ok (.val false (.tuple p.1)) p.2) : Rs (R)).w Q X := by rw [e_tup]
@[simp ↓] theorem w_e_lst {es : CEs} {Q : R → En → Prop} : (evE G (.lst es) r).w Q X ↔ ((evEs G es r).bind fun xs r1 => oS (takes r1 xs) fun p => gS (p.1.length ≤ 16777216) (.ok (.val true (.list p.1)) p.2) : Rs (R)).w Q X := by rw [e_lst]
@[simp ↓] theorem w_e_dic0 {Q : R → En → Prop} : (evE G .dic0 r).w Q X ↔ (.ok (.val true (.dict [])) r : Rs (R)).w Q X := by rw [e_dic0]
@[simp ↓] theorem w_e_bin {op : Operator} {a b : CE} {Q : R → En → Prop} : (evE G (.bin op a b) r).w Q X ↔ ((evE G a r).bind fun x r1 => (evE G b r1).bind fun y r2 => oS (dref r2 x) fun d => oS (dref r2 y) fun e => optR r2 (binD op d e) : Rs (R)).w Q X := by rw [e_bin]
@[simp ↓] theorem w_e_rep {a b : CE} {Q : R → En → Prop} : (evE G (.rep a b) r).w Q X ↔ ((evE G a r).bind fun x r1 => (evE G b r1).bind fun y r2 => repR r2 x y : Rs (R)).w Q X := by rw [e_rep]
@[simp ↓] theorem w_e_neg {a : CE} {Q : R → En → Prop} : (evE G (.neg a) r).w Q X ↔ ((evE G a r).bind fun x r1 => oS (rInt x) fun i => .ok (.val false (.int (-i))) r1 : Rs (R)).w Q X := by rw [e_neg]
@[simp ↓] theorem w_e_cmp {op : CmpOp} {a b : CE} {Q : R → En → Prop} : (evE G (.cmp op a b) r).w Q X ↔ ((evE G a r).bind fun x r1 => (evE G b r1).bind fun y r2 => oS (dref r2 x) fun d => oS (dref r2 y) fun e => oS (cmpD op d e) fun k => .ok (.val false (.bool k)) r2 : Rs (R)).w Q X := by rw [e_cmp]
@[simp ↓] theorem w_e_chn {op1 op2 : CmpOp} {a b c : CE} {Q : R → En → Prop} : (evE G (.chn op1 op2 a b c) r).w Q X ↔ ((evE G a r).bind fun x r1 => (evE G b r1).bind fun y r2 => oS (dref r2 x) fun d => oS (dref r2 y) fun e => oS (cmpD op1 d e) fun k => bS k
    ((evE G c r2).bind fun z r3 => oS (dref r3 y) fun e' => oS (dref r3 z) fun f => oS (cmpD op2 e' f) fun k => .ok (.val false (.bool k)) r3) (.ok (.val false (.bool false)) r2) : Rs (R)).w Q X := by rw [e_chn]
@[simp ↓] theorem w_e_and {a b : CE} {Q : R → En → Prop} : (evE G (.and a b) r).w Q X ↔ ((evE G a r).bind fun x r1 => oS (oO (dref r1 x) truD) fun k => bS k (evE G b r1) (.ok x r1) : Rs (R)).w Q X := by rw [e_and]
@[simp ↓] theorem w_e_or {a b : CE} {Q : R → En → Prop} : (evE G (.or a b) r).w Q X ↔ ((evE G a r).bind fun x r1 => oS (oO (dref r1 x) truD) fun k => bS k (.ok x r1) (evE G b r1) : Rs (R)).w Q X := by rw [e_or]
@[simp ↓] theorem w_e_not {a : CE} {Q : R → En → Prop} : (evE G (.not a) r).w Q X ↔ ((evE G a r).bind fun x r1 => oS (oO (dref r1 x) truD) fun k => .ok (.val false (.bool (!k))) r1 : Rs (R)).w Q X := by rw [e_not]
@[simp ↓] theorem w_e_ife {c : CT} {a b : CE} {Q : R → En → Prop} : (evE G (.ife c a b) r).w Q X ↔ ((evT G c r).bind fun k r1 => bS k (evE G a r1) (evE G b r1) : Rs (R)).w Q X := by rw [e_ife]
@[simp ↓] theorem w_e_idx {a i : CE} {Q : R → En → Prop} : (evE G (.idx a i) r).w Q X ↔ ((evE G a r).bind fun x r1 => (evE G i r1).bind fun y r2 => oS (dref r2 x) fun d => oS (dref r2 y) fun e => oS (idxD d e) fun v => .ok (.val false v) r2 : Rs (R)).w Q X := by rw [e_idx]
@[simp ↓] theorem w_e_sli {a : CE} {lo hi : CEo} {Q : R → En → Prop} : (evE G (.sli a lo hi) r).w Q X ↔ ((evE G a r).bind fun x r1 => (evO G lo r1).bind fun l r2 => (evO G hi r2).bind fun h r3 => oS (dref r3 x) fun d => optR r3 (sliD d l h) : Rs (R)).w Q X := by rw [e_sli]
@[simp ↓] theorem w_e_call {k : Nat} {es : CEs} {Q : R → En → Prop} : (evE G (.call k es) r).w Q X ↔ ((evEs G es r).bind fun xs r1 => callR G k xs r1 : Rs (R)).w Q X := by rw [e_call]
@[simp ↓] theorem w_e_callv {i : Nat} {es : CEs} {Q : R → En → Prop} : (evE G (.callv i es) r).w Q X ↔ (oS (svF r[i]?) fun k => gS ((G.sig k).all (!·) = true ∧ G.sig k ≠ []) ((evEs G es r).bind fun xs r1 => callR G k xs r1) : Rs (R)).w Q X := by rw [e_callv]
@[simp ↓] theorem w_callR_sv {k : Nat} {rs : List R} {Q : R → En → Prop} : (callR G k rs r).w Q X ↔ (oS (passA r [] (G.sig k) rs) fun p => crS (G.call k p.1) p.2.1 p.2.2 : Rs (R)).w Q X := by rw [callR_sv]
@[simp ↓] theorem w_e_blt {b : Blt} {es : CEs} {Q : R → En → Prop} : (evE G (.blt b es) r).w Q X ↔ ((evEs G es r).bind fun xs r1 => oS (drefs r1 xs) fun ds => optR r1 (bltD b ds) : Rs (R)).w Q X := by rw [e_blt]
@[simp ↓] theorem w_e_rng0 {es : CEs} {Q : R → En → Prop} : (evE G (.rng false es) r).w Q X ↔ ((evEs G es r).bind fun xs r1 => oS (drefs r1 xs) fun ds => oS (rngD ds) fun is => gS (rngFew ds = true) (.ok (.val true (.list is)) r1) : Rs (R)).w Q X := by rw [e_rng0]
@[simp ↓] theorem w_e_rng1 {es : CEs} {Q : R → En → Prop} : (evE G (.rng true es) r).w Q X ↔ ((evEs G es r).bind fun xs r1 => oS (drefs r1 xs) fun ds => oS (rngD ds) fun is => gS (rngFew ds = true) (.ok (.val false (.tuple is)) r1) : Rs (R)).w Q X := by rw [e_rng1]
@[simp ↓] theorem w_e_isin {a : CE} {t : String} {Q : R → En → Prop} : (evE G (.isin a t) r).w Q X ↔ ((evE G a r).bind fun x r1 => oS (dref r1 x) fun d => oS (isTyD d t) fun k => .ok (.val false (.bool k)) r1 : Rs (R)).w Q X := by rw [e_isin]
@[simp ↓] theorem w_e_meth {m : Meth} {o : CE} {es : CEs} {Q : R → En → Prop} : (evE G (.meth m o es) r).w Q X ↔ ((evE G o r).bind fun x r1 => oS (dref r1 x) fun d0 => gS (methT m d0 ≠ "") ((evEs G es r1).bind fun xs r2 => oS (dref r2 x) fun d => oS (drefs r2 xs) fun ds => gS (tyName d0 = tyName d) (optR r2 (methD m d ds))) : Rs (R)).w Q X := by rw [e_meth]
@[simp ↓] theorem w_e_mut {m : MMeth} {i : Nat} {es : CEs} {Q : R → En → Prop} : (evE G (.mut m i es) r).w Q X ↔ (oS (svL r[i]?) fun _ => (evEs G es r).bind fun xs r1 => oS (takes r1 xs) fun p => oS (svO p.2[i]?) fun d => oS (mutD m d p.1) fun q => .ok (.val false q.1) (p.2.set i (some (.dat true q.2))) : Rs (R)).w Q X := by rw [e_mut]
@[simp ↓] theorem w_e_nil {Q : List R → En → Prop} : (evEs G .nil r).w Q X ↔ (.ok [] r : Rs (List R)).w Q X := by rw [e_nil]
@[simp ↓] theorem w_e_cons {e : CE} {es : CEs} {Q : List R → En → Prop} : (evEs G (.cons e es) r).w Q X ↔ ((evE G e r).bind fun x r1 => (evEs G es r1).bind fun xs r2 => .ok (x :: xs) r2 : Rs (List R)).w Q X := by rw [e_cons]
@[simp ↓] theorem w_o_non {Q : Option Int → En → Prop} : (evO G .non r).w Q X ↔ (.ok none r : Rs (Option Int)).w Q X := by rw [o_non]
@[simp ↓] theorem w_o_som {e : CE} {Q : Option Int → En → Prop} : (evO G (.som e) r).w Q X ↔ ((evE G e r).bind fun x r1 => oS (rInt x) fun i => .ok (some i) r1 : Rs (Option Int)).w Q X := by rw [o_som]
@[simp ↓] theorem w_c_non {Q : Bool → En → Prop} : (evC G .non r).w Q X ↔ (.ok true r : Rs (Bool)).w Q X := by rw [c_non]
@[simp ↓] theorem w_c_som {e : CT} {Q : Bool → En → Prop} : (evC G (.som e) r).w Q X ↔ (evT G e r : Rs (Bool)).w Q X := by rw [c_som]
@[simp ↓] theorem w_t_and {a b : CT} {Q : Bool → En → Prop} : (evT G (.and a b) r).w Q X ↔ ((evT G a r).bind fun k r1 => bS k (evT G b r1) (.ok false r1) : Rs (Bool)).w Q X := by rw [t_and]
@[simp ↓] theorem w_t_or {a b : CT} {Q : Bool → En → Prop} : (evT G (.or a b) r).w Q X ↔ ((evT G a r).bind fun k r1 => bS k (.ok true r1) (evT G b r1) : Rs (Bool)).w Q X := by rw [t_or]
@[simp ↓] theorem w_t_not {a : CT} {Q : Bool → En → Prop} : (evT G (.not a) r).w Q X ↔ ((evT G a r).bind fun k r1 => .ok (!k) r1 : Rs (Bool)).w Q X := by rw [t_not]
@[simp ↓] theorem w_t_ex {e : CE} {Q : Bool → En → Prop} : (evT G (.ex e) r).w Q X ↔ ((evE G e r).bind fun x r1 => oS (oO (dref r1 x) truD) fun k => .ok k r1 : Rs (Bool)).w Q X := by rw [t_ex]
@[simp ↓] theorem w_i_seq {e : CE} {Q : List D → En → Prop} : (evI G (.seq e) r).w Q X ↔ ((evE G e r).bind fun x r1 => oS (take r1 x) fun p => oS (seqOf p.1) fun xs => .ok xs p.2 : Rs (List D)).w Q X := by rw [i_seq]
@[simp ↓] theorem w_i_rng {es : CEs} {Q : List D → En → Prop} : (evI G (.rng es) r).w Q X ↔ ((evEs G es r).bind fun xs r1 => oS (drefs r1 xs) fun ds => oS (rngD ds) fun is => .ok is r1 : Rs (List D)).w Q X := by rw [i_rng]
@[simp ↓] theorem w_i_enum {es : CEs} {Q : List D → En → Prop} : (evI G (.enum es) r).w Q X ↔ ((evEs G es r).bind fun xs r1 => oS (takes r1 xs) fun p => oS (one_ p.1) fun d => oS (seqOf d) fun ys => .ok (enumT 0 ys) p.2 : Rs (List D)).w Q X := by rw [i_enum]
@[simp ↓] theorem w_i_zip {es : CEs} {Q : List D → En → Prop} : (evI G (.zip es) r).w Q X ↔ ((evEs G es r).bind fun xs r1 => oS (takes r1 xs) fun p => oS (two_ p.1) fun d => oS (zipD d.1 d.2) fun ys => .ok ys p.2 : Rs (List D)).w Q X := by rw [i_zip]
@[simp ↓] theorem w_s_ret {e : CE} : (evS G (.ret e) r).w P ↔ (((evE G e r).so fun x r1 => .ret x r1 : So)).w P := by rw [s_ret]
@[simp ↓] theorem w_s_retN : (evS G .retN r).w P ↔ ((.ret (.val false .none) r : So)).w P := by rw [s_retN]
@[simp ↓] theorem w_s_ex {e : CE} : (evS G (.ex e) r).w P ↔ (((evE G e r).so fun _ r1 => .nx r1 : So)).w P := by rw [s_ex]
@[simp ↓] theorem w_s_set {i : Nat} {e : CE} : (evS G (.set i e) r).w P ↔ (((evE G e r).so fun x r1 => oX (putSlot i x r1) fun r2 => .nx r2 : So)).w P := by rw [s_set]
@[simp ↓] theorem w_s_par {is : List Nat} {es : CEs} : (evS G (.par is es) r).w P ↔ (((evEs G es r).so fun xs r1 => oX (settle r1 xs) fun p => oX (putPar is p.1 p.2) fun r3 => .nx r3 : So)).w P := by rw [s_par]
@[simp ↓] theorem w_s_asg {t : TX} {e : CE} : (evS G (.asg t e) r).w P ↔ (((evE G e r).so fun x r1 => oX (take r1 x) fun p => (evX G t p.1 p.2).so fun _ r3 => .nx r3 : So)).w P := by rw [s_asg]
@[simp ↓] theorem w_s_ite {t : CT} {a b : CSs} : (evS G (.ite t a b) r).w P ↔ (((evT G t r).so fun k r1 => bX k (evSs G a r1) (evSs G b r1) : So)).w P := by rw [s_ite]
@[simp ↓] theorem w_s_whl {t : CT} {b : CSs} : (evS G (.whl t b) r).w P ↔ ((whileF (evT G t) (evSs G b) G.fuel r : So)).w P := by rw [s_whl]
@[simp ↓] theorem w_s_for {tg : Tg} {it : CI} {b : CSs} : (evS G (.for tg it b) r).w P ↔ (((evI G it r).so fun xs r1 => forF (fun d r => bindT d r tg) (evSs G b) xs r1 : So)).w P := by rw [s_for]
@[simp ↓] theorem w_s_pass : (evS G .pass r).w P ↔ ((.nx r : So)).w P := by rw [s_pass]
@[simp ↓] theorem w_s_brk : (evS G .brk r).w P ↔ ((.brk r : So)).w P := by rw [s_brk]
@[simp ↓] theorem w_s_cont : (evS G .cont r).w P ↔ ((.cont r : So)).w P := by rw [s_cont]
@[simp ↓] theorem w_s_rais {c : Nat} {es : CEs} : (evS G (.rais c es) r).w P ↔ (((evEs G es r).so fun xs r1 => oX (takes r1 xs) fun p => oX (G.exf c) fun fs => .exc ⟨c, fs.zip p.1⟩ p.2 : So)).w P := by rw [s_rais]
@[simp ↓] theorem w_s_try {b : CSs} {hs : Hds} : (evS G (.try_ b hs) r).w P ↔ ((tryX (evH G hs) (evSs G b r) : So)).w P := by rw [s_try]
@[simp ↓] theorem w_h_cons {c : Nat} {b : CSs} {hs : Hds} {x : Ex} : (evH G (.cons c none b hs) x r).w P ↔ ((oX (G.sub x.cls c) fun k => bX k (noX (evSs G b r)) (evH G hs x r) : So)).w P := by rw [h_cons]
@[simp ↓] theorem w_h_nil {x : Ex} : (evH G .nil x r).w P ↔ ((.exc x r : So)).w P := by rw [h_nil]
@[simp ↓] theorem w_ss_nil : (evSs G .nil r).w P ↔ ((.nx r : So)).w P := by rw [ss_nil]
@[simp ↓] theorem w_ss_cons {s : CS} {ss : CSs} : (evSs G (.cons s ss) r).w P ↔ (((evS G s r).then fun r1 => evSs G ss r1 : So)).w P := by rw [ss_cons]
@[simp ↓] theorem w_x_nm {i : Nat} {d : D} {Q : Unit → En → Prop} : (evX G (.nm i) d r).w Q X ↔ (gS (i < r.length) (.ok () (r.set i (some (.dat false d)))) : Rs (Unit)).w Q X := by rw [x_nm]
@[simp ↓] theorem w_x_sub {i : Nat} {ix : CE} {d : D} {Q : Unit → En → Prop} : (evX G (.sub i ix) d r).w Q X ↔ (oS (svO r[i]?) fun _ => (evE G ix r).bind fun x r1 => oS (dref r1 x) fun k => oS (svO r1[i]?) fun c => oS (setD c k d) fun c' => .ok () (r1.set i (some (.dat true c'))) : Rs (Unit)).w Q X := by rw [x_sub]
end
end E2

set_option Elab.async false
set_option linter.all false
set_option maxRecDepth 100000
set_option maxHeartbeats 1000000
namespace E2
open PySem L2
@[simp] theorem ty_none_int : isTyD PyData.none "int" = some false := same (by first | rfl | decide)
@[simp] theorem ty_none_bool : isTyD PyData.none "bool" = some false := same (by first | rfl | decide)
@[simp] theorem ty_none_str : isTyD PyData.none "str" = some false := same (by first | rfl | decide)
@[simp] theorem ty_none_tuple : isTyD PyData.none "tuple" = some false := same (by first | rfl | decide)
@[simp] theorem ty_none_list : isTyD PyData.none "list" = some false := same (by first | rfl | decide)
@[simp] theorem ty_none_dict : isTyD PyData.none "dict" = some false := same (by first | rfl | decide)
@[simp] theorem ty_bool_int {b : Bool} : isTyD (PyData.bool b) "int" = some true := same (by first | rfl | decide)
@[simp] theorem ty_bool_bool {b : Bool} : isTyD (PyData.bool b) "bool" = some true := same (by first | rfl | decide)
@[simp] theorem ty_bool_str {b : Bool} : isTyD (PyData.bool b) "str" = some false := same (by first | rfl | decide)
@[simp] theorem ty_bool_tuple {b : Bool} : isTyD (PyData.bool b) "tuple" = some false := same (by first | rfl | decide)
@[simp] theorem ty_bool_list {b : Bool} : isTyD (PyData.bool b) "list" = some false := same (by first | rfl | decide)
@[simp] theorem ty_bool_dict {b : Bool} : isTyD (PyData.bool b) "dict" = some false := same (by first | rfl | decide)
@[simp] theorem ty_int_int {i : Int} : isTyD (PyData.int i) "int" = some true := same (by first | rfl | decide)
@[simp] theorem ty_int_bool {i : Int} : isTyD (PyData.int i) "bool" = some false := same (by first | rfl | decide)
@[simp] theorem ty_int_str {i : Int} : isTyD (PyData.int i) "str" = some false := same (by first | rfl | decide)
@[simp] theorem ty_int_tuple {i : Int} : isTyD (PyData.int i) "tuple" = some false := same (by first | rfl | decide)
@[simp] theorem ty_int_list {i : Int} : isTyD (PyData.int i) "list" = some false := same (by first | rfl | decide)
@[simp] theorem ty_int_dict {i : Int} : isTyD (PyData.int i) "dict" = some false := same (by first | rfl | decide)
@[simp] theorem ty_str_int {s : Str} : isTyD (PyData.str s) "int" = some false := same (by first | rfl | decide)
@[simp] theorem ty_str_bool {s : Str} : isTyD (PyData.str s) "bool" = some false := same (by first | rfl | decide)
@[simp] theorem ty_str_str {s : Str} : isTyD (PyData.str s) "str" = some true := same (by first | rfl | decide)
@[simp] theorem ty_str_tuple {s : Str} : isTyD (PyData.str s) "tuple" = some false := same (by first | rfl | decide)
@[simp] theorem ty_str_list {s : Str} : isTyD (PyData.str s) "list" = some false := same (by first | rfl | decide)
@[simp] theorem ty_str_dict {s : Str} : isTyD (PyData.str s) "dict" = some false := same (by first | rfl | decide)
@[simp] theorem ty_list_int {xs : List D} : isTyD (PyData.list xs) "int" = some false := same (by first | rfl | decide)
@[simp] theorem ty_list_bool {xs : List D} : isTyD (PyData.list xs) "bool" = some false := same (by first | rfl | decide)
@[simp] theorem ty_list_str {xs : List D} : isTyD (PyData.list xs) "str" = some false := same (by first | rfl | decide)
@[simp] theorem ty_list_tuple {xs : List D} : isTyD (PyData.list xs) "tuple" = some false := same (by first | rfl | decide)
@[simp] theorem ty_list_list {xs : List D} : isTyD (PyData.list xs) "list" = some true := same (by first | rfl | decide)
@[simp] theorem ty_list_dict {xs : List D} : isTyD (PyData.list xs) "dict" = some false := same (by first | rfl | decide)
@[simp] theorem ty_tuple_int {xs : List D} : isTyD (PyData.tuple xs) "int" = some false := same (by first | rfl | decide)
@[simp] theorem ty_tuple_bool {xs : List D} : isTyD (PyData.tuple xs) "bool" = some false := same (by first | rfl | decide)
@[simp] theorem ty_tuple_str {xs : List D} : isTyD (PyData.tuple xs) "str" = some false := same (by first | rfl | decide)
@[simp] theorem ty_tuple_tuple {xs : List D} : isTyD (PyData.tuple xs) "tuple" = some true := same (by first | rfl | decide)
@[simp] theorem ty_tuple_list {xs : List D} : isTyD (PyData.tuple xs) "list" = some false := same (by first | rfl | decide)
@[simp] theorem ty_tuple_dict {xs : List D} : isTyD (PyData.tuple xs) "dict" = some false := same (by first | rfl | decide)
theorem Rs.w_eq {α : Type} {x : Rs α} {Q : α → En → Prop} (h : x.w Q fun _ _ => False) : ∃ a r, x = .ok a r ∧ Q a r := by
  cases h with
  | ok h => exact ⟨_, _, rfl, h⟩
  | exc h => exact h.elim
/-- a comprehension: g the items, p the test, f the element -/
theorem lc_eq {G : Gs} {α : Type} (g : α → D) (p : α → Bool) (f : α → D) (as : List α) {own : List (Str × Nat)} {tg : Tg} {it : CI} {cond : CTo} {elt : CE} {r r1 r0 : En} (hi : evI G it r = .ok (as.map g) r1) (hl : as.length ≤ 16777216)
    (h0 : wipeE r1 (own.map (·.2)) = r0) (hw : wipeE r0 (own.map (·.2)) = r0) (hb0 : backE r1 r0 (own.map (·.2)) = r1) (hb1 : backE r1 r1 (own.map (·.2)) = r1)
    (hs : ∀ a ∈ as, ∃ r2, bindT (g a) r0 tg = some r2 ∧ (evC G cond r2).w (fun k r3 => k = p a ∧ wipeE r3 (own.map (·.2)) = r0 ∧ (p a = true → (evE G elt r3).w (fun x r4 => (∃ o, x = .val o (f a)) ∧ wipeE r4 (own.map (·.2)) = r0) fun _ _ => False)) fun _ _ => False) :
    evE G (.lc own tg it cond elt) r = .ok (.val true (.list ((as.filter p).map f))) r1 := by
  obtain ⟨r', q1, q2, q3⟩ := lcGo_eq (vs := own.map (·.2)) (bind := fun d r => bindT d r tg) (cond := evC G cond) (elt := evE G elt) g p f hw as [] r1 (fun a ha => by
    obtain ⟨r2, e1, e2⟩ := hs a ha
    obtain ⟨k, r3, e3, e4, e5, e6⟩ := Rs.w_eq e2
    subst e4
    refine ⟨r2, e1, r3, e3, e5, fun hp => ?_⟩
    obtain ⟨x, r4, e7, ⟨o, e8⟩, e9⟩ := Rs.w_eq (e6 hp)
    subst e8
    exact ⟨o, r4, e7, e9⟩) h0 (by rw [sizeLine_eq, List.length_nil]; omega)
  rw [evE, hi]
  simp only [bind_okR]
  rw [q1]
  simp only [bind_okR, List.nil_append]
  rcases q3 with e | e
  · rw [e, hb1]
  · rw [e, hb0]
/-- without a test -/
theorem lcN_eq {G : Gs} {α : Type} (g : α → D) (f : α → D) (as : List α) {own : List (Str × Nat)} {tg : Tg} {it : CI} {elt : CE} {r r1 r0 : En} (hi : evI G it r = .ok (as.map g) r1) (hl : as.length ≤ 16777216)
    (h0 : wipeE r1 (own.map (·.2)) = r0) (hw : wipeE r0 (own.map (·.2)) = r0) (hb0 : backE r1 r0 (own.map (·.2)) = r1) (hb1 : backE r1 r1 (own.map (·.2)) = r1)
    (hs : ∀ a ∈ as, ∃ r2, bindT (g a) r0 tg = some r2 ∧ wipeE r2 (own.map (·.2)) = r0 ∧ (evE G elt r2).w (fun x r4 => (∃ o, x = .val o (f a)) ∧ wipeE r4 (own.map (·.2)) = r0) fun _ _ => False) :
    evE G (.lc own tg it .non elt) r = .ok (.val true (.list (as.map f))) r1 := by
  have := lc_eq g (fun _ => true) f as (cond := .non) (elt := elt) hi hl h0 hw hb0 hb1 (fun a ha => by
    obtain ⟨r2, e1, e2, e3⟩ := hs a ha
    refine ⟨r2, e1, ?_⟩
    rw [c_non]
    exact .ok ⟨rfl, e2, fun _ => e3⟩)
  rw [this, List.filter_eq_self.mpr fun _ _ => rfl]
theorem boolsOf_map : ∀ bs : List Bool, boolsOf (bs.map PyData.bool) = some bs
  | [] => rfl
  | b :: bs => by rw [List.map_cons, boolsOf, boolsOf_map bs]; rfl
theorem intsOf_map : ∀ bs : List Int, intsOf (bs.map PyData.int) = some bs
  | [] => rfl
  | b :: bs => by rw [List.map_cons, intsOf, intsOf_map bs]; rfl
end E2

set_option Elab.async false
set_option linter.all false
set_option maxRecDepth 100000
set_option maxHeartbeats 1000000
namespace E2
open PySem L2
/-! ## sorting whole numbers -/
def sortN (l : List Nat) : List Nat := l.mergeSort fun a b => decide (a ≤ b)
theorem dataLe_dn (a b : Nat) : PySem.W.dataLe false id (dn a) (dn b) = decide (a ≤ b) := by
  have e := congrFun (congrFun (PySem.W.dataLe_int (fun x : Int => x)) (a : Int)) (b : Int)
  have e2 : PySem.W.dataLe false id (dn a) (dn b) = PySem.W.dataLe false (fun b : Int => PyData.int b) (a : Int) (b : Int) := same rfl
  rw [e2, e]
  exact decide_eq_decide.mpr (by omega)
theorem sort_dn (l : List Nat) : (l.map dn).mergeSort (PySem.W.dataLe false id) = (sortN l).map dn :=
  (List.map_mergeSort (r := fun a b => decide (a ≤ b)) (s := PySem.W.dataLe false id) (f := dn) fun a _ b _ => (dataLe_dn a b).symm).symm
theorem sortOk_dn (l : List Nat) (h : l.length ≤ 16777216) : sortOk (l.map dn) = true := by
  unfold sortOk
  simp only [Bool.and_eq_true, Bool.or_eq_true, List.all_eq_true, List.mem_map, decide_eq_true_eq]
  refine ⟨⟨⟨?_, .inr ?_⟩, ?_⟩, by rw [sizeLine_eq, List.length_map]; exact h⟩
  · rintro _ ⟨a, _, rfl⟩ _ ⟨b, _, rfl⟩
    simp [PySem.W.alike]
  · rintro _ ⟨a, _, rfl⟩
    rfl
  · rintro _ ⟨a, _, rfl⟩
    simp [PyData.depth]
@[simp] theorem blt_sorted_tn {l : List Nat} (h : l.length ≤ 16777216) : bltD .sorted [.tuple (l.map dn)] = some (true, .list ((sortN l).map dn)) := by
  show (if sortOk (l.map dn) = true then some (true, PyData.list ((l.map dn).mergeSort (PySem.W.dataLe false id))) else none) = _
  rw [if_pos (sortOk_dn l h), sort_dn]
theorem sortN_of {l m : List Nat} (h : l.Perm m) (hm : m.Pairwise (· ≤ ·)) : sortN l = m := by
  have h1 : (sortN l).Pairwise fun a b => decide (a ≤ b) = true := List.pairwise_mergeSort (fun a b c h1 h2 => by simp at *; omega) (fun a b => by simp; omega) l
  refine List.Perm.eq_of_pairwise (le := fun a b => a ≤ b) (fun a b _ _ h1 h2 => by omega) (h1.imp fun h => by simpa using h) hm ((List.mergeSort_perm _ _).trans h)
/-! ## equality of rows -/
theorem shaped_dns (xs : List Nat) : SeqAt.shaped (.tuple (xs.map dn)) = true := by
  simp [SeqAt.shaped, PyData.canLay0, canLayAll_dn, PyData.depth, depthAll_dn]
theorem shaped_dnl (xs : List Nat) : SeqAt.shaped (.list (xs.map dn)) = true := by
  simp [SeqAt.shaped, PyData.canLay0, canLayAll_dn, PyData.depth, depthAll_dn]
theorem shaped_dn (x : Nat) : SeqAt.shaped (dn x) = true := by
  simp [SeqAt.shaped, PyData.canLay0, PyData.depth]
@[simp] theorem eqD_ll {xs ys : List Nat} : eqD (.list (xs.map dn)) (.list (ys.map dn)) = some (decide (xs = ys)) := by
  show (if SeqAt.shaped (.list (xs.map dn)) = true ∧ SeqAt.shaped (.list (ys.map dn)) = true then some (PyData.eqv (.list (xs.map dn)) (.list (ys.map dn))) else none) = _
  rw [if_pos ⟨shaped_dnl xs, shaped_dnl ys⟩, PyData.eqv, eqvAll_dn]
@[simp] theorem eqD_tt {xs ys : List Nat} : eqD (.tuple (xs.map dn)) (.tuple (ys.map dn)) = some (decide (xs = ys)) := by
  show (if SeqAt.shaped (.tuple (xs.map dn)) = true ∧ SeqAt.shaped (.tuple (ys.map dn)) = true then some (PyData.eqv (.tuple (xs.map dn)) (.tuple (ys.map dn))) else none) = _
  rw [if_pos ⟨shaped_dns xs, shaped_dns ys⟩, PyData.eqv, eqvAll_dn]
@[simp] theorem eqD_ii {i j : Int} : eqD (.int i) (.int j) = some (decide (i = j)) := same rfl
@[simp] theorem cmp_eq {a b : D} : cmpD .Eq a b = eqD a b := same (by cases a <;> rfl)
@[simp] theorem cmp_ne {a b : D} : cmpD .NotEq a b = (eqD a b).map (!·) := same (by cases a <;> rfl)
@[simp] theorem cmp_lt {i j : Int} : cmpD .Lt (.int i) (.int j) = some (decide (i < j)) := same rfl
@[simp] theorem cmp_le {i j : Int} : cmpD .LtE (.int i) (.int j) = some (decide (i ≤ j)) := same rfl
@[simp] theorem cmp_gt {i j : Int} : cmpD .Gt (.int i) (.int j) = some (decide (j < i)) := same rfl
@[simp] theorem cmp_ge {i j : Int} : cmpD .GtE (.int i) (.int j) = some (decide (j ≤ i)) := same rfl
@[simp] theorem cmp_in {a b : D} : cmpD .In a b = inD a b := same (by cases a <;> rfl)
@[simp] theorem cmp_nin {a b : D} : cmpD .NotIn a b = (inD a b).map (!·) := same (by cases a <;> rfl)
@[simp] theorem cmp_is {a b : D} : cmpD .Is a b = isD a b := same (by cases a <;> rfl)
@[simp] theorem cmp_isn {a b : D} : cmpD .IsNot a b = (isD a b).map (!·) := same (by cases a <;> rfl)
@[simp] theorem inD_dl {k : Nat} {xs : List Nat} : inD (.int k) (.list (xs.map dn)) = some (decide (k ∈ xs)) := by
  show (if SeqAt.shaped (dn k) = true ∧ SeqAt.shaped (.list (xs.map dn)) = true then some ((xs.map dn).any fun x => PyData.eqv x (dn k)) else none) = _
  rw [if_pos ⟨shaped_dn k, shaped_dnl xs⟩, any_dn]
@[simp] theorem inD_dt {k : Nat} {xs : List Nat} : inD (.int k) (.tuple (xs.map dn)) = some (decide (k ∈ xs)) := by
  show (if SeqAt.shaped (dn k) = true ∧ SeqAt.shaped (.tuple (xs.map dn)) = true then some ((xs.map dn).any fun x => PyData.eqv x (dn k)) else none) = _
  rw [if_pos ⟨shaped_dn k, shaped_dns xs⟩, any_dn]
end E2

set_option Elab.async false
set_option linter.all false
set_option maxRecDepth 100000
set_option maxHeartbeats 1000000
namespace E2
open PySem L2
/-! ## the wish goes inwards -/
section
variable {α β : Type} {Q : α → En → Prop} {X : Ex → En → Prop} {P : Pt}
def _root_.E2.Pt.th (P : Pt) (f : En → So) : Pt := ⟨fun r => (f r).w P, P.rt, P.ex, P.bk, P.ct⟩
def _root_.E2.Pt.tr (P : Pt) (h : Ex → En → So) : Pt := ⟨P.nx, P.rt, fun e r => (h e r).w P, P.bk, P.ct⟩
@[simp ↓] theorem th_nx {f : En → So} {r : En} : (P.th f).nx r ↔ (f r).w P := ⟨id, id⟩
@[simp ↓] theorem th_rt {f : En → So} {x : R} {r : En} : (P.th f).rt x r ↔ P.rt x r := ⟨id, id⟩
@[simp ↓] theorem th_ex {f : En → So} {x : Ex} {r : En} : (P.th f).ex x r ↔ P.ex x r := ⟨id, id⟩
@[simp ↓] theorem th_bk {f : En → So} {r : En} : (P.th f).bk r ↔ P.bk r := ⟨id, id⟩
@[simp ↓] theorem th_ct {f : En → So} {r : En} : (P.th f).ct r ↔ P.ct r := ⟨id, id⟩
@[simp ↓] theorem tr_nx {f : Ex → En → So} {r : En} : (P.tr f).nx r ↔ P.nx r := ⟨id, id⟩
@[simp ↓] theorem tr_rt {f : Ex → En → So} {x : R} {r : En} : (P.tr f).rt x r ↔ P.rt x r := ⟨id, id⟩
@[simp ↓] theorem tr_ex {f : Ex → En → So} {x : Ex} {r : En} : (P.tr f).ex x r ↔ (f x r).w P := ⟨id, id⟩
@[simp ↓] theorem tr_bk {f : Ex → En → So} {r : En} : (P.tr f).bk r ↔ P.bk r := ⟨id, id⟩
@[simp ↓] theorem tr_ct {f : Ex → En → So} {r : En} : (P.tr f).ct r ↔ P.ct r := ⟨id, id⟩
@[simp ↓] theorem then_wi {o : So} {f : En → So} : (o.then f).w P ↔ o.w (P.th f) := then_w
def _root_.E2.Pt.to (P : Pt) (I : En → Prop) : Pt := ⟨I, P.rt, P.ex, P.bk, P.ct⟩
@[simp ↓] theorem to_nx {I : En → Prop} {r : En} : (P.to I).nx r ↔ I r := ⟨id, id⟩
@[simp ↓] theorem to_rt {I : En → Prop} {x : R} {r : En} : (P.to I).rt x r ↔ P.rt x r := ⟨id, id⟩
@[simp ↓] theorem to_ex {I : En → Prop} {x : Ex} {r : En} : (P.to I).ex x r ↔ P.ex x r := ⟨id, id⟩
@[simp ↓] theorem to_bk {I : En → Prop} {r : En} : (P.to I).bk r ↔ P.bk r := ⟨id, id⟩
@[simp ↓] theorem to_ct {I : En → Prop} {r : En} : (P.to I).ct r ↔ P.ct r := ⟨id, id⟩
/-- one statement, then the rest, by what holds between -/
theorem cutS {G : Gs} {s : CS} {ss : CSs} {r : En} (I : En → Prop) (h1 : (evS G s r).w (P.to I)) (h2 : ∀ r, I r → (evSs G ss r).w P) : (evSs G (.cons s ss) r).w P := by
  rw [ss_cons, then_w]
  exact So.w.imp h1 h2 (fun _ _ h => h) (fun _ _ h => h) (fun _ h => h) (fun _ h => h)
theorem cutT {o : So} {f : En → So} (I : En → Prop) (h1 : o.w (P.to I)) (h2 : ∀ r, I r → (f r).w P) : o.w (P.th f) :=
  So.w.imp h1 h2 (fun _ _ h => h) (fun _ _ h => h) (fun _ h => h) (fun _ h => h)
theorem oS_w {o : Option β} {f : β → Rs α} : (oS o f).w Q X ↔ ∃ a, o = some a ∧ (f a).w Q X := by
  cases o with
  | none => exact ⟨fun h => (nomatch h), fun ⟨_, h, _⟩ => by cases h⟩
  | some a => exact ⟨fun h => ⟨a, rfl, h⟩, fun ⟨_, h, q⟩ => by cases h; exact q⟩
theorem oX_w {o : Option β} {f : β → So} : (oX o f).w P ↔ ∃ a, o = some a ∧ (f a).w P := by
  cases o with
  | none => exact ⟨fun h => (nomatch h), fun ⟨_, h, _⟩ => by cases h⟩
  | some a => exact ⟨fun h => ⟨a, rfl, h⟩, fun ⟨_, h, q⟩ => by cases h; exact q⟩
theorem gS_w {c : Prop} [Decidable c] {x : Rs α} : (gS c x).w Q X ↔ c ∧ x.w Q X := by
  unfold gS
  by_cases h : c
  · rw [if_pos h]; exact ⟨fun q => ⟨h, q⟩, fun q => q.2⟩
  · rw [if_neg h]; exact ⟨fun q => (nomatch q), fun q => absurd q.1 h⟩
@[simp ↓] theorem so_wi {x : Rs β} {f : β → En → So} : (x.so f).w P ↔ x.w (fun a r => (f a r).w P) P.ex := so_w
@[simp ↓] theorem bind_wi {x : Rs β} {f : β → En → Rs α} : (x.bind f).w Q X ↔ x.w (fun a r => (f a r).w Q X) X := bind_w
/-- a try's body -/
@[simp ↓] theorem tryX_w {h : Ex → En → So} {o : So} : (tryX h o).w P ↔ o.w (P.tr h) := by
  cases o <;> simp only [tryX, nx_w, ret_w, brk_w, cont_w, sexc_w, sstuck_w] <;> exact ⟨id, id⟩
end
/-! ## wishes that wait for their first part -/
def Ow {β : Type} (o : Option β) (K : β → Prop) (_t : Blk K := ⟨⟩) : Prop := ∃ a, o = some a ∧ K a
def Bw (b : Bool) (A B : Unit → Prop) (_t : Blk (A, B) := ⟨⟩) : Prop := (b = true → A ()) ∧ (b = false → B ())
inductive Cw0 : Cr → (Bool → D → List D → Prop) → (Ex → List D → Prop) → Prop
  | ok {o : Bool} {d : D} {refs : List D} {K : Bool → D → List D → Prop} {X : Ex → List D → Prop} : K o d refs → Cw0 (.ok o d refs) K X
  | exc {x : Ex} {refs : List D} {K : Bool → D → List D → Prop} {X : Ex → List D → Prop} : X x refs → Cw0 (.exc x refs) K X
def Cw (c : Cr) (K : Bool → D → List D → Prop) (X : Ex → List D → Prop) (_t : Blk (K, X) := ⟨⟩) : Prop := Cw0 c K X
section
variable {α β : Type} {Q : α → En → Prop} {X : Ex → En → Prop} {P : Pt}
@[simp] theorem ow_some {a : β} {K : β → Prop} : Ow (some a) K ↔ K a := ⟨fun ⟨_, h, q⟩ => by cases h; exact q, fun q => ⟨a, rfl, q⟩⟩
theorem ow_iff {o : Option β} {K : β → Prop} : Ow o K ↔ ∃ a, o = some a ∧ K a := ⟨id, id⟩
@[simp] theorem bw_true {A B : Unit → Prop} : Bw true A B ↔ A () := ⟨fun h => h.1 rfl, fun h => ⟨fun _ => h, fun z => (nomatch z)⟩⟩
@[simp] theorem bw_false {A B : Unit → Prop} : Bw false A B ↔ B () := ⟨fun h => h.2 rfl, fun h => ⟨fun z => (nomatch z), fun _ => h⟩⟩
@[simp low] theorem bw_any {b : Bool} {A B : Unit → Prop} : Bw b A B ↔ (b = true → A ()) ∧ (b = false → B ()) := ⟨id, id⟩
@[simp] theorem cw_ok {o : Bool} {d : D} {refs : List D} {K : Bool → D → List D → Prop} {Y : Ex → List D → Prop} : Cw (.ok o d refs) K Y ↔ K o d refs := ⟨fun h => by cases (show Cw0 _ _ _ from h); assumption, fun h => .ok h⟩
@[simp] theorem cw_exc {x : Ex} {refs : List D} {K : Bool → D → List D → Prop} {Y : Ex → List D → Prop} : Cw (.exc x refs) K Y ↔ Y x refs := ⟨fun h => by cases (show Cw0 _ _ _ from h); assumption, fun h => .exc h⟩
@[simp ↓] theorem oS_p {o : Option β} {f : β → Rs α} : (oS o f).w Q X ↔ Ow o fun a => (f a).w Q X := by
  cases o with
  | none => exact ⟨fun h => (stuck_w.mp h).elim, fun ⟨_, h, _⟩ => by cases h⟩
  | some a => exact ⟨fun h => ⟨a, rfl, h⟩, fun ⟨_, h, q⟩ => by cases h; exact q⟩
@[simp ↓] theorem oX_p {o : Option β} {f : β → So} : (oX o f).w P ↔ Ow o fun a => (f a).w P := by
  cases o with
  | none => exact ⟨fun h => (sstuck_w.mp h).elim, fun ⟨_, h, _⟩ => by cases h⟩
  | some a => exact ⟨fun h => ⟨a, rfl, h⟩, fun ⟨_, h, q⟩ => by cases h; exact q⟩
@[simp ↓] theorem bS_p {b : Bool} {x y : Rs α} : (bS b x y).w Q X ↔ Bw b (fun _ => x.w Q X) (fun _ => y.w Q X) := by cases b <;> simp [bS]
@[simp ↓] theorem bX_p {b : Bool} {x y : So} : (bX b x y).w P ↔ Bw b (fun _ => x.w P) (fun _ => y.w P) := by cases b <;> simp [bX]
@[simp ↓] theorem gS_p {c : Prop} [Decidable c] {x : Rs α} : (gS c x).w Q X ↔ c ∧ x.w Q X := by
  unfold gS
  by_cases h : c
  · rw [if_pos h]; exact ⟨fun q => ⟨h, q⟩, fun q => q.2⟩
  · rw [if_neg h]; exact ⟨fun q => (stuck_w.mp q).elim, fun q => absurd q.1 h⟩
@[simp ↓] theorem crS_p {c : Cr} {sl : List Nat} {r : En} {Q : R → En → Prop} : (crS c sl r).w Q X ↔ Cw c (fun o d refs => Ow (putRefs r sl refs) fun r2 => Q (.val o d) r2) (fun x refs => Ow (putRefs r sl refs) fun r2 => X x r2) := by
  cases c with
  | ok o d refs =>
    rw [crS_ok, oS_p, cw_ok]
    exact ⟨fun ⟨a, h, q⟩ => ⟨a, h, ok_w.mp q⟩, fun ⟨a, h, q⟩ => ⟨a, h, ok_w.mpr q⟩⟩
  | exc x refs =>
    rw [crS_exc, oS_p, cw_exc]
    exact ⟨fun ⟨a, h, q⟩ => ⟨a, h, exc_w.mp q⟩, fun ⟨a, h, q⟩ => ⟨a, h, exc_w.mpr q⟩⟩
  | stuck => exact ⟨fun h => (stuck_w.mp h).elim, fun h => (nomatch (show Cw0 _ _ _ from h))⟩
/-- a handler may not raise -/
def _root_.E2.Pt.nox (P : Pt) : Pt := ⟨P.nx, P.rt, fun _ _ => False, P.bk, P.ct⟩
@[simp ↓] theorem nox_nx {r : En} : P.nox.nx r ↔ P.nx r := ⟨id, id⟩
@[simp ↓] theorem nox_rt {x : R} {r : En} : P.nox.rt x r ↔ P.rt x r := ⟨id, id⟩
@[simp ↓] theorem nox_ex {x : Ex} {r : En} : P.nox.ex x r ↔ False := ⟨id, id⟩
@[simp ↓] theorem nox_bk {r : En} : P.nox.bk r ↔ P.bk r := ⟨id, id⟩
@[simp ↓] theorem nox_ct {r : En} : P.nox.ct r ↔ P.ct r := ⟨id, id⟩
@[simp ↓] theorem noX_p {o : So} : (noX o).w P ↔ o.w P.nox := by
  cases o <;> simp only [noX, nx_w, ret_w, brk_w, cont_w, sexc_w, sstuck_w] <;> exact ⟨id, id⟩
end
/-! ## defs by their numbers -/
abbrev At (P : Prg) (k : Nat) (f : Fn) : Prop := P.fns[k]? = some f
section
variable {P : Prg} {k : Nat} {f : Fn}
theorem run_at (h : At P k f) (n : Nat) (ags : List Ag) : run P (n + 1) k ags = runF (P.gs (run P n)) f ags := by simp only [run, h]
theorem sig_at (h : At P k f) {c : Nat → List Ag → Cr} : (P.gs c).sig k = f.sig := by
  show ((P.fns[k]?).map (·.sig)).getD [] = _
  rw [h]; rfl
end
/-! ## a def's end -/
def retQ (r : En) : R → (Bool → D → Prop) → Prop
  | .val o d, Q => Q o d
  | .sl i, Q => ∃ o d, r[i]? = some (some (.dat o d)) ∧ Q o d
  | .fn _, _ => False
@[simp] theorem retQ_val {r : En} {o : Bool} {d : D} {Q : Bool → D → Prop} : retQ r (.val o d) Q ↔ Q o d := ⟨id, id⟩
@[simp] theorem retQ_sl {r : En} {i : Nat} {Q : Bool → D → Prop} : retQ r (.sl i) Q ↔ ∃ o d, r[i]? = some (some (.dat o d)) ∧ Q o d := ⟨id, id⟩
/-- returns what Q holds of; raises what X holds of -/
def RetP (Q : Bool → D → Prop) (X : Ex → Prop := fun _ => False) : Pt := ⟨fun _ => Q false .none, fun x r => retQ r x Q, fun e _ => X e, fun _ => False, fun _ => False⟩
@[simp ↓] theorem RetP_nx {Q : Bool → D → Prop} {X : Ex → Prop} {r : En} : (RetP Q X).nx r ↔ Q false .none := ⟨id, id⟩
@[simp ↓] theorem RetP_rt {Q : Bool → D → Prop} {X : Ex → Prop} {x : R} {r : En} : (RetP Q X).rt x r ↔ retQ r x Q := ⟨id, id⟩
@[simp ↓] theorem RetP_ex {Q : Bool → D → Prop} {X : Ex → Prop} {e : Ex} {r : En} : (RetP Q X).ex e r ↔ X e := ⟨id, id⟩
/-- a def that changes nothing of its caller's -/
theorem runF_ret {G : Gs} {f : Fn} {ags : List Ag} {Q : Bool → D → Prop} (ho : okSig f.sig ags = true) (hs : refSlots 0 f.sig = []) (h : (evSs G f.body (startA ags ++ List.replicate (f.n - ags.length) none)).w (RetP Q)) :
    ∃ o d, runF G f ags = .ok o d [] ∧ Q o d := by
  unfold runF
  rw [if_pos ho]
  cases e : evSs G f.body (startA ags ++ List.replicate (f.n - ags.length) none) with
  | nx r => rw [e] at h; exact ⟨false, .none, by simp [finR, hs, refsOf], nx_w.mp h⟩
  | ret x r =>
    rw [e] at h
    have h : retQ r x Q := ret_w.mp h
    cases x with
    | val o d => exact ⟨o, d, by simp [finR, hs, refsOf], h⟩
    | sl i =>
      obtain ⟨o, d, e1, e2⟩ := h
      exact ⟨o, d, by simp [finR, hs, refsOf, e1], e2⟩
    | fn k => exact h.elim
  | exc x r => rw [e] at h; exact (sexc_w.mp h).elim
  | brk r => rw [e] at h; exact (brk_w.mp h).elim
  | cont r => rw [e] at h; exact (cont_w.mp h).elim
  | stuck => rw [e] at h; exact (sstuck_w.mp h).elim
/-- it may raise -/
theorem runF_any {G : Gs} {f : Fn} {ags : List Ag} {Q : Bool → D → Prop} {X : Ex → Prop} (ho : okSig f.sig ags = true) (hs : refSlots 0 f.sig = []) (h : (evSs G f.body (startA ags ++ List.replicate (f.n - ags.length) none)).w (RetP Q X)) :
    (∃ o d, runF G f ags = .ok o d [] ∧ Q o d) ∨ ∃ e, runF G f ags = .exc e [] ∧ X e := by
  unfold runF
  rw [if_pos ho]
  cases e : evSs G f.body (startA ags ++ List.replicate (f.n - ags.length) none) with
  | nx r => rw [e] at h; exact .inl ⟨false, .none, by simp [finR, hs, refsOf], nx_w.mp h⟩
  | ret x r =>
    rw [e] at h
    have h : retQ r x Q := ret_w.mp h
    cases x with
    | val o d => exact .inl ⟨o, d, by simp [finR, hs, refsOf], h⟩
    | sl i =>
      obtain ⟨o, d, e1, e2⟩ := h
      exact .inl ⟨o, d, by simp [finR, hs, refsOf, e1], e2⟩
    | fn k => exact h.elim
  | exc x r => rw [e] at h; exact .inr ⟨x, by simp [hs, refsOf], sexc_w.mp h⟩
  | brk r => rw [e] at h; exact (brk_w.mp h).elim
  | cont r => rw [e] at h; exact (cont_w.mp h).elim
  | stuck => rw [e] at h; exact (sstuck_w.mp h).elim
/-- gives just this -/
theorem runF_is {G : Gs} {f : Fn} {ags : List Ag} {o : Bool} {d : D} (ho : okSig f.sig ags = true) (hs : refSlots 0 f.sig = []) (h : (evSs G f.body (startA ags ++ List.replicate (f.n - ags.length) none)).w (RetP fun o' d' => o' = o ∧ d' = d)) : runF G f ags = .ok o d [] := by
  obtain ⟨o', d', e, rfl, rfl⟩ := runF_ret ho hs h
  exact e
theorem runF_raises {G : Gs} {f : Fn} {ags : List Ag} {x : Ex} (ho : okSig f.sig ags = true) (hs : refSlots 0 f.sig = []) (h : (evSs G f.body (startA ags ++ List.replicate (f.n - ags.length) none)).w (RetP (fun _ _ => False) fun e => e = x)) : runF G f ags = .exc x [] := by
  rcases runF_any ho hs h with ⟨_, _, _, z⟩ | ⟨e, h1, rfl⟩
  · exact z.elim
  · exact h1
/-- the ends of a def with one thing of the caller's, in slot 0 -/
def Ret0P (Q : Bool → D → D → Prop) : Pt := ⟨fun r => ∃ d0, svO r[0]? = some d0 ∧ Q false .none d0, fun x r => ∃ d0, svO r[0]? = some d0 ∧ x ≠ .sl 0 ∧ retQ r x fun o d => Q o d d0, fun _ _ => False, fun _ => False, fun _ => False⟩
theorem svO_out {x : Option (Option Sv)} {d : D} (h : svO x = some d) : x = some (some (.dat true d)) := by
  unfold svO at h
  split at h
  · cases h; rfl
  · cases h
theorem runF_ret0 {G : Gs} {f : Fn} {ags : List Ag} {Q : Bool → D → D → Prop} (ho : okSig f.sig ags = true) (hs : refSlots 0 f.sig = [0]) (h : (evSs G f.body (startA ags ++ List.replicate (f.n - ags.length) none)).w (Ret0P Q)) :
    ∃ o d d0, runF G f ags = .ok o d [d0] ∧ Q o d d0 := by
  unfold runF
  rw [if_pos ho]
  cases e : evSs G f.body (startA ags ++ List.replicate (f.n - ags.length) none) with
  | nx r =>
    rw [e] at h
    obtain ⟨d0, h1, h2⟩ := nx_w.mp h
    exact ⟨false, .none, d0, by simp [finR, hs, refsOf, svO_out h1], h2⟩
  | ret x r =>
    rw [e] at h
    obtain ⟨d0, h1, hx, h⟩ := ret_w.mp h
    cases x with
    | val o d => exact ⟨o, d, d0, by simp [finR, hs, refsOf, svO_out h1], h⟩
    | sl i =>
      obtain ⟨o, d, e1, e2⟩ := h
      have hi : i ≠ 0 := fun z => hx (by rw [z])
      exact ⟨o, d, d0, by simp [finR, hs, refsOf, svO_out h1, e1, hi], e2⟩
    | fn k => exact h.elim
  | exc x r => rw [e] at h; exact (sexc_w.mp h).elim
  | brk r => rw [e] at h; exact (brk_w.mp h).elim
  | cont r => rw [e] at h; exact (cont_w.mp h).elim
  | stuck => rw [e] at h; exact (sstuck_w.mp h).elim
@[simp ↓] theorem Ret0P_nx {Q : Bool → D → D → Prop} {r : En} : (Ret0P Q).nx r ↔ ∃ d0, svO r[0]? = some d0 ∧ Q false .none d0 := ⟨id, id⟩
@[simp ↓] theorem Ret0P_rt {Q : Bool → D → D → Prop} {x : R} {r : En} : (Ret0P Q).rt x r ↔ ∃ d0, svO r[0]? = some d0 ∧ x ≠ .sl 0 ∧ retQ r x fun o d => Q o d d0 := ⟨id, id⟩
/-! ## the turn of a loop -/
@[simp ↓] theorem lp_nx {P : Pt} {I : En → Prop} {r : En} : (P.lp I).nx r ↔ I r := ⟨id, id⟩
@[simp ↓] theorem lp_ct {P : Pt} {I : En → Prop} {r : En} : (P.lp I).ct r ↔ I r := ⟨id, id⟩
@[simp ↓] theorem lp_rt {P : Pt} {I : En → Prop} {x : R} {r : En} : (P.lp I).rt x r ↔ P.rt x r := ⟨id, id⟩
@[simp ↓] theorem lp_ex {P : Pt} {I : En → Prop} {x : Ex} {r : En} : (P.lp I).ex x r ↔ P.ex x r := ⟨id, id⟩
@[simp ↓] theorem lp_bk {P : Pt} {I : En → Prop} {r : En} : (P.lp I).bk r ↔ P.nx r := ⟨id, id⟩
/-! ## written numbers as places -/
@[simp] theorem idx_l0 {xs : List D} : idxD (.list xs) (.int 0) = xs[0]? := idxD_list (n := 0)
@[simp] theorem idx_t0 {xs : List D} : idxD (.tuple xs) (.int 0) = xs[0]? := idxD_tuple (n := 0)
@[simp] theorem set_l0 {xs : List D} {v : D} (h : 0 < xs.length) : setD (.list xs) (.int 0) v = some (.list (xs.set 0 v)) := setD_nat (n := 0) h
@[simp] theorem idx_l1 {xs : List D} : idxD (.list xs) (.int 1) = xs[1]? := idxD_list (n := 1)
@[simp] theorem idx_t1 {xs : List D} : idxD (.tuple xs) (.int 1) = xs[1]? := idxD_tuple (n := 1)
@[simp] theorem set_l1 {xs : List D} {v : D} (h : 1 < xs.length) : setD (.list xs) (.int 1) v = some (.list (xs.set 1 v)) := setD_nat (n := 1) h
@[simp] theorem idx_l2 {xs : List D} : idxD (.list xs) (.int 2) = xs[2]? := idxD_list (n := 2)
@[simp] theorem idx_t2 {xs : List D} : idxD (.tuple xs) (.int 2) = xs[2]? := idxD_tuple (n := 2)
@[simp] theorem set_l2 {xs : List D} {v : D} (h : 2 < xs.length) : setD (.list xs) (.int 2) v = some (.list (xs.set 2 v)) := setD_nat (n := 2) h
@[simp] theorem idx_l3 {xs : List D} : idxD (.list xs) (.int 3) = xs[3]? := idxD_list (n := 3)
@[simp] theorem idx_t3 {xs : List D} : idxD (.tuple xs) (.int 3) = xs[3]? := idxD_tuple (n := 3)
@[simp] theorem set_l3 {xs : List D} {v : D} (h : 3 < xs.length) : setD (.list xs) (.int 3) v = some (.list (xs.set 3 v)) := setD_nat (n := 3) h
@[simp] theorem idx_l4 {xs : List D} : idxD (.list xs) (.int 4) = xs[4]? := idxD_list (n := 4)
@[simp] theorem idx_t4 {xs : List D} : idxD (.tuple xs) (.int 4) = xs[4]? := idxD_tuple (n := 4)
@[simp] theorem set_l4 {xs : List D} {v : D} (h : 4 < xs.length) : setD (.list xs) (.int 4) v = some (.list (xs.set 4 v)) := setD_nat (n := 4) h
@[simp] theorem idx_l5 {xs : List D} : idxD (.list xs) (.int 5) = xs[5]? := idxD_list (n := 5)
@[simp] theorem idx_t5 {xs : List D} : idxD (.tuple xs) (.int 5) = xs[5]? := idxD_tuple (n := 5)
@[simp] theorem set_l5 {xs : List D} {v : D} (h : 5 < xs.length) : setD (.list xs) (.int 5) v = some (.list (xs.set 5 v)) := setD_nat (n := 5) h
@[simp] theorem idx_l6 {xs : List D} : idxD (.list xs) (.int 6) = xs[6]? := idxD_list (n := 6)
@[simp] theorem idx_t6 {xs : List D} : idxD (.tuple xs) (.int 6) = xs[6]? := idxD_tuple (n := 6)
@[simp] theorem set_l6 {xs : List D} {v : D} (h : 6 < xs.length) : setD (.list xs) (.int 6) v = some (.list (xs.set 6 v)) := setD_nat (n := 6) h
@[simp] theorem idx_l7 {xs : List D} : idxD (.list xs) (.int 7) = xs[7]? := idxD_list (n := 7)
@[simp] theorem idx_t7 {xs : List D} : idxD (.tuple xs) (.int 7) = xs[7]? := idxD_tuple (n := 7)
@[simp] theorem set_l7 {xs : List D} {v : D} (h : 7 < xs.length) : setD (.list xs) (.int 7) v = some (.list (xs.set 7 v)) := setD_nat (n := 7) h
@[simp] theorem idx_l8 {xs : List D} : idxD (.list xs) (.int 8) = xs[8]? := idxD_list (n := 8)
@[simp] theorem idx_t8 {xs : List D} : idxD (.tuple xs) (.int 8) = xs[8]? := idxD_tuple (n := 8)
@[simp] theorem set_l8 {xs : List D} {v : D} (h : 8 < xs.length) : setD (.list xs) (.int 8) v = some (.list (xs.set 8 v)) := setD_nat (n := 8) h
@[simp] theorem idx_l9 {xs : List D} : idxD (.list xs) (.int 9) = xs[9]? := idxD_list (n := 9)
@[simp] theorem idx_t9 {xs : List D} : idxD (.tuple xs) (.int 9) = xs[9]? := idxD_tuple (n := 9)
@[simp] theorem set_l9 {xs : List D} {v : D} (h : 9 < xs.length) : setD (.list xs) (.int 9) v = some (.list (xs.set 9 v)) := setD_nat (n := 9) h
@[simp] theorem cmp_eqi {i j : Int} : cmpD .Eq (.int i) (.int j) = some (decide (i = j)) := same rfl
@[simp] theorem bin_pow {i j : Int} (h : 0 ≤ j ∧ j ≤ 1000000 ∧ i.natAbs < 2 ^ 64) : binD .Pow (.int i) (.int j) = some (false, .int (i ^ j.toNat)) := if_pos h
theorem bin_mul {i j : Int} (h : mulOk i j = true) : binD .Mult (.int i) (.int j) = some (false, .int (i * j)) := if_pos h
theorem bin_mod {i j : Int} (h : 0 < j) : binD .Mod (.int i) (.int j) = some (false, .int (i % j)) := if_pos h
theorem bin_div {i j : Int} (h : 0 < j ∧ j < 1073741824) : binD .FloorDiv (.int i) (.int j) = some (false, .int (i / j)) := if_pos h
@[simp] theorem mut_append {xs : List D} {y : D} (h : xs.length < 16777216) : mutD .append (.list xs) [y] = some (.none, .list (xs ++ [y])) := by
  rw [← sizeLine_eq] at h
  exact if_pos h
@[simp] theorem mut_popAt {xs : List D} {v : Nat} (h : v < xs.length) (hl : xs.length ≤ 16777216) : mutD .popAt (.list xs) [.int v] = some (xs[v], .list (xs.eraseIdx v)) := by
  have e : (if (0 : Int) ≤ (v : Int) ∧ (v : Int) < 2 ^ 63 then (match xs[(v : Int).toNat]? with
    | some y => some (y, PyData.list (xs.eraseIdx (v : Int).toNat))
    | none => none) else none) = some (xs[v], PyData.list (xs.eraseIdx v)) := by
    rw [if_pos (by omega), Int.toNat_natCast, List.getElem?_eq_getElem h]
  exact e
@[simp] theorem mut_pop {xs : List D} {y : D} : mutD .pop (.list (xs ++ [y])) [] = some (y, .list xs) := by
  have e : (match (xs ++ [y])[(xs ++ [y]).length - 1]? with
    | some y' => some (y', PyData.list (xs ++ [y]).dropLast)
    | none => none) = some (y, PyData.list xs) := by
    simp
  exact e
theorem cons_eraseIdx_perm {α : Type} (xs : List α) {v : Nat} (h : v < xs.length) : (xs[v] :: xs.eraseIdx v).Perm xs := by
  rw [List.eraseIdx_eq_take_drop_succ]
  have e : xs = xs.take v ++ xs[v] :: xs.drop (v + 1) := by
    rw [List.getElem_cons_drop]
    exact (List.take_append_drop v xs).symm
  exact (List.perm_middle.symm).trans (List.Perm.of_eq e.symm)
@[simp] theorem blt_int {i : Int} : bltD .int [.int i] = some (false, .int i) := same rfl
@[simp] theorem blt_intb {b : Bool} : bltD .int [.bool b] = some (false, .int (if b then 1 else 0)) := same rfl
end E2

set_option Elab.async false
set_option linter.all false
set_option maxRecDepth 100000
set_option maxHeartbeats 1000000
namespace E2
open PySem L2
/-! ## plain data: no dict, no truth value within, of bounded depth -/
def okP : Nat → D → Bool
  | _, .none => true
  | _, .int _ => true
  | _, .str s => PyData.canLay0 (.str s)
  | m + 1, .list xs => xs.all (okP m)
  | m + 1, .tuple xs => xs.all (okP m)
  | _, _ => false
theorem canAll {xs : List D} (h : ∀ x ∈ xs, x.canLay0 = true) : PyData.canLayAll0 xs = true := by
  induction xs with
  | nil => simp [PyData.canLayAll0]
  | cons x xs ih =>
    rw [PyData.canLayAll0, h x List.mem_cons_self, ih fun y hy => h y (List.mem_cons_of_mem _ hy)]
    rfl
theorem depAll {m : Nat} {xs : List D} (h : ∀ x ∈ xs, x.depth ≤ m) : PyData.depthAll xs ≤ m := by
  induction xs with
  | nil => simp [PyData.depthAll]
  | cons x xs ih =>
    have h1 := h x List.mem_cons_self
    have h2 := ih fun y hy => h y (List.mem_cons_of_mem _ hy)
    rw [PyData.depthAll]
    omega
theorem okP_can : ∀ {m : Nat} {d : D}, okP m d = true → d.canLay0 = true ∧ d.depth ≤ m
  | _, .none, _ => by simp [PyData.canLay0, PyData.depth]
  | _, .int _, _ => by simp [PyData.canLay0, PyData.depth]
  | m, .str s, h => by
    have h : PyData.canLay0 (.str s) = true := by cases m <;> exact h
    exact ⟨h, by simp [PyData.depth]⟩
  | 0, .list xs, h => by simp [okP] at h
  | m + 1, .list xs, h => by
    simp only [okP, List.all_eq_true] at h
    have h1 := fun x hx => okP_can (h x hx)
    have h2 := canAll fun x hx => (h1 x hx).1
    have h3 := depAll fun x hx => (h1 x hx).2
    constructor
    · rw [PyData.canLay0]; exact h2
    · rw [PyData.depth]; omega
  | 0, .tuple xs, h => by simp [okP] at h
  | m + 1, .tuple xs, h => by
    simp only [okP, List.all_eq_true] at h
    have h1 := fun x hx => okP_can (h x hx)
    have h2 := canAll fun x hx => (h1 x hx).1
    have h3 := depAll fun x hx => (h1 x hx).2
    constructor
    · rw [PyData.canLay0]; exact h2
    · rw [PyData.depth]; omega
  | 0, .dict _, h => by simp [okP] at h
  | _ + 1, .dict _, h => by simp [okP] at h
  | 0, .bool _, h => by simp [okP] at h
  | _ + 1, .bool _, h => by simp [okP] at h
theorem okP_shaped {m : Nat} {d : D} (h : okP m d = true) (hm : m ≤ 64) : SeqAt.shaped d = true := by
  obtain ⟨h1, h2⟩ := okP_can h
  unfold SeqAt.shaped
  rw [h1, decide_eq_true (Nat.le_trans h2 hm)]
  rfl
theorem okP_eqv : ∀ {m : Nat} {a b : D}, okP m a = true → okP m b = true → (PyData.eqv a b = true ↔ a = b)
  | m, .none, b, _, hb => by cases b <;> simp [PyData.eqv]
  | m, .int i, b, _, hb => by cases b <;> first | (cases m <;> simp [okP] at hb; done) | simp [PyData.eqv]
  | m, .str i, b, _, hb => by cases b <;> simp [PyData.eqv]
  | 0, .list xs, _, ha, _ => by simp [okP] at ha
  | 0, .tuple xs, _, ha, _ => by simp [okP] at ha
  | 0, .dict _, _, h, _ => by simp [okP] at h
  | _ + 1, .dict _, _, h, _ => by simp [okP] at h
  | 0, .bool _, _, h, _ => by simp [okP] at h
  | _ + 1, .bool _, _, h, _ => by simp [okP] at h
  | m + 1, .list xs, b, ha, hb => by
    cases b with
    | list ys =>
      simp only [okP, List.all_eq_true] at ha hb
      rw [PyData.eqv, PyData.list.injEq]
      induction xs generalizing ys with
      | nil => cases ys <;> simp [PyData.eqvAll]
      | cons x xs ih =>
        cases ys with
        | nil => simp [PyData.eqvAll]
        | cons y ys =>
          rw [PyData.eqvAll, Bool.and_eq_true, okP_eqv (ha x List.mem_cons_self) (hb y List.mem_cons_self), ih ys (fun z hz => ha z (List.mem_cons_of_mem _ hz)) (fun z hz => hb z (List.mem_cons_of_mem _ hz)), List.cons.injEq]
    | _ => simp [PyData.eqv]
  | m + 1, .tuple xs, b, ha, hb => by
    cases b with
    | tuple ys =>
      simp only [okP, List.all_eq_true] at ha hb
      rw [PyData.eqv, PyData.tuple.injEq]
      induction xs generalizing ys with
      | nil => cases ys <;> simp [PyData.eqvAll]
      | cons x xs ih =>
        cases ys with
        | nil => simp [PyData.eqvAll]
        | cons y ys =>
          rw [PyData.eqvAll, Bool.and_eq_true, okP_eqv (ha x List.mem_cons_self) (hb y List.mem_cons_self), ih ys (fun z hz => ha z (List.mem_cons_of_mem _ hz)) (fun z hz => hb z (List.mem_cons_of_mem _ hz)), List.cons.injEq]
    | _ => simp [PyData.eqv]
theorem okP_mono : ∀ {m k : Nat} {d : D}, okP m d = true → m ≤ k → okP k d = true
  | m, k, .none, _, _ => by cases k <;> rfl
  | m, k, .int _, _, _ => by cases k <;> rfl
  | m, k, .str s, h, _ => by cases k <;> cases m <;> exact h
  | 0, _, .list xs, h, _ => by simp [okP] at h
  | 0, _, .tuple xs, h, _ => by simp [okP] at h
  | 0, _, .dict _, h, _ => by simp [okP] at h
  | _ + 1, _, .dict _, h, _ => by simp [okP] at h
  | 0, _, .bool _, h, _ => by simp [okP] at h
  | _ + 1, _, .bool _, h, _ => by simp [okP] at h
  | m + 1, 0, .list xs, h, l => by omega
  | m + 1, 0, .tuple xs, h, l => by omega
  | m + 1, k + 1, .list xs, h, l => by
    simp only [okP, List.all_eq_true] at h ⊢
    exact fun x hx => okP_mono (h x hx) (by omega)
  | m + 1, k + 1, .tuple xs, h, l => by
    simp only [okP, List.all_eq_true] at h ⊢
    exact fun x hx => okP_mono (h x hx) (by omega)
/-! ## typed data -/
class Enc (α : Type) where
  e : α → D
  inj : ∀ a b, e a = e b → a = b
  m : Nat
  ok : ∀ a, okP m (e a) = true
open Enc (e)
instance : Enc Nat := ⟨dn, fun a b h => by have := PyData.int.inj h; omega, 0, fun _ => rfl⟩
instance : Enc Int := ⟨.int, fun a b h => PyData.int.inj h, 0, fun _ => rfl⟩
theorem map_inj {α β : Type} {f : α → β} (hf : ∀ a b, f a = f b → a = b) : ∀ {xs ys : List α}, xs.map f = ys.map f → xs = ys
  | [], [], _ => rfl
  | [], _ :: _, h => by simp at h
  | _ :: _, [], h => by simp at h
  | x :: xs, y :: ys, h => by
    simp only [List.map_cons, List.cons.injEq] at h
    rw [hf _ _ h.1, map_inj hf h.2]
instance {α : Type} [Enc α] : Enc (List α) := ⟨fun xs => .tuple (xs.map e), fun a b h => map_inj Enc.inj (PyData.tuple.inj h), Enc.m α + 1, fun a => by
  simp only [okP, List.all_eq_true, List.mem_map]
  rintro _ ⟨x, _, rfl⟩
  exact Enc.ok x⟩
instance {α β : Type} [Enc α] [Enc β] : Enc (α × β) := ⟨fun p => .tuple [e p.1, e p.2], fun a b h => by
  have h := PyData.tuple.inj h
  simp only [List.cons.injEq, and_true] at h
  exact Prod.ext (Enc.inj _ _ h.1) (Enc.inj _ _ h.2), max (Enc.m α) (Enc.m β) + 1, fun a => by
  simp only [okP, List.all_cons, List.all_nil, Bool.and_true, Bool.and_eq_true]
  exact ⟨okP_mono (Enc.ok a.1) (Nat.le_max_left _ _), okP_mono (Enc.ok a.2) (Nat.le_max_right _ _)⟩⟩
section
variable {α β : Type} [Enc α] [Enc β]
theorem e_nat (n : Nat) : e n = PyData.int n := rfl
theorem e_list (xs : List α) : e xs = PyData.tuple (xs.map e) := rfl
theorem e_pair (a : α) (b : β) : e (a, b) = PyData.tuple [e a, e b] := rfl
theorem eqv_e [DecidableEq α] (a b : α) : PyData.eqv (e a) (e b) = decide (a = b) := by
  rw [Bool.eq_iff_iff, okP_eqv (Enc.ok a) (Enc.ok b), decide_eq_true_eq]
  exact ⟨Enc.inj a b, fun h => by rw [h]⟩
theorem shaped_e (h : Enc.m α ≤ 64) (a : α) : SeqAt.shaped (e a) = true := okP_shaped (Enc.ok a) h
theorem eqD_e [DecidableEq α] (h : Enc.m α ≤ 64) (a b : α) : eqD (e a) (e b) = some (decide (a = b)) := by
  have key : (if SeqAt.shaped (e a) = true ∧ SeqAt.shaped (e b) = true then some (PyData.eqv (e a) (e b)) else none) = some (decide (a = b)) := by
    rw [if_pos ⟨shaped_e h a, shaped_e h b⟩, eqv_e]
  have q := eqv_e a b
  unfold eqD
  split
  · rename_i i j h1 h2
    rw [h1, h2] at q
    rw [← q, PyData.eqv, Option.some.injEq, Bool.eq_iff_iff, beq_iff_eq, decide_eq_true_eq]
  · exact key
theorem any_e [DecidableEq α] (xs : List α) (k : α) : (xs.map e).any (fun x => PyData.eqv x (e k)) = decide (k ∈ xs) := by
  rw [List.any_map, Bool.eq_iff_iff, List.any_eq_true, decide_eq_true_eq]
  constructor
  · rintro ⟨y, hy, q⟩
    have q : PyData.eqv (e y) (e k) = true := q
    rw [eqv_e, decide_eq_true_eq] at q
    exact q ▸ hy
  · intro h
    exact ⟨k, h, by show PyData.eqv (e k) (e k) = true; rw [eqv_e]; simp⟩
theorem shaped_el (h : Enc.m α + 1 ≤ 64) (xs : List α) : SeqAt.shaped (.list (xs.map e)) = true := by
  refine okP_shaped (m := Enc.m α + 1) ?_ h
  simp only [okP, List.all_eq_true, List.mem_map]
  rintro _ ⟨x, _, rfl⟩
  exact Enc.ok x
theorem eqD_l [DecidableEq α] (h : Enc.m α + 1 ≤ 64) (xs ys : List α) : eqD (.list (xs.map e)) (.list (ys.map e)) = some (decide (xs = ys)) := by
  have q := eqv_e (α := List α) xs ys
  have e1 : PyData.eqv (.list (xs.map e)) (.list (ys.map e)) = PyData.eqv (e xs) (e ys) := by
    rw [e_list, e_list, PyData.eqv, PyData.eqv]
  show (if SeqAt.shaped (.list (xs.map e)) = true ∧ SeqAt.shaped (.list (ys.map e)) = true then some (PyData.eqv (.list (xs.map e)) (.list (ys.map e))) else none) = _
  rw [if_pos ⟨shaped_el h xs, shaped_el h ys⟩, e1, q]
theorem inD_l [DecidableEq α] (h : Enc.m α + 1 ≤ 64) (k : α) (xs : List α) : inD (e k) (.list (xs.map e)) = some (decide (k ∈ xs)) := by
  show (if SeqAt.shaped (e k) = true ∧ SeqAt.shaped (.list (xs.map e)) = true then some ((xs.map e).any fun x => PyData.eqv x (e k)) else none) = _
  rw [if_pos ⟨shaped_e (by omega) k, shaped_el h xs⟩, any_e]
theorem inD_t [DecidableEq α] (h : Enc.m α + 1 ≤ 64) (k : α) (xs : List α) : inD (e k) (.tuple (xs.map e)) = some (decide (k ∈ xs)) := by
  show (if SeqAt.shaped (e k) = true ∧ SeqAt.shaped (.tuple (xs.map e)) = true then some ((xs.map e).any fun x => PyData.eqv x (e k)) else none) = _
  rw [if_pos ⟨shaped_e (by omega) k, shaped_e (α := List α) h xs⟩, any_e]
theorem indexD_e [DecidableEq α] (k : α) : ∀ (xs : List α) (n : Nat), indexD (e k) (xs.map e) n = if k ∈ xs then some (n + xs.idxOf k) else none
  | [], n => by simp [indexD]
  | x :: xs, n => by
    rw [List.map_cons, indexD, eqv_e]
    by_cases h : x = k
    · subst h; simp
    · rw [if_neg (by simpa using h), indexD_e k xs (n + 1)]
      have h' : ¬ k = x := fun z => h z.symm
      have hb : (x == k) = false := by simpa using h
      by_cases hm : k ∈ xs
      · rw [if_pos hm, if_pos (List.mem_cons_of_mem _ hm), List.idxOf_cons, hb]
        simp; omega
      · rw [if_neg hm, if_neg (by simp [h', hm])]
end
/-! ## dicts with typed keys -/
class EncK (α : Type) [Enc α] : Prop where
  key : (∀ a : α, flatK (e a) = true) ∨ (∀ a : α, tupK (e a) = true)
theorem okP_nest : ∀ {m : Nat} {d : D}, okP m d = true → (∀ xs, d ≠ .list xs) → True := fun _ _ => trivial
section
variable {α : Type} [Enc α] [EncK α] [DecidableEq α]
theorem like_e {kvs : List (α × D)} {k : α} : likeKeys (kvs.map fun p => (e p.1, p.2)) (e k) = true := by
  unfold likeKeys
  rw [Bool.or_eq_true, Bool.and_eq_true, Bool.and_eq_true, List.all_eq_true, List.all_eq_true]
  rcases EncK.key (α := α) with h | h
  · exact .inl ⟨fun p hp => by obtain ⟨q, _, rfl⟩ := List.mem_map.mp hp; exact h _, h _⟩
  · exact .inr ⟨fun p hp => by obtain ⟨q, _, rfl⟩ := List.mem_map.mp hp; exact h _, h _⟩
def dlook (kvs : List (α × D)) (k : α) : Option D := (kvs.find? fun p => decide (p.1 = k)).map (·.2)
def dins (kvs : List (α × D)) (k : α) (v : D) : List (α × D) := if kvs.any (fun p => decide (p.1 = k)) then kvs.map fun p => if p.1 = k then (p.1, v) else p else kvs ++ [(k, v)]
theorem dGet_e (kvs : List (α × D)) (k : α) : dGet (kvs.map fun p => (e p.1, p.2)) (e k) = dlook kvs k := by
  unfold dGet dlook
  rw [List.find?_map, Option.map_map]
  have : ((fun p : D × D => PyData.eqv p.1 (e k)) ∘ fun p : α × D => (e p.1, p.2)) = fun p => decide (p.1 = k) := by
    funext p
    exact eqv_e p.1 k
  rw [this]; rfl
theorem dPut_e (kvs : List (α × D)) (k : α) (v : D) : dPut (kvs.map fun p => (e p.1, p.2)) (e k) v = (dins kvs k v).map fun p => (e p.1, p.2) := by
  unfold dPut dins
  have h1 : (kvs.map fun p : α × D => (e p.1, p.2)).any (fun p => PyData.eqv p.1 (e k)) = kvs.any fun p => decide (p.1 = k) := by
    rw [List.any_map]
    congr 1
    funext p
    exact eqv_e p.1 k
  rw [h1]
  split
  · rw [List.map_map, List.map_map]
    refine List.map_congr_left fun p _ => ?_
    show (if PyData.eqv (e p.1) (e k) = true then (e p.1, v) else (e p.1, p.2)) = (fun p : α × D => (e p.1, p.2)) (if p.1 = k then (p.1, v) else p)
    rw [eqv_e]
    by_cases h : p.1 = k <;> simp [h]
  · rw [List.map_append]; rfl
end
end E2
namespace E2
open PySem L2
/-- a comprehension whose walk leaves the frame alone -/
theorem lc_w {G : Gs} {α : Type} {Q : R → En → Prop} {X : Ex → En → Prop} (g : α → D) (p : α → Bool) (f : α → D) (as : List α) {own : List (Str × Nat)} {tg : Tg} {it : CI} {cond : CTo} {elt : CE} {r : En} (hi : evI G it r = .ok (as.map g) r) (hl : as.length ≤ 16777216)
    (hs : ∀ a ∈ as, ∃ r2, bindT (g a) (wipeE r (own.map (·.2))) tg = some r2 ∧ (evC G cond r2).w (fun k r3 => k = p a ∧ wipeE r3 (own.map (·.2)) = wipeE r (own.map (·.2)) ∧ (p a = true → (evE G elt r3).w (fun x r4 => (∃ o, x = .val o (f a)) ∧ wipeE r4 (own.map (·.2)) = wipeE r (own.map (·.2))) fun _ _ => False)) fun _ _ => False)
    (hq : Q (.val true (.list ((as.filter p).map f))) r) (hb : wipeE (wipeE r (own.map (·.2))) (own.map (·.2)) = wipeE r (own.map (·.2)) ∧ backE r (wipeE r (own.map (·.2))) (own.map (·.2)) = r ∧ backE r r (own.map (·.2)) = r := by exact ⟨rfl, rfl, rfl⟩) :
    (evE G (.lc own tg it cond elt) r).w Q X := by
  rw [lc_eq g p f as hi hl rfl hb.1 hb.2.1 hb.2.2 hs]
  exact .ok hq
theorem lcN_w {G : Gs} {α : Type} {Q : R → En → Prop} {X : Ex → En → Prop} (g : α → D) (f : α → D) (as : List α) {own : List (Str × Nat)} {tg : Tg} {it : CI} {elt : CE} {r : En} (hi : evI G it r = .ok (as.map g) r) (hl : as.length ≤ 16777216)
    (hs : ∀ a ∈ as, ∃ r2, bindT (g a) (wipeE r (own.map (·.2))) tg = some r2 ∧ wipeE r2 (own.map (·.2)) = wipeE r (own.map (·.2)) ∧ (evE G elt r2).w (fun x r4 => (∃ o, x = .val o (f a)) ∧ wipeE r4 (own.map (·.2)) = wipeE r (own.map (·.2))) fun _ _ => False)
    (hq : Q (.val true (.list (as.map f))) r) (hb : wipeE (wipeE r (own.map (·.2))) (own.map (·.2)) = wipeE r (own.map (·.2)) ∧ backE r (wipeE r (own.map (·.2))) (own.map (·.2)) = r ∧ backE r r (own.map (·.2)) = r := by exact ⟨rfl, rfl, rfl⟩) :
    (evE G (.lc own tg it .non elt) r).w Q X := by
  rw [lcN_eq g f as hi hl rfl hb.1 hb.2.1 hb.2.2 hs]
  exact .ok hq
theorem lc_w1 (r1 : En) {G : Gs} {α : Type} {Q : R → En → Prop} {X : Ex → En → Prop} (g : α → D) (p : α → Bool) (f : α → D) (as : List α) {own : List (Str × Nat)} {tg : Tg} {it : CI} {cond : CTo} {elt : CE} {r : En} (hi : evI G it r = .ok (as.map g) r1) (hl : as.length ≤ 16777216)
    (hs : ∀ a ∈ as, ∃ r2, bindT (g a) (wipeE r1 (own.map (·.2))) tg = some r2 ∧ (evC G cond r2).w (fun k r3 => k = p a ∧ wipeE r3 (own.map (·.2)) = wipeE r1 (own.map (·.2)) ∧ (p a = true → (evE G elt r3).w (fun x r4 => (∃ o, x = .val o (f a)) ∧ wipeE r4 (own.map (·.2)) = wipeE r1 (own.map (·.2))) fun _ _ => False)) fun _ _ => False)
    (hq : Q (.val true (.list ((as.filter p).map f))) r1) (hb : wipeE (wipeE r1 (own.map (·.2))) (own.map (·.2)) = wipeE r1 (own.map (·.2)) ∧ backE r1 (wipeE r1 (own.map (·.2))) (own.map (·.2)) = r1 ∧ backE r1 r1 (own.map (·.2)) = r1 := by exact ⟨rfl, rfl, rfl⟩) :
    (evE G (.lc own tg it cond elt) r).w Q X := by
  rw [lc_eq g p f as hi hl rfl hb.1 hb.2.1 hb.2.2 hs]
  exact .ok hq
theorem lcN_w1 (r1 : En) {G : Gs} {α : Type} {Q : R → En → Prop} {X : Ex → En → Prop} (g : α → D) (f : α → D) (as : List α) {own : List (Str × Nat)} {tg : Tg} {it : CI} {elt : CE} {r : En} (hi : evI G it r = .ok (as.map g) r1) (hl : as.length ≤ 16777216)
    (hs : ∀ a ∈ as, ∃ r2, bindT (g a) (wipeE r1 (own.map (·.2))) tg = some r2 ∧ wipeE r2 (own.map (·.2)) = wipeE r1 (own.map (·.2)) ∧ (evE G elt r2).w (fun x r4 => (∃ o, x = .val o (f a)) ∧ wipeE r4 (own.map (·.2)) = wipeE r1 (own.map (·.2))) fun _ _ => False)
    (hq : Q (.val true (.list (as.map f))) r1) (hb : wipeE (wipeE r1 (own.map (·.2))) (own.map (·.2)) = wipeE r1 (own.map (·.2)) ∧ backE r1 (wipeE r1 (own.map (·.2))) (own.map (·.2)) = r1 ∧ backE r1 r1 (own.map (·.2)) = r1 := by exact ⟨rfl, rfl, rfl⟩) :
    (evE G (.lc own tg it .non elt) r).w Q X := by
  rw [lcN_eq g f as hi hl rfl hb.1 hb.2.1 hb.2.2 hs]
  exact .ok hq
end E2

set_option Elab.async false
set_option linter.all false
set_option maxRecDepth 100000
set_option maxHeartbeats 1000000
namespace E2
open PySem L2
/-! ## comprehensions with two clauses -/
theorem wipe_get : ∀ (vs : List Nat) (r : En) (i : Nat), (wipeE r vs)[i]? = if i ∈ vs ∧ i < r.length then some none else r[i]?
  | [], r, i => by simp
  | v :: vs, r, i => by
    have hl : (wipeE r vs).length = r.length := by
      clear v
      induction vs with
      | nil => rfl
      | cons v vs ih => rw [wipeE_cons, List.length_set, ih]
    rw [wipeE_cons, List.getElem?_set, wipe_get vs r i, hl]
    by_cases h1 : v = i
    · subst h1
      by_cases h2 : v < r.length
      · simp [h2]
      · simp [h2, List.getElem?_eq_none (Nat.le_of_not_lt h2)]
    · have h1' : ¬ i = v := fun z => h1 z.symm
      simp [h1, h1']
theorem wipeE_absorb {vs vs1 : List Nat} (h : ∀ i ∈ vs1, i ∈ vs) (r : En) : wipeE (wipeE r vs1) vs = wipeE r vs := by
  apply List.ext_getElem?
  intro i
  have hl : (wipeE r vs1).length = r.length := by
    clear h
    induction vs1 with
    | nil => rfl
    | cons v vs ih => rw [wipeE_cons, List.length_set, ih]
  rw [wipe_get, wipe_get, wipe_get, hl]
  by_cases h1 : i < r.length
  · by_cases h2 : i ∈ vs
    · simp [h1, h2]
    · have h3 : i ∉ vs1 := fun z => h2 (h i z)
      simp [h2, h3]
  · simp [h1]
/-- the walk of two clauses; g, g1 the items, p, p1 the tests, f the element -/
theorem lc2Go_eq {G : Gs} {α β : Type} (g : α → D) (p : α → Bool) (bs : α → List β) (g1 : α → β → D) (p1 : α → β → Bool) (f : α → β → D) {vs vs1 : List Nat} {tg tg1 : Tg} {it1 : CI} {cond cond1 : CTo} {elt : CE} {r0 : En} (hw : wipeE r0 vs = r0) (hsub : ∀ i ∈ vs1, i ∈ vs) :
    ∀ (as : List α) (acc : List D) (r : En), (∀ a ∈ as, ∃ r2, bindT (g a) r0 tg = some r2 ∧ (evC G cond r2).w (fun k r3 => k = p a ∧ wipeE r3 vs = r0 ∧ (p a = true → evI G it1 r3 = .ok ((bs a).map (g1 a)) r3 ∧ ∀ b ∈ bs a, ∃ r5, bindT (g1 a b) (wipeE r3 vs1) tg1 = some r5 ∧
        (evC G cond1 r5).w (fun k r6 => k = p1 a b ∧ wipeE r6 vs1 = wipeE r3 vs1 ∧ (p1 a b = true → (evE G elt r6).w (fun x r7 => (∃ o, x = .val o (f a b)) ∧ wipeE r7 vs1 = wipeE r3 vs1) fun _ _ => False)) fun _ _ => False)) fun _ _ => False) →
      wipeE r vs = r0 → acc.length + (as.map fun a => (bs a).length).sum ≤ sizeLine →
      ∃ r', lc2Go vs vs1 (fun d r => bindT d r tg) (evC G cond) (evI G it1) (fun d r => bindT d r tg1) (evC G cond1) (evE G elt) (as.map g) acc r = .ok (acc ++ (as.filter p).flatMap fun a => ((bs a).filter (p1 a)).map (f a)) r' ∧ wipeE r' vs = r0 ∧ (r' = r ∨ r' = r0)
  | [], acc, r, _, h, _ => ⟨r, by simp [lc2Go], h, .inl rfl⟩
  | a :: as, acc, r, hs, h, hl => by
    obtain ⟨r2, e1, e2⟩ := hs a List.mem_cons_self
    obtain ⟨k, r3, e3, rfl, e4, e5⟩ := Rs.w_eq e2
    have hs' := fun a h => hs a (List.mem_cons_of_mem _ h)
    rw [List.map_cons, List.sum_cons] at hl
    cases hp : p a with
    | false =>
      obtain ⟨r', q1, q2, q3⟩ := lc2Go_eq g p bs g1 p1 f hw hsub as acc (wipeE r3 vs) hs' (by rw [e4, hw]) (by omega)
      refine ⟨r', ?_, q2, ?_⟩
      · rw [List.map_cons]
        simp only [lc2Go, h, e1, e3, hp]
        rw [q1, List.filter_cons_of_neg (by simp [hp])]
      · rw [e4] at q3
        exact .inr (q3.elim id id)
    | true =>
      obtain ⟨e6, e7⟩ := e5 hp
      obtain ⟨r4, w1, w2, w3⟩ := lcGo_eq (vs := vs1) (bind := fun d r => bindT d r tg1) (cond := evC G cond1) (elt := evE G elt) (g1 a) (p1 a) (f a) (r0 := wipeE r3 vs1) (wipeE_absorb (fun _ h => h) r3) (bs a) acc r3 (fun b hb => by
        obtain ⟨r5, z1, z2⟩ := e7 b hb
        obtain ⟨k, r6, z3, rfl, z4, z5⟩ := Rs.w_eq z2
        refine ⟨r5, z1, r6, z3, z4, fun hp => ?_⟩
        obtain ⟨x, r7, z6, ⟨o, rfl⟩, z7⟩ := Rs.w_eq (z5 hp)
        exact ⟨o, r7, z6, z7⟩) rfl (by omega)
      have hr4 : wipeE r4 vs = r0 := by
        rw [← wipeE_absorb hsub r4, w2, wipeE_absorb hsub, e4]
      have hlen : (acc ++ ((bs a).filter (p1 a)).map (f a)).length + (as.map fun a => (bs a).length).sum ≤ sizeLine := by
        have := List.length_filter_le (p1 a) (bs a)
        simp only [List.length_append, List.length_map]
        omega
      obtain ⟨r', q1, q2, q3⟩ := lc2Go_eq g p bs g1 p1 f hw hsub as (acc ++ ((bs a).filter (p1 a)).map (f a)) (wipeE r4 vs) hs' (by rw [hr4, hw]) hlen
      refine ⟨r', ?_, q2, ?_⟩
      · rw [List.map_cons]
        simp only [lc2Go, h, e1, e3, hp, e6, w1]
        rw [q1, List.filter_cons_of_pos (by simp [hp])]
        simp
      · rw [hr4] at q3
        exact .inr (q3.elim id id)
theorem lc2_w {G : Gs} {α β : Type} {Q : R → En → Prop} {X : Ex → En → Prop} (g : α → D) (p : α → Bool) (bs : α → List β) (g1 : α → β → D) (p1 : α → β → Bool) (f : α → β → D) (as : List α) {own : List (Str × Nat)} {vs1 : List Nat} {tg tg1 : Tg} {it it1 : CI} {cond cond1 : CTo} {elt : CE} {r : En}
    (hi : evI G it r = .ok (as.map g) r) (hl : (as.map fun a => (bs a).length).sum ≤ 16777216)
    (hs : ∀ a ∈ as, ∃ r2, bindT (g a) (wipeE r (own.map (·.2))) tg = some r2 ∧ (evC G cond r2).w (fun k r3 => k = p a ∧ wipeE r3 (own.map (·.2)) = wipeE r (own.map (·.2)) ∧ (p a = true → evI G it1 r3 = .ok ((bs a).map (g1 a)) r3 ∧ ∀ b ∈ bs a, ∃ r5, bindT (g1 a b) (wipeE r3 vs1) tg1 = some r5 ∧
        (evC G cond1 r5).w (fun k r6 => k = p1 a b ∧ wipeE r6 vs1 = wipeE r3 vs1 ∧ (p1 a b = true → (evE G elt r6).w (fun x r7 => (∃ o, x = .val o (f a b)) ∧ wipeE r7 vs1 = wipeE r3 vs1) fun _ _ => False)) fun _ _ => False)) fun _ _ => False)
    (hq : Q (.val true (.list ((as.filter p).flatMap fun a => ((bs a).filter (p1 a)).map (f a)))) r)
    (hb : wipeE (wipeE r (own.map (·.2))) (own.map (·.2)) = wipeE r (own.map (·.2)) ∧ backE r (wipeE r (own.map (·.2))) (own.map (·.2)) = r ∧ backE r r (own.map (·.2)) = r := by exact ⟨rfl, rfl, rfl⟩)
    (hsub : vs1.all (fun i => (own.map (·.2)).contains i) = true := by rfl) :
    (evE G (.lc2 own vs1 tg it cond tg1 it1 cond1 elt) r).w Q X := by
  have hsub' : ∀ i ∈ vs1, i ∈ own.map (·.2) := fun i hi => by
    have := List.all_eq_true.mp hsub i hi
    simpa using this
  obtain ⟨r', q1, q2, q3⟩ := lc2Go_eq (tg1 := tg1) (it1 := it1) (cond := cond) (cond1 := cond1) (elt := elt) g p bs g1 p1 f hb.1 hsub' as [] r hs rfl (by rw [sizeLine_eq, List.length_nil]; omega)
  rw [evE, hi]
  simp only [bind_okR]
  rw [q1]
  simp only [bind_okR, List.nil_append]
  rcases q3 with e | e
  · rw [e, hb.2.2]
    exact .ok hq
  · rw [e, hb.2.1]
    exact .ok hq
theorem lc2_w1 (r1 : En) {G : Gs} {α β : Type} {Q : R → En → Prop} {X : Ex → En → Prop} (g : α → D) (p : α → Bool) (bs : α → List β) (g1 : α → β → D) (p1 : α → β → Bool) (f : α → β → D) (as : List α) {own : List (Str × Nat)} {vs1 : List Nat} {tg tg1 : Tg} {it it1 : CI} {cond cond1 : CTo} {elt : CE} {r : En}
    (hi : evI G it r = .ok (as.map g) r1) (hl : (as.map fun a => (bs a).length).sum ≤ 16777216)
    (hs : ∀ a ∈ as, ∃ r2, bindT (g a) (wipeE r1 (own.map (·.2))) tg = some r2 ∧ (evC G cond r2).w (fun k r3 => k = p a ∧ wipeE r3 (own.map (·.2)) = wipeE r1 (own.map (·.2)) ∧ (p a = true → evI G it1 r3 = .ok ((bs a).map (g1 a)) r3 ∧ ∀ b ∈ bs a, ∃ r5, bindT (g1 a b) (wipeE r3 vs1) tg1 = some r5 ∧
        (evC G cond1 r5).w (fun k r6 => k = p1 a b ∧ wipeE r6 vs1 = wipeE r3 vs1 ∧ (p1 a b = true → (evE G elt r6).w (fun x r7 => (∃ o, x = .val o (f a b)) ∧ wipeE r7 vs1 = wipeE r3 vs1) fun _ _ => False)) fun _ _ => False)) fun _ _ => False)
    (hq : Q (.val true (.list ((as.filter p).flatMap fun a => ((bs a).filter (p1 a)).map (f a)))) r1)
    (hb : wipeE (wipeE r1 (own.map (·.2))) (own.map (·.2)) = wipeE r1 (own.map (·.2)) ∧ backE r1 (wipeE r1 (own.map (·.2))) (own.map (·.2)) = r1 ∧ backE r1 r1 (own.map (·.2)) = r1 := by exact ⟨rfl, rfl, rfl⟩)
    (hsub : vs1.all (fun i => (own.map (·.2)).contains i) = true := by rfl) :
    (evE G (.lc2 own vs1 tg it cond tg1 it1 cond1 elt) r).w Q X := by
  have hsub' : ∀ i ∈ vs1, i ∈ own.map (·.2) := fun i hi => by
    have := List.all_eq_true.mp hsub i hi
    simpa using this
  obtain ⟨r', q1, q2, q3⟩ := lc2Go_eq (tg1 := tg1) (it1 := it1) (cond := cond) (cond1 := cond1) (elt := elt) g p bs g1 p1 f hb.1 hsub' as [] r1 hs rfl (by rw [sizeLine_eq, List.length_nil]; omega)
  rw [evE, hi]
  simp only [bind_okR]
  rw [q1]
  simp only [bind_okR, List.nil_append]
  rcases q3 with e | e
  · rw [e, hb.2.2]
    exact .ok hq
  · rw [e, hb.2.1]
    exact .ok hq
end E2
namespace E2
open PySem L2
theorem rngD_2 {a b : Nat} (h : b ≤ 16777216) (h' : a ≤ 16777216) : rngD [.int a, .int b] = some ((List.range' a (b - a)).map dn) := by
  rw [rngD_two h h', List.range'_eq_map_range, List.map_map]; rfl
theorem rngD_2s {a b : Nat} (h : b ≤ 16777216) (h' : a + 1 ≤ 16777216) : rngD [.int ((a : Int) + 1), .int b] = some ((List.range' (a + 1) (b - (a + 1))).map dn) := rngD_2 (a := a + 1) h h'
end E2
namespace E2
open PySem L2
/-! ## dict comprehensions -/
theorem dPut_len (kvs : List (D × D)) (k v : D) : (dPut kvs k v).length ≤ kvs.length + 1 := by
  unfold dPut
  split <;> simp
theorem dPut_flat {kvs : List (D × D)} {k v : D} (h : kvs.all (fun p => flatK p.1) = true) (hk : flatK k = true) : (dPut kvs k v).all (fun p => flatK p.1) = true := by
  rw [List.all_eq_true] at h ⊢
  intro p hp
  unfold dPut at hp
  split at hp
  · obtain ⟨q, hq, rfl⟩ := List.mem_map.mp hp
    have := h q hq
    split <;> exact this
  · rcases List.mem_append.mp hp with z | z
    · exact h p z
    · have : p = (k, v) := by simpa using z
      subst this
      exact hk
def dcFold {α : Type} (p : α → Bool) (fk fv : α → D) (as : List α) (acc : List (D × D)) : List (D × D) := (as.filter p).foldl (fun acc a => dPut acc (fk a) (fv a)) acc
theorem dcGo_eq {G : Gs} {α : Type} (g : α → D) (p : α → Bool) (fk fv : α → D) {vs : List Nat} {tg : Tg} {cond : CTo} {ek ev : CE} {r0 : En} (hw : wipeE r0 vs = r0) :
    ∀ (as : List α) (acc : List (D × D)) (r : En), (∀ a ∈ as, flatK (fk a) = true ∧ ∃ r2, bindT (g a) r0 tg = some r2 ∧ (evC G cond r2).w (fun k r3 => k = p a ∧ wipeE r3 vs = r0 ∧ (p a = true → (evE G ek r3).w (fun x r4 => (∃ o, x = .val o (fk a)) ∧ (evE G ev r4).w (fun y r5 => (∃ o, y = .val o (fv a)) ∧ wipeE r5 vs = r0) fun _ _ => False) fun _ _ => False)) fun _ _ => False) →
      wipeE r vs = r0 → acc.all (fun p => flatK p.1) = true → acc.length + as.length ≤ sizeLine →
      ∃ r', dcGo vs (fun d r => bindT d r tg) (evC G cond) (evE G ek) (evE G ev) (as.map g) acc r = .ok (dcFold p fk fv as acc) r' ∧ wipeE r' vs = r0 ∧ (r' = r ∨ r' = r0)
  | [], acc, r, _, h, _, _ => ⟨r, by simp [dcGo, dcFold], h, .inl rfl⟩
  | a :: as, acc, r, hs, h, hf, hl => by
    obtain ⟨hk, r2, e1, e2⟩ := hs a List.mem_cons_self
    obtain ⟨k, r3, e3, rfl, e4, e5⟩ := Rs.w_eq e2
    have hs' := fun a h => hs a (List.mem_cons_of_mem _ h)
    rw [List.length_cons] at hl
    cases hp : p a with
    | false =>
      obtain ⟨r', q1, q2, q3⟩ := dcGo_eq g p fk fv hw as acc (wipeE r3 vs) hs' (by rw [e4, hw]) hf (by omega)
      refine ⟨r', ?_, q2, ?_⟩
      · rw [List.map_cons]
        simp only [dcGo, h, e1, e3, hp]
        rw [q1]
        unfold dcFold
        rw [List.filter_cons_of_neg (by simp [hp])]
      · rw [e4] at q3
        exact .inr (q3.elim id id)
    | true =>
      obtain ⟨x, r4, e6, ⟨o, rfl⟩, e7⟩ := Rs.w_eq (e5 hp)
      obtain ⟨y, r5, e8, ⟨o', rfl⟩, e9⟩ := Rs.w_eq e7
      have hlen := dPut_len acc (fk a) (fv a)
      obtain ⟨r', q1, q2, q3⟩ := dcGo_eq g p fk fv hw as (dPut acc (fk a) (fv a)) (wipeE r5 vs) hs' (by rw [e9, hw]) (dPut_flat hf hk) (by omega)
      refine ⟨r', ?_, q2, ?_⟩
      · rw [List.map_cons]
        have ht : takes r5 [.val o (fk a), .val o' (fv a)] = some ([fk a, fv a], r5) := rfl
        simp only [dcGo, h, e1, e3, hp, e6, e8, ht]
        rw [if_pos ⟨by rw [hf, hk]; rfl, by omega⟩, q1]
        unfold dcFold
        rw [List.filter_cons_of_pos (by simp [hp]), List.foldl_cons]
      · rw [e9] at q3
        exact .inr (q3.elim id id)
theorem dc_w {G : Gs} {α : Type} {Q : R → En → Prop} {X : Ex → En → Prop} (g : α → D) (p : α → Bool) (fk fv : α → D) (as : List α) {own : List (Str × Nat)} {tg : Tg} {it : CI} {cond : CTo} {ek ev : CE} {r : En} (hi : evI G it r = .ok (as.map g) r) (hl : as.length ≤ 16777216)
    (hs : ∀ a ∈ as, flatK (fk a) = true ∧ ∃ r2, bindT (g a) (wipeE r (own.map (·.2))) tg = some r2 ∧ (evC G cond r2).w (fun k r3 => k = p a ∧ wipeE r3 (own.map (·.2)) = wipeE r (own.map (·.2)) ∧ (p a = true → (evE G ek r3).w (fun x r4 => (∃ o, x = .val o (fk a)) ∧ (evE G ev r4).w (fun y r5 => (∃ o, y = .val o (fv a)) ∧ wipeE r5 (own.map (·.2)) = wipeE r (own.map (·.2))) fun _ _ => False) fun _ _ => False)) fun _ _ => False)
    (hq : Q (.val true (.dict (dcFold p fk fv as []))) r)
    (hb : wipeE (wipeE r (own.map (·.2))) (own.map (·.2)) = wipeE r (own.map (·.2)) ∧ backE r (wipeE r (own.map (·.2))) (own.map (·.2)) = r ∧ backE r r (own.map (·.2)) = r := by exact ⟨rfl, rfl, rfl⟩) :
    (evE G (.dc own tg it cond ek ev) r).w Q X := by
  obtain ⟨r', q1, q2, q3⟩ := dcGo_eq (cond := cond) (ek := ek) (ev := ev) g p fk fv hb.1 as [] r hs rfl rfl (by rw [sizeLine_eq, List.length_nil]; omega)
  rw [evE, hi]
  simp only [bind_okR]
  rw [q1]
  simp only [bind_okR]
  rcases q3 with e | e
  · rw [e, hb.2.2]
    exact .ok hq
  · rw [e, hb.2.1]
    exact .ok hq
theorem dc_w1 (r1 : En) {G : Gs} {α : Type} {Q : R → En → Prop} {X : Ex → En → Prop} (g : α → D) (p : α → Bool) (fk fv : α → D) (as : List α) {own : List (Str × Nat)} {tg : Tg} {it : CI} {cond : CTo} {ek ev : CE} {r : En} (hi : evI G it r = .ok (as.map g) r1) (hl : as.length ≤ 16777216)
    (hs : ∀ a ∈ as, flatK (fk a) = true ∧ ∃ r2, bindT (g a) (wipeE r1 (own.map (·.2))) tg = some r2 ∧ (evC G cond r2).w (fun k r3 => k = p a ∧ wipeE r3 (own.map (·.2)) = wipeE r1 (own.map (·.2)) ∧ (p a = true → (evE G ek r3).w (fun x r4 => (∃ o, x = .val o (fk a)) ∧ (evE G ev r4).w (fun y r5 => (∃ o, y = .val o (fv a)) ∧ wipeE r5 (own.map (·.2)) = wipeE r1 (own.map (·.2))) fun _ _ => False) fun _ _ => False)) fun _ _ => False)
    (hq : Q (.val true (.dict (dcFold p fk fv as []))) r1)
    (hb : wipeE (wipeE r1 (own.map (·.2))) (own.map (·.2)) = wipeE r1 (own.map (·.2)) ∧ backE r1 (wipeE r1 (own.map (·.2))) (own.map (·.2)) = r1 ∧ backE r1 r1 (own.map (·.2)) = r1 := by exact ⟨rfl, rfl, rfl⟩) :
    (evE G (.dc own tg it cond ek ev) r).w Q X := by
  obtain ⟨r', q1, q2, q3⟩ := dcGo_eq (cond := cond) (ek := ek) (ev := ev) g p fk fv hb.1 as [] r1 hs rfl rfl (by rw [sizeLine_eq, List.length_nil]; omega)
  rw [evE, hi]
  simp only [bind_okR]
  rw [q1]
  simp only [bind_okR]
  rcases q3 with e | e
  · rw [e, hb.2.2]
    exact .ok hq
  · rw [e, hb.2.1]
    exact .ok hq
/-- new keys, one after another -/
theorem dcFold_new {α : Type} [Enc α] [EncK α] [DecidableEq α] (v : α → D) : ∀ (as acc : List α), (acc ++ as).Nodup → dcFold (fun _ => true) Enc.e v as (acc.map fun a => (Enc.e a, v a)) = (acc ++ as).map fun a => (Enc.e a, v a)
  | [], acc, _ => by simp [dcFold]
  | a :: as, acc, hn => by
    have hn' : ((acc ++ [a]) ++ as).Nodup := by simpa using hn
    have ih := dcFold_new v as (acc ++ [a]) hn'
    unfold dcFold at ih ⊢
    rw [List.filter_cons_of_pos rfl, List.foldl_cons]
    have e1 : (acc.map fun a => (Enc.e a, v a)) = (acc.map fun a => (a, v a)).map fun p => (Enc.e p.1, p.2) := by rw [List.map_map]; rfl
    have e2 : dPut (acc.map fun a => (Enc.e a, v a)) (Enc.e a) (v a) = (acc ++ [a]).map fun a => (Enc.e a, v a) := by
      rw [e1, dPut_e]
      unfold dins
      rw [if_neg (by
        simp only [List.any_map, List.any_eq_true, not_exists, not_and]
        intro x hx q
        have : x = a := by simpa using q
        rw [List.nodup_append] at hn
        exact hn.2.2 x hx a List.mem_cons_self this)]
      simp
    rw [e2, ih]
    simp
theorem bin_tt {x y : List D} (h : x.length + y.length ≤ 16777216) : binD .Add (.tuple x) (.tuple y) = some (false, .tuple (x ++ y)) := by
  rw [← sizeLine_eq] at h
  exact if_pos h
theorem bin_ll {x y : List D} (h : x.length + y.length ≤ 16777216) : binD .Add (.list x) (.list y) = some (true, .list (x ++ y)) := by
  rw [← sizeLine_eq] at h
  exact if_pos h
end E2
namespace E2
open PySem L2
@[simp] theorem x_tup {G : Gs} {ts : TXs} {ds : List D} {r : En} : evX G (.tup ts) (.tuple ds) r = gS (ds.length = lenTX ts) (evXs G ts ds r) := by rw [evX]; rfl
@[simp ↓] theorem w_x_tup {G : Gs} {ts : TXs} {ds : List D} {r : En} {Q : Unit → En → Prop} {X : Ex → En → Prop} : (evX G (.tup ts) (.tuple ds) r).w Q X ↔ ((gS (ds.length = lenTX ts) (evXs G ts ds r) : Rs Unit)).w Q X := by rw [x_tup]
@[simp] theorem xs_nil {G : Gs} {r : En} : evXs G .nil [] r = .ok () r := by rw [evXs]
@[simp] theorem xs_cons {G : Gs} {t : TX} {ts : TXs} {d : D} {ds : List D} {r : En} : evXs G (.cons t ts) (d :: ds) r = (evX G t d r).bind fun _ r1 => evXs G ts ds r1 := by rw [evXs]
@[simp ↓] theorem w_xs_nil {G : Gs} {r : En} {Q : Unit → En → Prop} {X : Ex → En → Prop} : (evXs G .nil [] r).w Q X ↔ (Rs.ok () r).w Q X := by rw [xs_nil]
@[simp ↓] theorem w_xs_cons {G : Gs} {t : TX} {ts : TXs} {d : D} {ds : List D} {r : En} {Q : Unit → En → Prop} {X : Ex → En → Prop} : (evXs G (.cons t ts) (d :: ds) r).w Q X ↔ (((evX G t d r).bind fun _ r1 => evXs G ts ds r1 : Rs Unit)).w Q X := by rw [xs_cons]
@[simp] theorem lenTX_nil : lenTX .nil = 0 := same rfl
@[simp] theorem lenTX_cons {t : TX} {ts : TXs} : lenTX (.cons t ts) = lenTX ts + 1 := same rfl
end E2
namespace E2
open PySem L2
@[simp high] theorem blt_tuple_tn {α : Type} {f : α → Nat} {xs : List α} : bltD .tuple [.list (xs.map fun a => dn (f a))] = some (false, tn (xs.map f)) := by
  have e : tn (xs.map f) = .tuple (xs.map fun a => dn (f a)) := by
    show PyData.tuple ((xs.map f).map dn) = _
    rw [List.map_map]; rfl
  rw [e]; exact blt_tuple_list
end E2
namespace E2
open PySem L2
@[simp] theorem methT_it {xs : List D} : methT .index (.tuple xs) = "tuple" := same rfl
@[simp] theorem methT_il {xs : List D} : methT .index (.list xs) = "list" := same rfl
@[simp] theorem tyN_t {xs : List D} : tyName (.tuple xs) = "tuple" := same rfl
@[simp] theorem tyN_l {xs : List D} : tyName (.list xs) = "list" := same rfl
theorem index_tn {xs : List Nat} {k : Nat} (h : k ∈ xs) : methD .index (.tuple (xs.map dn)) [.int k] = some (false, .int (xs.idxOf k)) := by
  have e := indexD_e k xs 0
  rw [if_pos h] at e
  show (if SeqAt.shaped (.list (xs.map dn)) = true ∧ SeqAt.shaped (dn k) = true then (indexD (dn k) (xs.map dn) 0).map (fun n => (false, PyData.int (n : Nat))) else none) = _
  rw [if_pos ⟨shaped_dnl xs, shaped_dn k⟩]
  have e' : indexD (dn k) (xs.map dn) 0 = some (0 + xs.idxOf k) := e
  rw [e', Nat.zero_add]; rfl
end E2
namespace E2
/-- an invariant that simp leaves as it stands -/
structure Ih (I : En → Prop) (r : En) (_t : Blk I := ⟨⟩) : Prop where
  h : I r
end E2
namespace E2
open PySem L2
/-- a loop over a written list, turn by turn -/
theorem forC_w {bind : D → En → Option En} {b : En → So} {P : Pt} {d : D} {ds : List D} {r r1 : En} (h : bind d r = some r1) (hb : (b r1).w (P.lp fun r2 => (forF bind b ds r2).w P)) : (forF bind b (d :: ds) r).w P := by
  unfold forF
  simp only [h]
  generalize b r1 = o at hb ⊢
  cases o with
  | nx r2 => exact nx_w.mp hb
  | cont r2 => exact cont_w.mp hb
  | brk r2 => have q := brk_w.mp hb; exact .nx q
  | ret x r2 => have q := ret_w.mp hb; exact .ret q
  | exc x r2 => have q := sexc_w.mp hb; exact .exc q
  | stuck => exact (sstuck_w.mp hb).elim
theorem forN_w {bind : D → En → Option En} {b : En → So} {P : Pt} {r : En} (h : P.nx r) : (forF bind b [] r).w P := .nx h
end E2
namespace E2
open PySem L2
theorem forD_w {bind : D → En → Option En} {b : En → So} {P : Pt} (I : List D → En → Prop) (hs : ∀ a as r, I (a :: as) r → ∃ r1, bind a r = some r1 ∧ (b r1).w (P.lp (I as))) (he : ∀ r, I [] r → P.nx r) (as : List D) (r : En) (h : I as r) : (forF bind b as r).w P := by
  have := for_w (fun d : D => d) I hs he as r h
  rwa [List.map_id'] at this
end E2

set_option Elab.async false
set_option linter.all false
set_option maxRecDepth 100000
set_option maxHeartbeats 1000000
namespace E2
open PySem L2
/-! ## x op= e and x[i] op= e -/
def svV : Option (Option Sv) → Option D
  | some (some (.dat false d)) => some d
  | _ => none
@[simp] theorem svV_d {d : D} : svV (some (some (.dat false d))) = some d := same rfl
def augV (op : Operator) : D → D → Option D
  | .int a, .int b => (binD op (.int a) (.int b)).map (·.2)
  | _, _ => none
def dI : D → Option Int
  | .int a => some a
  | _ => none
@[simp] theorem dI_i {a : Int} : dI (.int a) = some a := same rfl
@[simp] theorem augV_add {a b : Int} : augV .Add (.int a) (.int b) = some (.int (a + b)) := same rfl
@[simp] theorem augV_sub {a b : Int} : augV .Sub (.int a) (.int b) = some (.int (a - b)) := same rfl
section
variable {G : Gs} {r : En} {P : Pt}
@[simp] theorem s_aug {i : Nat} {op : Operator} {e : CE} : evS G (.aug i op e) r = oX (svV r[i]?) fun d => (evE G e r).so fun y r1 => oX (dref r1 y) fun f => oX (augV op d f) fun v => oX (gO (i < r1.length) (some (r1.set i (some (.dat false v))))) fun r2 => .nx r2 := by
  rw [evS]
  cases r[i]? with
  | none => rfl
  | some x => cases x with
    | none => rfl
    | some y => cases y with
      | dat o d => cases o with
        | true => rfl
        | false =>
          rw [svV_d, oX_some]
          refine so_ext fun y r1 => ?_
          cases dref r1 y with
          | none => rfl
          | some f =>
            rw [oX_some]
            cases d with
            | int a => cases f with
              | int b =>
                show (match binD op (.int a) (.int b) with
                  | some (_, v) => if i < r1.length then So.nx (r1.set i (some (.dat false v))) else .stuck
                  | none => .stuck) = oX ((binD op (.int a) (.int b)).map (·.2)) _
                cases binD op (.int a) (.int b) with
                | none => rfl
                | some q =>
                  show (if i < r1.length then So.nx (r1.set i (some (.dat false q.2))) else .stuck) = oX (gO _ _) _
                  unfold gO
                  by_cases h : i < r1.length
                  · rw [if_pos h, if_pos h]; rfl
                  · rw [if_neg h, if_neg h]; rfl
              | _ => rfl
            | _ => rfl
      | _ => rfl
@[simp ↓] theorem w_s_aug {i : Nat} {op : Operator} {e : CE} : (evS G (.aug i op e) r).w P ↔ ((oX (svV r[i]?) fun d => (evE G e r).so fun y r1 => oX (dref r1 y) fun f => oX (augV op d f) fun v => oX (gO (i < r1.length) (some (r1.set i (some (.dat false v))))) fun r2 => .nx r2 : So)).w P := by rw [s_aug]
@[simp] theorem s_augi {i : Nat} {ix : CE} {op : Operator} {e : CE} : evS G (.augi i ix op e) r = oX (svO r[i]?) fun _ => (evE G ix r).so fun x r1 => oX (dref r1 x) fun k => oX (svO r1[i]?) fun c => oX (oO (idxD c k) dI) fun a => (evE G e r1).so fun y r2 => oX (oO (dref r2 y) dI) fun b => oX (binD op (.int a) (.int b)) fun q => oX (svO r2[i]?) fun c2 => oX (setD c2 k q.2) fun c3 => .nx (r2.set i (some (.dat true c3))) := by
  rw [evS]
  have key2 : ∀ (k : D) (a : Int) (y : R) (r2 : En), (match dref r2 y with
            | some (.int b) => match binD op (.int a) (.int b) with
              | some (_, v) => match r2[i]? with
                | some (some (.dat true c2)) => match setD c2 k v with
                  | some c3 => So.nx (r2.set i (some (.dat true c3)))
                  | none => .stuck
                | _ => .stuck
              | none => .stuck
            | _ => .stuck) = oX (oO (dref r2 y) dI) fun b => oX (binD op (.int a) (.int b)) fun q => oX (svO r2[i]?) fun c2 => oX (setD c2 k q.2) fun c3 => .nx (r2.set i (some (.dat true c3))) := by
    intro k a y r2
    cases dref r2 y with
    | none => rfl
    | some f => cases f with
      | int b =>
        simp only [oO_some, dI_i, oX_some]
        cases binD op (.int a) (.int b) with
        | none => rfl
        | some q =>
          simp only [oX_some]
          cases r2[i]? with
          | none => rfl
          | some x => cases x with
            | none => rfl
            | some y => cases y with
              | dat o c => cases o with
                | false => rfl
                | true =>
                  simp only [svO_d, oX_some]
                  cases setD c k q.2 <;> rfl
              | _ => rfl
      | _ => rfl
  have key : ∀ (x : R) (r1 : En), (match dref r1 x with
      | some k => match r1[i]? with
        | some (some (.dat true c)) => match idxD c k with
          | some (.int a) => (evE G e r1).so fun y r2 => match dref r2 y with
            | some (.int b) => match binD op (.int a) (.int b) with
              | some (_, v) => match r2[i]? with
                | some (some (.dat true c2)) => match setD c2 k v with
                  | some c3 => So.nx (r2.set i (some (.dat true c3)))
                  | none => .stuck
                | _ => .stuck
              | none => .stuck
            | _ => .stuck
          | _ => .stuck
        | _ => .stuck
      | none => .stuck) = oX (dref r1 x) fun k => oX (svO r1[i]?) fun c => oX (oO (idxD c k) dI) fun a => (evE G e r1).so fun y r2 => oX (oO (dref r2 y) dI) fun b => oX (binD op (.int a) (.int b)) fun q => oX (svO r2[i]?) fun c2 => oX (setD c2 k q.2) fun c3 => .nx (r2.set i (some (.dat true c3))) := by
    intro x r1
    cases dref r1 x with
    | none => rfl
    | some k =>
      simp only [oX_some]
      cases r1[i]? with
      | none => rfl
      | some x => cases x with
        | none => rfl
        | some y => cases y with
          | dat o c => cases o with
            | false => rfl
            | true =>
              simp only [svO_d, oX_some]
              cases idxD c k with
              | none => rfl
              | some v => cases v with
                | int a =>
                  simp only [oO_some, dI_i, oX_some]
                  exact so_ext (key2 k a)
                | _ => rfl
          | _ => rfl
  cases r[i]? with
  | none => rfl
  | some x => cases x with
    | none => rfl
    | some y => cases y with
      | dat o c => cases o with
        | false => rfl
        | true =>
          simp only [svO_d, oX_some]
          exact so_ext key
      | _ => rfl
@[simp ↓] theorem w_s_augi {i : Nat} {ix : CE} {op : Operator} {e : CE} : (evS G (.augi i ix op e) r).w P ↔ ((oX (svO r[i]?) fun _ => (evE G ix r).so fun x r1 => oX (dref r1 x) fun k => oX (svO r1[i]?) fun c => oX (oO (idxD c k) dI) fun a => (evE G e r1).so fun y r2 => oX (oO (dref r2 y) dI) fun b => oX (binD op (.int a) (.int b)) fun q => oX (svO r2[i]?) fun c2 => oX (setD c2 k q.2) fun c3 => .nx (r2.set i (some (.dat true c3))) : So)).w P := by rw [s_augi]
end
@[simp] theorem blt_abs {i : Int} : bltD .abs [.int i] = some (false, .int i.natAbs) := by
  show some (false, PyData.int (if i < 0 then -i else i)) = _
  split <;> (congr 3; omega)
theorem mul_small {i j : Int} (h : -(2 ^ 64) < j ∧ j < 2 ^ 64) : binD .Mult (.int i) (.int j) = some (false, .int (i * j)) := if_pos (by
  unfold mulOk
  rw [decide_eq_true h, Bool.or_true])
end E2

set_option Elab.async false
set_option linter.all false
set_option maxRecDepth 100000
set_option maxHeartbeats 1000000
namespace E2
open PySem L2
theorem Rs.w_any {α : Type} {x : Rs α} {Q : α → En → Prop} (h : x.w Q fun _ _ => False) : ∃ a r, x = .ok a r ∧ Q a r := Rs.w_eq h
/-- a comprehension that changes its surroundings: acc what it has, rem what is left -/
theorem lcI_go {α : Type} {vs : List Nat} {bind : D → En → Option En} {cond : En → Rs Bool} {elt : En → Rs R} (g : α → D) (I : List D → List α → En → Prop)
    (hs : ∀ a rem acc r, I acc (a :: rem) r → ∃ r2, bind (g a) (wipeE r vs) = some r2 ∧ (cond r2).w (fun k r3 => (k = true → (elt r3).w (fun x r4 => ∃ y r5, take r4 x = some (y, r5) ∧ I (acc ++ [y]) rem (wipeE r5 vs)) fun _ _ => False) ∧ (k = false → I acc rem (wipeE r3 vs))) fun _ _ => False) :
    ∀ (as : List α) (acc : List D) (r : En), I acc as r → acc.length + as.length ≤ sizeLine → ∃ ys r', lcGo vs bind cond elt (as.map g) acc r = .ok ys r' ∧ I ys [] r'
  | [], acc, r, h, _ => ⟨acc, r, rfl, h⟩
  | a :: as, acc, r, h, hl => by
    have hl' : acc.length + (as.length + 1) ≤ sizeLine := by simpa using hl
    obtain ⟨r2, e1, e2⟩ := hs a as acc r h
    obtain ⟨k, r3, e3, e4, e5⟩ := Rs.w_eq e2
    cases k with
    | false =>
      obtain ⟨ys, r', q1, q2⟩ := lcI_go g I hs as acc (wipeE r3 vs) (e5 rfl) (by omega)
      refine ⟨ys, r', ?_, q2⟩
      rw [List.map_cons]
      simp only [lcGo, e1, e3]
      exact q1
    | true =>
      obtain ⟨x, r4, e6, y, r5, e7, e8⟩ := Rs.w_eq (e4 rfl)
      obtain ⟨ys, r', q1, q2⟩ := lcI_go g I hs as (acc ++ [y]) (wipeE r5 vs) e8 (by rw [List.length_append, List.length_singleton]; omega)
      refine ⟨ys, r', ?_, q2⟩
      rw [List.map_cons]
      simp only [lcGo, e1, e3, e6, e7]
      rw [if_pos (by omega)]
      exact q1
theorem lcI_w (r1 : En) {G : Gs} {α : Type} {Q : R → En → Prop} {X : Ex → En → Prop} (g : α → D) (as : List α) (I : List D → List α → En → Prop) {own : List (Str × Nat)} {tg : Tg} {it : CI} {cond : CTo} {elt : CE} {r : En} (hi : evI G it r = .ok (as.map g) r1) (hl : as.length ≤ 16777216) (h0 : I [] as r1)
    (hs : ∀ a rem acc r, I acc (a :: rem) r → ∃ r2, bindT (g a) (wipeE r (own.map (·.2))) tg = some r2 ∧ (evC G cond r2).w (fun k r3 => (k = true → (evE G elt r3).w (fun x r4 => ∃ y r5, take r4 x = some (y, r5) ∧ I (acc ++ [y]) rem (wipeE r5 (own.map (·.2)))) fun _ _ => False) ∧ (k = false → I acc rem (wipeE r3 (own.map (·.2))))) fun _ _ => False)
    (hq : ∀ ys r', I ys [] r' → Q (.val true (.list ys)) (backE r1 r' (own.map (·.2)))) : (evE G (.lc own tg it cond elt) r).w Q X := by
  obtain ⟨ys, r', q1, q2⟩ := lcI_go (vs := own.map (·.2)) (bind := fun d r => bindT d r tg) (cond := evC G cond) (elt := evE G elt) g I hs as [] r1 h0 (by rw [sizeLine_eq, List.length_nil]; omega)
  rw [evE, hi]
  simp only [bind_okR]
  rw [q1]
  simp only [bind_okR]
  exact .ok (hq ys r' q2)
end E2

set_option Elab.async false
set_option linter.all false
set_option maxRecDepth 100000
set_option maxHeartbeats 1000000
namespace Lb
open PySem L2 E2
/- _law_draws: no parameters -/
def b__law_draws : CSs :=
  (.cons (.ret (.lst (.cons (.blt .list (.cons (.var 0) .nil)) (.cons (.cst (.int 0)) (.cons (.cst (.int 0)) (.cons (.cst (.int 1)) .nil)))))) .nil)
def n__law_draws : List Str := [Str.ofString "script"]
abbrev f__law_draws : Fn := ⟨1, [false], b__law_draws⟩

/- _law_draw: no parameters -/
def b__law_draw : CSs :=
  (.cons (.ite (.and (.ex (.cmp .Eq (.idx (.var 0) (.cst (.int 2))) (.cst (.int 0)))) (.ex (.cmp .Lt (.idx (.var 0) (.cst (.int 1))) (.blt .len (.cons (.idx (.var 0) (.cst (.int 0))) .nil))))) (
   (.cons (.set 2 (.idx (.idx (.var 0) (.cst (.int 0))) (.idx (.var 0) (.cst (.int 1)))))
   (.cons (.asg (.sub 0 (.cst (.int 1))) (.bin .Add (.idx (.var 0) (.cst (.int 1))) (.cst (.int 1))))
   (.cons (.ite (.ex (.cmp .GtE (.var 2) (.bin .Pow (.cst (.int 10)) (.cst (.int 18))))) (
    (.cons (.asg (.sub 0 (.cst (.int 2))) (.var 2)) .nil)) (.nil))
   (.cons (.asg (.sub 0 (.cst (.int 3))) (.bin .Mod (.blt .int (.cons (.bin .Add (.bin .Add (.bin .Mult (.idx (.var 0) (.cst (.int 3))) (.cst (.int 48271))) (.var 2)) (.cst (.int 13))) .nil)) (.cst (.int 2147483647)))) .nil))))) (.nil))
  (.cons (.ite (.ex (.cmp .Gt (.idx (.var 0) (.cst (.int 2))) (.cst (.int 0)))) (
   (.cons (.set 3 (.bin .Mod (.blt .int (.cons (.idx (.var 0) (.cst (.int 2))) .nil)) (.var 1)))
   (.cons (.asg (.sub 0 (.cst (.int 2))) (.bin .FloorDiv (.idx (.var 0) (.cst (.int 2))) (.var 1)))
   (.cons (.ret (.var 3)) .nil)))) (.nil))
  (.cons (.asg (.sub 0 (.cst (.int 3))) (.bin .Mod (.blt .int (.cons (.bin .Add (.bin .Mult (.idx (.var 0) (.cst (.int 3))) (.cst (.int 69621))) (.cst (.int 7))) .nil)) (.cst (.int 2147483629))))
  (.cons (.ret (.bin .Mod (.blt .int (.cons (.bin .FloorDiv (.idx (.var 0) (.cst (.int 3))) (.cst (.int 11))) .nil)) (.var 1))) .nil))))
def n__law_draw : List Str := [Str.ofString "draws", Str.ofString "limit", Str.ofString "cell", Str.ofString "value"]
abbrev f__law_draw : Fn := ⟨4, [true, false], b__law_draw⟩

/- _law_pick: a0 = _law_draw -/
def b__law_pick (a0 : Nat) : CSs :=
  (.cons (.ret (.idx (.var 1) (.call a0 (.cons (.var 0) (.cons (.blt .len (.cons (.var 1) .nil)) .nil))))) .nil)
def n__law_pick : List Str := [Str.ofString "draws", Str.ofString "row"]
abbrev f__law_pick (a0 : Nat) : Fn := ⟨2, [true, false], b__law_pick a0⟩

/- _law_shuffled: a0 = _law_draw -/
def b__law_shuffled (a0 : Nat) : CSs :=
  (.cons (.par [2, 3] (.cons (.blt .list (.cons (.var 1) .nil)) (.cons (.lst .nil) .nil)))
  (.cons (.for (.nm 4) (.rng (.cons (.blt .len (.cons (.var 1) .nil)) .nil)) (
   (.cons (.ex (.mut .append 3 (.cons (.mut .popAt 2 (.cons (.call a0 (.cons (.var 0) (.cons (.blt .len (.cons (.var 2) .nil)) .nil))) .nil)) .nil))) .nil)))
  (.cons (.ret (.blt .tuple (.cons (.var 3) .nil))) .nil)))
def n__law_shuffled : List Str := [Str.ofString "draws", Str.ofString "items", Str.ofString "left", Str.ofString "found", Str.ofString "k"]
abbrev f__law_shuffled (a0 : Nat) : Fn := ⟨5, [true, false], b__law_shuffled a0⟩

/- is_whole: no parameters -/
def b_is_whole : CSs :=
  (.cons (.ret (.and (.isin (.var 0) "int") (.not (.isin (.var 0) "bool")))) .nil)
def n_is_whole : List Str := [Str.ofString "value"]
abbrev f_is_whole : Fn := ⟨1, [false], b_is_whole⟩

/-! ## draws -/
/-- the state of the draws: the script, the place, the digits left, the seed -/
def Dr (d : D) : Prop := ∃ (xs : List Int) (a : Nat) (b c : Int), d = .list [.list (xs.map .int), .int a, .int b, .int c]
theorem mulOk_right {i j : Int} (h : -(2 ^ 64) < j ∧ j < 2 ^ 64) : mulOk i j = true := by
  unfold mulOk
  rw [decide_eq_true h, Bool.or_true]
def DrE (xs : List Int) (l : Nat) (r : En) : Prop := ∃ (a : Nat) (b c : Int) (x : Option Sv), r = [some (.dat true (.list [.list (xs.map .int), .int a, .int b, .int c])), some (.dat false (.int l)), x, none]
section
variable {P : Prg} {k n : Nat}
theorem draws_ok (h : At P k f__law_draws) (xs : List Int) : Dr (.list [.list (xs.map .int), .int 0, .int 0, .int 1]) ∧ run P (n + 1) k [.val (.list (xs.map .int))] = .ok true (.list [.list (xs.map .int), .int 0, .int 0, .int 1]) [] := by
  refine ⟨⟨xs, 0, 0, 1, rfl⟩, ?_⟩
  rw [run_at h]
  refine runF_is rfl rfl ?_
  simp [startA, b__law_draws]
theorem draw_ok (h : At P k f__law_draw) {d : D} {l : Nat} (hd : Dr d) (hl : 0 < l) (hl2 : l < 1073741824) :
    ∃ (v : Nat) (d' : D), run P (n + 1) k [.rf d, .val (.int l)] = .ok false (.int v) [d'] ∧ v < l ∧ Dr d' := by
  obtain ⟨xs, a, b, c, rfl⟩ := hd
  rw [run_at h]
  have key : ∃ o d1 d0, runF (P.gs (run P n)) f__law_draw [.rf (.list [.list (xs.map .int), .int a, .int b, .int c]), .val (.int l)] = .ok o d1 [d0] ∧ (o = false ∧ (∃ v : Nat, d1 = .int v ∧ v < l) ∧ Dr d0) := by
    refine runF_ret0 rfl rfl ?_
    have e1 : ∀ c : Int, mulOk c 48271 = true := fun c => mulOk_right (by decide)
    have e2 : ∀ c : Int, mulOk c 69621 = true := fun c => mulOk_right (by decide)
    have e3 : ∀ m : Int, ∃ v : Nat, m % (l : Int) = v ∧ v < l := fun m => ⟨(m % l).toNat, by have := Int.emod_nonneg m (b := l) (by omega); omega, by have := Int.emod_lt_of_pos m (b := l) (by omega); omega⟩
    show (evSs _ b__law_draw _).w _
    refine cutS (DrE xs l) ?_ ?_
    · simp [startA]
      refine ⟨fun h0 => ⟨fun h1 => ?_, fun h1 => ⟨a, b, c, _, rfl⟩⟩, fun h0 => ⟨a, b, c, _, rfl⟩⟩
      simp [List.getElem?_eq_getElem h1, bin_mul (e1 _), bin_mod]
      refine ⟨fun _ => ⟨a + 1, _, _, _, rfl⟩, fun _ => ⟨a + 1, _, _, _, rfl⟩⟩
    · rintro _ ⟨a, b, c, x, rfl⟩
      obtain ⟨v1, h1, h2⟩ := e3 b
      obtain ⟨v2, h3, h4⟩ := e3 ((c * 69621 + 7) % 2147483629 / 11)
      have hl' : (0 : Int) < l := by omega
      have hl2' : (l : Int) < 1073741824 := by omega
      simp [bin_mod, bin_div, hl, hl', hl2', bin_mul (e2 _), h1, h2, h3, h4]
      exact ⟨fun _ => ⟨⟨v1, rfl, h2⟩, xs, a, _, _, rfl⟩, fun _ => ⟨⟨v2, rfl, h4⟩, xs, a, _, _, rfl⟩⟩
  obtain ⟨o, d1, d0, e, rfl, ⟨v, rfl, hv⟩, hd⟩ := key
  exact ⟨v, d0, e, hv, hd⟩
end
/-! ## shuffled -/
def ShIL (xs : List D) (done : Nat) (r : En) : Prop := ∃ (d : D) (left found : List D) (x : Option Sv), Dr d ∧ (found ++ left).Perm xs ∧ found.length = done ∧ r = [some (.dat true d), some (.dat false (.list xs)), some (.dat true (.list left)), some (.dat true (.list found)), x]
def ShI (xs : List D) (done : Nat) (r : En) : Prop := ∃ (d : D) (left found : List D) (x : Option Sv), Dr d ∧ (found ++ left).Perm xs ∧ found.length = done ∧ r = [some (.dat true d), some (.dat false (.tuple xs)), some (.dat true (.list left)), some (.dat true (.list found)), x]
section
variable {P : Prg} {k kd n : Nat}
theorem shuffled_ok (h : At P k (f__law_shuffled kd)) (hd : At P kd f__law_draw) {d : D} {xs : List D} (hD : Dr d) (hl : xs.length ≤ 100000) :
    ∃ (ys : List D) (d' : D), run P (n + 2) k [.rf d, .val (.tuple xs)] = .ok false (.tuple ys) [d'] ∧ ys.Perm xs ∧ Dr d' := by
  rw [run_at h]
  have key : ∃ o d1 d0, runF (P.gs (run P (n + 1))) (f__law_shuffled kd) [.rf d, .val (.tuple xs)] = .ok o d1 [d0] ∧ (o = false ∧ (∃ ys, d1 = .tuple ys ∧ ys.Perm xs) ∧ Dr d0) := by
    refine runF_ret0 rfl rfl ?_
    have hL : xs.length ≤ 16777216 := by omega
    simp [startA, b__law_shuffled, hL]
    refine cutT (ShI xs xs.length) (for_w dn (fun rem r => ∃ m, m + rem.length = xs.length ∧ ShI xs m r) ?_ ?_ _ _ ⟨0, by simp, d, xs, [], _, hD, by simp, rfl, rfl⟩) ?_
    · rintro a as _ ⟨m, hm, d, left, found, x, hD, hp, hf, rfl⟩
      refine ⟨_, rfl, ?_⟩
      have hlen : found.length + left.length = xs.length := by simpa using hp.length_eq
      have h1 : 0 < left.length := by simp at hm; omega
      obtain ⟨v, d', e, hv, hd'⟩ := draw_ok (n := n) hd hD h1 (by omega)
      have h2 : left.length ≤ 16777216 := by omega
      have h3 : found.length < 16777216 := by omega
      simp [sig_at hd, e, hv, h2, h3]
      refine ⟨m + 1, by simp at hm; omega, d', _, _, _, hd', ?_, by simp [hf], rfl⟩
      refine List.Perm.trans ?_ hp
      rw [List.append_assoc]
      refine List.Perm.append_left _ ?_
      simpa using cons_eraseIdx_perm left hv
    · rintro r ⟨m, hm, hi⟩
      simp at hm
      subst hm
      exact hi
    · rintro _ ⟨d, left, found, x, hD, hp, hf, rfl⟩
      have hlen : found.length + left.length = xs.length := by simpa using hp.length_eq
      have : left = [] := List.eq_nil_of_length_eq_zero (by omega)
      subst this
      simp
      exact ⟨by simpa using hp, hD⟩
  obtain ⟨o, d1, d0, e, rfl, ⟨v, rfl, hv⟩, hd⟩ := key
  exact ⟨v, d0, e, hv, hd⟩
theorem shuffled_okL (h : At P k (f__law_shuffled kd)) (hd : At P kd f__law_draw) {d : D} {xs : List D} (hD : Dr d) (hl : xs.length ≤ 100000) :
    ∃ (ys : List D) (d' : D), run P (n + 2) k [.rf d, .val (.list xs)] = .ok false (.tuple ys) [d'] ∧ ys.Perm xs ∧ Dr d' := by
  rw [run_at h]
  have key : ∃ o d1 d0, runF (P.gs (run P (n + 1))) (f__law_shuffled kd) [.rf d, .val (.list xs)] = .ok o d1 [d0] ∧ (o = false ∧ (∃ ys, d1 = .tuple ys ∧ ys.Perm xs) ∧ Dr d0) := by
    refine runF_ret0 rfl rfl ?_
    have hL : xs.length ≤ 16777216 := by omega
    simp [startA, b__law_shuffled, hL]
    refine cutT (ShIL xs xs.length) (for_w dn (fun rem r => ∃ m, m + rem.length = xs.length ∧ ShIL xs m r) ?_ ?_ _ _ ⟨0, by simp, d, xs, [], _, hD, by simp, rfl, rfl⟩) ?_
    · rintro a as _ ⟨m, hm, d, left, found, x, hD, hp, hf, rfl⟩
      refine ⟨_, rfl, ?_⟩
      have hlen : found.length + left.length = xs.length := by simpa using hp.length_eq
      have h1 : 0 < left.length := by simp at hm; omega
      obtain ⟨v, d', e, hv, hd'⟩ := draw_ok (n := n) hd hD h1 (by omega)
      have h2 : left.length ≤ 16777216 := by omega
      have h3 : found.length < 16777216 := by omega
      simp [sig_at hd, e, hv, h2, h3]
      refine ⟨m + 1, by simp at hm; omega, d', _, _, _, hd', ?_, by simp [hf], rfl⟩
      refine List.Perm.trans ?_ hp
      rw [List.append_assoc]
      refine List.Perm.append_left _ ?_
      simpa using cons_eraseIdx_perm left hv
    · rintro r ⟨m, hm, hi⟩
      simp at hm
      subst hm
      exact hi
    · rintro _ ⟨d, left, found, x, hD, hp, hf, rfl⟩
      have hlen : found.length + left.length = xs.length := by simpa using hp.length_eq
      have : left = [] := List.eq_nil_of_length_eq_zero (by omega)
      subst this
      simp
      exact ⟨by simpa using hp, hD⟩
  obtain ⟨o, d1, d0, e, rfl, ⟨v, rfl, hv⟩, hd⟩ := key
  exact ⟨v, d0, e, hv, hd⟩
end
end Lb

set_option Elab.async false
set_option linter.all false
set_option maxRecDepth 100000
set_option maxHeartbeats 1000000
namespace Lb
open PySem L2 E2
/- _law_same: a0 = _law_same -/
def b__law_same (a0 : Nat) : CSs :=
  (.cons (.ite (.or (.ex (.isin (.var 1) "tuple")) (.ex (.isin (.var 1) "list"))) (
   (.cons (.ite (.or (.ex (.cmp .NotEq (.isin (.var 1) "tuple") (.isin (.var 0) "tuple"))) (.ex (.cmp .NotEq (.isin (.var 1) "list") (.isin (.var 0) "list")))) (
    (.cons (.ret (.cst (.bool false))) .nil)) (.nil))
   (.cons (.ite (.ex (.cmp .NotEq (.blt .len (.cons (.var 0) .nil)) (.blt .len (.cons (.var 1) .nil)))) (
    (.cons (.ret (.cst (.bool false))) .nil)) (.nil))
   (.cons (.ret (.cmp .Eq (.blt .len (.cons (.lc [(Str.ofString "k", 2)] (.nm 2) (.rng (.cons (.blt .len (.cons (.var 1) .nil)) .nil)) (.som (.not (.ex (.call a0 (.cons (.idx (.var 0) (.var 2)) (.cons (.idx (.var 1) (.var 2)) .nil)))))) (.var 2)) .nil)) (.cst (.int 0)))) .nil)))) (.nil))
  (.cons (.ite (.ex (.isin (.var 1) "str")) (
   (.cons (.ret (.and (.isin (.var 0) "str") (.cmp .Eq (.var 0) (.var 1)))) .nil)) (.nil))
  (.cons (.ite (.ex (.cmp .Is (.var 1) (.cst .none))) (
   (.cons (.ret (.cmp .Is (.var 0) (.cst .none))) .nil)) (.nil))
  (.cons (.ite (.or (.ex (.isin (.var 1) "bool")) (.ex (.isin (.var 0) "bool"))) (
   (.cons (.ret (.and (.isin (.var 1) "bool") (.and (.isin (.var 0) "bool") (.cmp .Eq (.var 0) (.var 1))))) .nil)) (.nil))
  (.cons (.ret (.and (.isin (.var 0) "int") (.and (.isin (.var 1) "int") (.cmp .Eq (.var 0) (.var 1))))) .nil)))))
def n__law_same : List Str := [Str.ofString "actual", Str.ofString "expected", Str.ofString "k"]
abbrev f__law_same (a0 : Nat) : Fn := ⟨3, [false, false], b__law_same a0⟩

/-! ## plain data: no dict within, rows not too long -/
def okD : Nat → D → Bool
  | _, .none => true
  | _, .bool _ => true
  | _, .int _ => true
  | _, .str s => PyData.canLay0 (.str s)
  | m + 1, .list xs => decide (xs.length ≤ 16777216) && xs.all (okD m)
  | m + 1, .tuple xs => decide (xs.length ≤ 16777216) && xs.all (okD m)
  | _, _ => false
theorem str_same {s : Str} (h : PyData.canLay0 (.str s) = true) : eqD (.str s) (.str s) = some true := by
  have e : SeqAt.shaped (.str s) = true := by
    unfold SeqAt.shaped
    rw [h]; simp [PyData.depth]
  show (if SeqAt.shaped (.str s) = true ∧ SeqAt.shaped (.str s) = true then some (PyData.eqv (.str s) (.str s)) else none) = _
  rw [if_pos ⟨e, e⟩]
  simp [PyData.eqv]
theorem bool_same {s : Bool} : eqD (.bool s) (.bool s) = some true := by
  have e : SeqAt.shaped (.bool s) = true := by
    unfold SeqAt.shaped
    simp [PyData.canLay0, PyData.depth]
  show (if SeqAt.shaped (.bool s) = true ∧ SeqAt.shaped (.bool s) = true then some (PyData.eqv (.bool s) (.bool s)) else none) = _
  rw [if_pos ⟨e, e⟩]
  simp [PyData.eqv]
@[simp] theorem eqD_bb {a b : Bool} : eqD (.bool a) (.bool b) = some (decide (a = b)) := by
  have e : ∀ s, SeqAt.shaped (.bool s) = true := fun s => by
    unfold SeqAt.shaped
    simp [PyData.canLay0, PyData.depth]
  show (if SeqAt.shaped (.bool a) = true ∧ SeqAt.shaped (.bool b) = true then some (PyData.eqv (.bool a) (.bool b)) else none) = _
  rw [if_pos ⟨e _, e _⟩, PyData.eqv]
  cases a <;> cases b <;> rfl
@[simp] theorem is_nn : isD .none .none = some true := same rfl
@[simp] theorem is_bn {b : Bool} : isD (.bool b) .none = some false := same rfl
@[simp] theorem is_in {b : Int} : isD (.int b) .none = some false := same rfl
@[simp] theorem is_sn {b : Str} : isD (.str b) .none = some false := same rfl
@[simp] theorem is_ln {b : List D} : isD (.list b) .none = some false := same rfl
@[simp] theorem is_tn {b : List D} : isD (.tuple b) .none = some false := same rfl
@[simp] theorem is_bb {a b : Bool} : isD (.bool a) (.bool b) = some (decide (a = b)) := same rfl
section
variable {P : Prg} {k : Nat}
theorem same_ok (h : At P k (f__law_same k)) : ∀ (m : Nat) (d : D) (n : Nat), okD m d = true → run P (n + m + 1) k [.val d, .val d] = .ok false (.bool true) [] := by
  intro m
  induction m with
  | zero =>
    intro d n hd
    rw [run_at h]
    refine runF_is rfl rfl ?_
    cases d with
    | none => simp [startA, b__law_same]
    | bool b => simp [startA, b__law_same]
    | int b => simp [startA, b__law_same]
    | str s => simp [startA, b__law_same, str_same hd]
    | list xs => simp [okD] at hd
    | tuple xs => simp [okD] at hd
    | dict xs => simp [okD] at hd
  | succ m ih =>
    intro d n hd
    rw [show n + (m + 1) + 1 = (n + m + 1) + 1 from rfl, run_at h]
    refine runF_is rfl rfl ?_
    cases d with
    | none => simp [startA, b__law_same]
    | bool b => simp [startA, b__law_same]
    | int b => simp [startA, b__law_same]
    | str s => simp [startA, b__law_same, str_same hd]
    | dict xs => simp [okD] at hd
    | list xs =>
      simp only [okD, Bool.and_eq_true, decide_eq_true_eq, List.all_eq_true] at hd
      simp [startA, b__law_same]

      refine lc_w dn (fun _ => false) dn (List.range xs.length) ?_ ?_ ?_ ?_
      · simp [hd.1]
      · simpa using hd.1
      · intro a ha
        refine ⟨_, rfl, ?_⟩
        have ha' : a < xs.length := by simpa using ha
        simp [List.getElem?_eq_getElem ha', sig_at h, ih _ n (hd.2 _ (List.getElem_mem ha'))]
      · simp
    | tuple xs =>
      simp only [okD, Bool.and_eq_true, decide_eq_true_eq, List.all_eq_true] at hd
      simp [startA, b__law_same]
      refine lc_w dn (fun _ => false) dn (List.range xs.length) ?_ ?_ ?_ ?_
      · simp [hd.1]
      · simpa using hd.1
      · intro a ha
        refine ⟨_, rfl, ?_⟩
        have ha' : a < xs.length := by simpa using ha
        simp [List.getElem?_eq_getElem ha', sig_at h, ih _ n (hd.2 _ (List.getElem_mem ha'))]
      · simp
end
end Lb

set_option Elab.async false
set_option linter.all false
set_option maxRecDepth 100000
set_option maxHeartbeats 1000000
namespace Lb
open PySem L2 E2
/-! ## exchanges as rows of numbers -/
structure Perm (n : Nat) (p : List Nat) : Prop where
  len : p.length = n
  lt : ∀ x ∈ p, x < n
  nd : p.Nodup
def inv (p : List Nat) : List Nat := (List.range p.length).map fun k => p.idxOf k
def sets (qs : List (Nat × Nat)) (L : List Nat) : List Nat := qs.foldl (fun L q => L.set q.1 q.2) L
theorem sets_length : ∀ (qs : List (Nat × Nat)) (L : List Nat), (sets qs L).length = L.length
  | [], _ => rfl
  | q :: qs, L => by
    show (sets qs (L.set q.1 q.2)).length = _
    rw [sets_length qs, List.length_set]
theorem sets_other : ∀ (qs : List (Nat × Nat)) (L : List Nat) (k : Nat), (∀ q ∈ qs, q.1 ≠ k) → (sets qs L)[k]? = L[k]?
  | [], _, _, _ => rfl
  | q :: qs, L, k, h => by
    show (sets qs (L.set q.1 q.2))[k]? = _
    rw [sets_other qs _ k fun x hx => h x (List.mem_cons_of_mem _ hx), List.getElem?_set_ne (h q List.mem_cons_self)]
theorem sets_at (p : List Nat) (hn : p.Nodup) : ∀ (m k : Nat) (L : List Nat), k ∈ p → k < L.length → (sets (p.zipIdx m) L)[k]? = some (m + p.idxOf k) := by
  induction p with
  | nil => intro m k L hk; cases hk
  | cons x xs ih =>
    intro m k L hk hl
    rw [List.nodup_cons] at hn
    rw [List.zipIdx_cons]
    show (sets (xs.zipIdx (m + 1)) (L.set x m))[k]? = _
    by_cases hx : x = k
    · subst hx
      rw [sets_other _ _ _ fun q hq e => hn.1 ?_]
      · rw [List.getElem?_set_self hl]
        simp
      · subst e
        have := List.fst_mem_of_mem_zipIdx hq
        exact this
    · have hk' : k ∈ xs := by
        cases hk with
        | head => exact absurd rfl hx
        | tail _ h => exact h
      rw [ih hn.2 (m + 1) k _ hk' (by rw [List.length_set]; exact hl)]
      have e : List.idxOf k (x :: xs) = List.idxOf k xs + 1 := by
        rw [List.idxOf_cons]
        have : (x == k) = false := by simpa using hx
        rw [this]; rfl
      rw [e]
      congr 1
      omega
theorem few_of : ∀ (n : Nat) (l : List Nat), l.Nodup → (∀ x ∈ l, x < n) → l.length ≤ n
  | 0, [], _, _ => Nat.le_refl _
  | 0, x :: _, _, h => absurd (h x List.mem_cons_self) (Nat.not_lt_zero _)
  | n + 1, l, hd, h => by
    have h1 := few_of n (l.erase n) (hd.erase n) fun x hx => by
      have q := (hd.mem_erase_iff).mp hx
      have := h x q.2
      omega
    by_cases hm : n ∈ l
    · have := List.length_erase_of_mem hm
      have := List.length_pos_of_mem hm
      omega
    · rw [List.erase_of_not_mem hm] at h1
      omega
theorem perm_mem {n : Nat} {p : List Nat} (h : Perm n p) {k : Nat} (hk : k < n) : k ∈ p := by
  apply Classical.byContradiction
  intro hm
  have := few_of n (k :: p) (List.nodup_cons.mpr ⟨hm, h.nd⟩) fun x hx => by
    rcases List.mem_cons.mp hx with e | e
    · omega
    · exact h.lt x e
  rw [List.length_cons, h.len] at this
  omega
theorem sets_inv {n : Nat} {p : List Nat} (h : Perm n p) : sets p.zipIdx (List.replicate n 0) = inv p := by
  apply List.ext_getElem?
  intro k
  by_cases hk : k < n
  · rw [sets_at p h.nd 0 k _ (perm_mem h hk) (by simpa using hk)]
    simp [inv, h.len, hk]
  · rw [List.getElem?_eq_none (by rw [sets_length]; simpa using hk), List.getElem?_eq_none (by simpa [inv, h.len] using hk)]
end Lb
namespace Lb
theorem get_getD {α : Type} {q : List α} {a : Nat} {d : α} (h : a < q.length) : q[a]? = some (q.getD a d) := by
  rw [List.getD_eq_getElem?_getD, List.getElem?_eq_getElem h]; rfl
end Lb

set_option Elab.async false
set_option linter.all false
set_option maxRecDepth 100000
set_option maxHeartbeats 1000000
namespace E2
open PySem L2
theorem all_bools {α : Type} (f : α → Bool) (xs : List α) : bltD .all [.list (xs.map fun x => PyData.bool (f x))] = some (false, .bool (xs.all f)) := by
  have e : xs.map (fun x => PyData.bool (f x)) = (xs.map f).map PyData.bool := by rw [List.map_map]; rfl
  show (boolsOf (xs.map fun x => PyData.bool (f x))).map _ = _
  rw [e, boolsOf_map]
  simp [List.all_map]
theorem any_bools {α : Type} (f : α → Bool) (xs : List α) : bltD .any [.list (xs.map fun x => PyData.bool (f x))] = some (false, .bool (xs.any f)) := by
  have e : xs.map (fun x => PyData.bool (f x)) = (xs.map f).map PyData.bool := by rw [List.map_map]; rfl
  show (boolsOf (xs.map fun x => PyData.bool (f x))).map _ = _
  rw [e, boolsOf_map]
  simp [List.any_map]
def sortI (l : List Int) : List Int := l.mergeSort fun a b => decide (a ≤ b)
theorem dataLe_di (a b : Int) : PySem.W.dataLe false id (PyData.int a) (PyData.int b) = decide (a ≤ b) := by
  have e := congrFun (congrFun (PySem.W.dataLe_int (fun x : Int => x)) a) b
  have e2 : PySem.W.dataLe false id (PyData.int a) (PyData.int b) = PySem.W.dataLe false (fun b : Int => PyData.int b) a b := same rfl
  rw [e2, e]
theorem sortOk_di (l : List Int) (h : l.length ≤ 16777216) : sortOk (l.map .int) = true := by
  unfold sortOk
  simp only [Bool.and_eq_true, Bool.or_eq_true, List.all_eq_true, List.mem_map, decide_eq_true_eq]
  refine ⟨⟨⟨?_, .inr ?_⟩, ?_⟩, by rw [sizeLine_eq, List.length_map]; exact h⟩
  · rintro _ ⟨a, _, rfl⟩ _ ⟨b, _, rfl⟩
    simp [PySem.W.alike]
  · rintro _ ⟨a, _, rfl⟩
    rfl
  · rintro _ ⟨a, _, rfl⟩
    simp [PyData.depth]
theorem blt_sorted_ti {l : List Int} (h : l.length ≤ 16777216) : bltD .sorted [.tuple (l.map .int)] = some (true, .list ((sortI l).map .int)) := by
  have e : (l.map PyData.int).mergeSort (PySem.W.dataLe false id) = (sortI l).map .int := (List.map_mergeSort (r := fun a b => decide (a ≤ b)) (s := PySem.W.dataLe false id) (f := PyData.int) fun a _ b _ => (dataLe_di a b).symm).symm
  show (if sortOk (l.map .int) = true then some (true, PyData.list ((l.map .int).mergeSort (PySem.W.dataLe false id))) else none) = _
  rw [if_pos (sortOk_di l h), e]
theorem sortI_perm (l : List Int) : (sortI l).Perm l := List.mergeSort_perm _ _
def rangeI (n : Nat) : List Int := (List.range n).map Int.ofNat
theorem sortI_range (l : List Int) : sortI l = rangeI l.length ↔ l.Perm (rangeI l.length) := by
  constructor
  · intro h
    have := sortI_perm l
    rw [h] at this
    exact this.symm
  · intro h
    have h1 : (sortI l).Pairwise fun a b => decide (a ≤ b) = true := List.pairwise_mergeSort (fun a b c h1 h2 => by simp at *; omega) (fun a b => by simp; omega) l
    refine List.Perm.eq_of_pairwise (le := fun a b => a ≤ b) (fun a b _ _ h1 h2 => by omega) (h1.imp fun h => by simpa using h) ?_ ((List.mergeSort_perm _ _).trans h)
    unfold rangeI
    rw [List.pairwise_map]
    exact List.pairwise_le_range.imp fun h => by simp; omega
/-- a whole number -/
def whole : D → Bool
  | .int _ => true
  | _ => false
def notDict : D → Bool
  | .dict _ => false
  | _ => true
theorem whole_ints : ∀ {ds : List D}, ds.all whole = true → ∃ xs : List Int, ds = xs.map .int
  | [], _ => ⟨[], rfl⟩
  | d :: ds, h => by
    rw [List.all_cons, Bool.and_eq_true] at h
    obtain ⟨xs, rfl⟩ := whole_ints h.2
    cases d <;> first | (exact ⟨_ :: xs, rfl⟩) | (have := h.1; simp [whole] at this)
end E2
namespace Lb
open PySem L2 E2
/- is_exchange: a0 = is_whole, g0 = MOST_PLACES -/
def b_is_exchange (a0 g0 : Nat) : CSs :=
  (.cons (.ite (.or (.not (.ex (.isin (.var 0) "tuple"))) (.or (.ex (.cmp .Gt (.blt .len (.cons (.var 0) .nil)) (.gc g0))) (.not (.ex (.blt .all (.cons (.lc [(Str.ofString "one", 1)] (.nm 1) (.seq (.var 0)) .non (.call a0 (.cons (.var 1) .nil))) .nil)))))) (
   (.cons (.ret (.cst (.bool false))) .nil)) (.nil))
  (.cons (.ret (.cmp .Eq (.blt .sorted (.cons (.var 0) .nil)) (.rng false (.cons (.blt .len (.cons (.var 0) .nil)) .nil)))) .nil))
def n_is_exchange : List Str := [Str.ofString "value", Str.ofString "one"]
abbrev f_is_exchange (a0 g0 : Nat) : Fn := ⟨2, [false], b_is_exchange a0 g0⟩

/- look_at_exchange: a0 = is_exchange, x0 = BadState -/
def b_look_at_exchange (a0 x0 : Nat) : CSs :=
  (.cons (.ite (.not (.ex (.call a0 (.cons (.var 0) .nil)))) (
   (.cons (.rais x0 (.cons (.cst (.str (Str.ofString "exchange"))) .nil)) .nil)) (.nil)) .nil)
def n_look_at_exchange : List Str := [Str.ofString "value"]
abbrev f_look_at_exchange (a0 x0 : Nat) : Fn := ⟨1, [false], b_look_at_exchange a0 x0⟩

/- still: no parameters -/
def b_still : CSs :=
  (.cons (.ret (.rng true (.cons (.var 0) .nil))) .nil)
def n_still : List Str := [Str.ofString "size"]
abbrev f_still : Fn := ⟨1, [false], b_still⟩

/- behind: a0 = look_at_exchange, x0 = BadState -/
def b_behind (a0 x0 : Nat) : CSs :=
  (.cons (.ex (.call a0 (.cons (.var 0) .nil)))
  (.cons (.ex (.call a0 (.cons (.var 1) .nil)))
  (.cons (.ite (.ex (.cmp .NotEq (.blt .len (.cons (.var 0) .nil)) (.blt .len (.cons (.var 1) .nil)))) (
   (.cons (.rais x0 (.cons (.cst (.str (Str.ofString "size"))) .nil)) .nil)) (.nil))
  (.cons (.ret (.blt .tuple (.cons (.lc [(Str.ofString "one", 2)] (.nm 2) (.seq (.var 0)) .non (.idx (.var 1) (.var 2))) .nil))) .nil))))
def n_behind : List Str := [Str.ofString "first", Str.ofString "other", Str.ofString "one"]
abbrev f_behind (a0 x0 : Nat) : Fn := ⟨3, [false, false], b_behind a0 x0⟩

/- back: a0 = look_at_exchange -/
def b_back (a0 : Nat) : CSs :=
  (.cons (.ex (.call a0 (.cons (.var 0) .nil)))
  (.cons (.set 1 (.rep (.lst (.cons (.cst (.int 0)) .nil)) (.blt .len (.cons (.var 0) .nil))))
  (.cons (.for (.tup [(.nm 2), (.nm 3)]) (.enum (.cons (.var 0) .nil)) (
   (.cons (.asg (.sub 1 (.var 3)) (.var 2)) .nil)))
  (.cons (.ret (.blt .tuple (.cons (.var 1) .nil))) .nil))))
def n_back : List Str := [Str.ofString "row", Str.ofString "found", Str.ofString "at", Str.ofString "one"]
abbrev f_back (a0 : Nat) : Fn := ⟨4, [false], b_back a0⟩

section
variable {P : Prg} {k kw ke g x n : Nat}
theorem whole_ok (h : At P kw f_is_whole) (n : Nat) {d : D} (hd : notDict d = true) : run P (n + 1) kw [.val d] = .ok false (.bool (whole d)) [] := by
  rw [run_at h]
  refine runF_is rfl rfl ?_
  cases d <;> first | (simp [startA, b_is_whole, whole]; done) | (simp [notDict] at hd)
/-- an exchange of places -/
def exB : D → Prop
  | .tuple ds => ds.length ≤ 64 ∧ ∃ xs : List Int, ds = xs.map .int ∧ xs.Perm (rangeI xs.length)
  | _ => False
theorem isex_ok (h : At P k (f_is_exchange kw g)) (hw : At P kw f_is_whole) (hg : P.gcs[g]? = some (.int 64)) (n : Nat) {d : D} (hd : notDict d = true) (hs : ∀ ds, d = .tuple ds → ds.all notDict = true ∧ ds.length ≤ 16777216) :
    ∃ b : Bool, run P (n + 2) k [.val d] = .ok false (.bool b) [] ∧ (b = true ↔ exB d) := by
  rw [run_at h]
  have hg' : ∀ c, (P.gs c).gcs g = some (.int 64) := fun c => hg
  have key : ∃ o d', runF (P.gs (run P (n + 1))) (f_is_exchange kw g) [.val d] = .ok o d' [] ∧ (o = false ∧ ∃ b : Bool, d' = .bool b ∧ (b = true ↔ exB d)) := by
    refine runF_ret rfl rfl ?_
    cases d with
    | tuple ds =>
      obtain ⟨h1, h2⟩ := hs ds rfl
      rw [List.all_eq_true] at h1
      simp [startA, b_is_exchange, hg']
      refine ⟨fun h3 z => ?_, fun h3 => ?_⟩
      · have := z.1
        omega
      · refine lcN_w (fun d => d) (fun d => .bool (whole d)) ds ?_ ?_ ?_ ?_
        · simp
        · exact h2
        · intro d hd
          refine ⟨_, (by simp; rfl), ?_⟩
          refine ⟨rfl, ?_⟩
          simp [sig_at hw, whole_ok hw n (h1 d hd)]
        · simp [all_bools]
          refine ⟨fun d hd hw z => ?_, fun h4 => ?_⟩
          · obtain ⟨xs, rfl, _⟩ := z.2
            obtain ⟨i, _, rfl⟩ := List.mem_map.mp hd
            simp [whole] at hw
          · obtain ⟨xs, rfl⟩ := whole_ints (List.all_eq_true.mpr h4)
            have h5 : xs.length ≤ 16777216 := by simpa using h2
            have e1 : (List.range xs.length).map dn = (rangeI xs.length).map PyData.int := by
              unfold rangeI
              rw [List.map_map]; rfl
            have e2 := eqD_l (α := Int) (by decide) (sortI xs) (rangeI xs.length)
            have e3 : exB (PyData.tuple (xs.map .int)) ↔ sortI xs = rangeI xs.length := by
              rw [sortI_range]
              constructor
              · rintro ⟨_, ys, h6, h7⟩
                have : ys = xs := (map_inj (fun a b h => PyData.int.inj h) h6).symm
                exact this ▸ h7
              · intro h6
                have h3' : (xs.map PyData.int).length ≤ 64 := by omega
                exact ⟨h3', xs, rfl, h6⟩
            have e2 : eqD (.list ((sortI xs).map .int)) (.list ((rangeI xs.length).map .int)) = some (decide (sortI xs = rangeI xs.length)) := e2
            simp [blt_sorted_ti h5, h5, e1, e2, e3]
            by_cases h8 : sortI xs = rangeI xs.length <;> simp [h8]
    | dict ds => simp [notDict] at hd
    | _ => simp [startA, b_is_exchange, exB]
  obtain ⟨o, d', e, rfl, b, rfl, hb⟩ := key
  exact ⟨b, e, hb⟩
theorem perm_exB {m : Nat} {p : List Nat} (hp : Perm m p) (hm : m ≤ 64) : exB (tn p) := by
  refine ⟨by rw [List.length_map, hp.len]; exact hm, p.map Int.ofNat, by rw [List.map_map]; rfl, ?_⟩
  unfold rangeI
  rw [List.length_map]
  refine List.Perm.map _ ?_
  rw [hp.len]
  exact L2.perm_range m p hp.len fun k hk => perm_mem hp hk
theorem exB_perm {p : List Nat} (h : exB (tn p)) : Perm p.length p ∧ p.length ≤ 64 := by
  obtain ⟨h1, xs, h2, h3⟩ := h
  have e : xs = p.map Int.ofNat := (map_inj (fun a b h => PyData.int.inj h) (show (p.map Int.ofNat).map PyData.int = xs.map PyData.int by rw [List.map_map]; exact h2)).symm
  subst e
  unfold rangeI at h3
  rw [List.length_map] at h3
  have h4 : p.Perm (List.range p.length) := by
    have := h3.map Int.toNat
    rw [List.map_map, List.map_map] at this
    have e1 : (Int.toNat ∘ Int.ofNat) = id := rfl
    rwa [e1, List.map_id, List.map_id] at this
  exact ⟨⟨rfl, fun x hx => List.mem_range.mp (h4.mem_iff.mp hx), h4.nodup_iff.mpr List.nodup_range⟩, by simpa using h1⟩
theorem nd_tn {p : List Nat} (hl : p.length ≤ 16777216) : notDict (tn p) = true ∧ ∀ ds, tn p = .tuple ds → ds.all notDict = true ∧ ds.length ≤ 16777216 := by
  refine ⟨rfl, fun ds h => ?_⟩
  obtain rfl := PyData.tuple.inj h
  exact ⟨by simp [notDict], by simpa using hl⟩
/-- what the exchanges' defs lean on -/

structure ExOk (P : Prg) (kw ke kl g x : Nat) : Prop where
  hw : At P kw f_is_whole
  he : At P ke (f_is_exchange kw g)
  hl : At P kl (f_look_at_exchange ke x)
  hg : P.gcs[g]? = some (.int 64)
  hx : P.exf[x]? = some []
variable {kl : Nat}
theorem isex_perm (E : ExOk P kw ke kl g x) (n : Nat) {m : Nat} {p : List Nat} (hp : Perm m p) (hm : m ≤ 64) : run P (n + 2) ke [.val (tn p)] = .ok false (.bool true) [] := by
  obtain ⟨h1, h2⟩ := nd_tn (p := p) (by rw [hp.len]; omega)
  obtain ⟨b, h3, h4⟩ := isex_ok E.he E.hw E.hg n h1 h2
  rw [h3, h4.mpr (perm_exB hp hm)]
theorem look_perm (E : ExOk P kw ke kl g x) (n : Nat) {m : Nat} {p : List Nat} (hp : Perm m p) (hm : m ≤ 64) : run P (n + 3) kl [.val (tn p)] = .ok false .none [] := by
  rw [run_at E.hl]
  refine runF_is rfl rfl ?_
  simp [startA, b_look_at_exchange, sig_at E.he, isex_perm E n hp hm]
theorem look_bad (E : ExOk P kw ke kl g x) (n : Nat) {d : D} (hd : notDict d = true) (hs : ∀ ds, d = .tuple ds → ds.all notDict = true ∧ ds.length ≤ 16777216) (hb : ¬ exB d) : run P (n + 3) kl [.val d] = .exc ⟨x, []⟩ [] := by
  obtain ⟨b, h3, h4⟩ := isex_ok E.he E.hw E.hg n hd hs
  have hb' : b = false := by cases b with
    | false => rfl
    | true => exact absurd (h4.mp rfl) hb
  subst hb'
  rw [run_at E.hl]
  refine runF_raises rfl rfl ?_
  have hx' : ∀ c, (P.gs c).exf x = some [] := fun c => E.hx
  simp [startA, b_look_at_exchange, sig_at E.he, h3, hx']
theorem still_ok (h : At P k f_still) (n m : Nat) (hm : m ≤ 16777216) : run P (n + 1) k [.val (.int m)] = .ok false (tn (List.range m)) [] := by
  rw [run_at h]
  refine runF_is rfl rfl ?_
  simp [startA, b_still, hm]
theorem behind_ok (E : ExOk P kw ke kl g x) (h : At P k (f_behind kl x)) (n : Nat) {m : Nat} {p q : List Nat} (hp : Perm m p) (hq : Perm m q) (hm : m ≤ 64) : run P (n + 4) k [.val (tn p), .val (tn q)] = .ok false (tn (p.map fun a => q.getD a 0)) [] := by
  rw [run_at h]
  refine runF_is rfl rfl ?_
  simp [startA, b_behind, sig_at E.hl, look_perm E n hp hm, look_perm E n hq hm, hp.len, hq.len]
  refine lcN_w dn (fun a => dn (q.getD a 0)) p ?_ ?_ ?_ ?_
  · simp
  · rw [hp.len]; omega
  · intro a ha
    refine ⟨_, rfl, ?_⟩
    refine ⟨rfl, ?_⟩
    have h1 : a < q.length := by rw [hq.len]; exact hp.lt a ha
    simp [List.getElem?_eq_getElem h1]
  · simp
theorem behind_bad (E : ExOk P kw ke kl g x) (h : At P k (f_behind kl x)) (n : Nat) {m l : Nat} {p q : List Nat} (hp : Perm m p) (hq : Perm l q) (hm : m ≤ 64) (hl : l ≤ 64) (hne : m ≠ l) : run P (n + 4) k [.val (tn p), .val (tn q)] = .exc ⟨x, []⟩ [] := by
  rw [run_at h]
  refine runF_raises rfl rfl ?_
  have hx' : ∀ c, (P.gs c).exf x = some [] := fun c => E.hx
  have hne' : ¬ (m : Int) = l := by omega
  simp [startA, b_behind, sig_at E.hl, look_perm E n hp hm, look_perm E n hq hl, hp.len, hq.len, hne, hne', hx']
theorem back_bad (E : ExOk P kw ke kl g x) (h : At P k (f_back kl)) (n : Nat) {d : D} (hd : notDict d = true) (hs : ∀ ds, d = .tuple ds → ds.all notDict = true ∧ ds.length ≤ 16777216) (hb : ¬ exB d) : run P (n + 4) k [.val d] = .exc ⟨x, []⟩ [] := by
  rw [run_at h]
  refine runF_raises rfl rfl ?_
  simp [startA, b_back, sig_at E.hl, look_bad E n hd hs hb]
theorem back_ok (E : ExOk P kw ke kl g x) (h : At P k (f_back kl)) (n : Nat) {m : Nat} {p : List Nat} (hp : Perm m p) (hm : m ≤ 64) : run P (n + 4) k [.val (tn p)] = .ok false (tn (inv p)) [] := by
  rw [run_at h]
  refine runF_is rfl rfl ?_
  have e2 : m ≤ 16777216 := by omega
  simp [startA, b_back, sig_at E.hl, look_perm E n hp hm, hp.len, e2]
  rw [enumT_map]
  refine for_w (fun q : Nat × Nat => PyData.tuple [dn q.2, dn q.1]) (fun rem r => ∃ done x y, p.zipIdx = done ++ rem ∧ r = [some (.dat false (tn p)), some (.dat true (.list ((sets done (List.replicate m 0)).map dn))), x, y]) ?_ ?_ _ _ ?_
  · rintro ⟨v, i⟩ rem r ⟨done, x, y, h, rfl⟩
    refine ⟨_, rfl, ?_⟩
    have hv : v < m := hp.lt v (List.fst_mem_of_mem_zipIdx (x := (v, i)) (k := 0) (l := p) (by rw [h]; simp))
    have hs : v < (sets done (List.replicate m 0)).length := by rw [sets_length]; simpa using hv
    simp [hs]
    refine ⟨done ++ [(v, i)], by simp [h], ?_⟩
    simp [sets, List.foldl_append, List.map_set]
  · rintro r ⟨done, x, y, h, rfl⟩
    simp at h
    subst h
    simp
    rw [← sets_inv hp]
  · exact ⟨[], none, none, rfl, by simp [sets, List.map_replicate]⟩
end
end Lb

set_option Elab.async false
set_option linter.all false
set_option maxRecDepth 100000
set_option maxHeartbeats 1000000
namespace Lb
open PySem L2 E2
/-! ## rings of an exchange -/
def nx (p : List Nat) (k : Nat) : Nat := p.getD k 0
def it (p : List Nat) : Nat → Nat → Nat
  | 0, k => k
  | i + 1, k => it p i (nx p k)
theorem it_succ (p : List Nat) : ∀ i k, it p (i + 1) k = nx p (it p i k)
  | 0, _ => rfl
  | i + 1, k => by rw [it, it_succ p i]; rfl
theorem it_add (p : List Nat) : ∀ i j k, it p (i + j) k = it p i (it p j k)
  | i, 0, k => rfl
  | i, j + 1, k => by
    show it p (i + j) (nx p k) = it p i (it p j (nx p k))
    exact it_add p i j _
section
variable {n : Nat} {p : List Nat} (hp : Perm n p)
include hp
theorem nx_lt {k : Nat} (h : k < n) : nx p k < n := by
  have h' : k < p.length := by rw [hp.len]; exact h
  unfold nx
  rw [List.getD_eq_getElem?_getD, List.getElem?_eq_getElem h']
  exact hp.lt _ (List.getElem_mem h')
theorem nx_inj {a b : Nat} (ha : a < n) (hb : b < n) (e : nx p a = nx p b) : a = b := by
  have ha' : a < p.length := by rw [hp.len]; exact ha
  have hb' : b < p.length := by rw [hp.len]; exact hb
  unfold nx at e
  rw [List.getD_eq_getElem?_getD, List.getElem?_eq_getElem ha', List.getD_eq_getElem?_getD, List.getElem?_eq_getElem hb'] at e
  exact (List.getElem_inj (h₀ := ha') (h₁ := hb') hp.nd).mp e
theorem it_lt : ∀ (i : Nat) {k : Nat}, k < n → it p i k < n
  | 0, _, h => h
  | i + 1, k, h => it_lt i (nx_lt hp h)
theorem it_inj : ∀ (i : Nat) {a b : Nat}, a < n → b < n → it p i a = it p i b → a = b
  | 0, _, _, _, _, e => e
  | i + 1, a, b, ha, hb, e => nx_inj hp ha hb (it_inj i (nx_lt hp ha) (nx_lt hp hb) e)
/-- it comes back -/
theorem comes_back {k : Nat} (hk : k < n) : ∃ t, 0 < t ∧ t ≤ n ∧ it p t k = k := by
  apply Classical.byContradiction
  intro hno
  have hnd : ((List.range (n + 1)).map fun i => it p i k).Nodup := by
    rw [List.nodup_iff_pairwise_ne, List.pairwise_map]
    refine List.Pairwise.imp_of_mem ?_ (List.pairwise_lt_range (n := n + 1))
    intro a b ha hb hab e
    have hb' := List.mem_range.mp hb
    refine hno ⟨b - a, by omega, by omega, ?_⟩
    have e2 : it p b k = it p a (it p (b - a) k) := by rw [← it_add]; congr 1; omega
    rw [e2] at e
    exact (it_inj hp a hk (it_lt hp _ hk) e).symm
  have := few_of n _ hnd fun x hx => by
    obtain ⟨i, _, rfl⟩ := List.mem_map.mp hx
    exact it_lt hp i hk
  simp at this
  omega
end
/-- the least number of steps back -/
def per (p : List Nat) (k : Nat) : Nat := ((List.range p.length).find? fun t => it p (t + 1) k == k).getD 0 + 1
section
variable {n : Nat} {p : List Nat} (hp : Perm n p)
include hp
theorem per_spec {k : Nat} (hk : k < n) : it p (per p k) k = k ∧ 0 < per p k ∧ per p k ≤ n ∧ ∀ t, 0 < t → t < per p k → it p t k ≠ k := by
  obtain ⟨t, h1, h2, h3⟩ := comes_back hp hk
  unfold per
  rw [hp.len]
  cases e : (List.range n).find? fun t => it p (t + 1) k == k with
  | none =>
    have := List.find?_eq_none.mp e (t - 1) (List.mem_range.mpr (by omega))
    rw [show t - 1 + 1 = t by omega, h3] at this
    simp at this
  | some s =>
    have h4 := List.find?_some e
    have h5 := List.mem_of_find?_eq_some e
    refine ⟨by simpa using h4, by simp, by have := List.mem_range.mp h5; simp; omega, fun t ht hs hc => ?_⟩
    obtain ⟨_, as, bs, h6, h7⟩ := List.find?_eq_some_iff_append.mp e
    simp only [Option.getD_some] at hs
    have hlen : as.length = s := by
      have h8 : (List.range n)[as.length]? = some s := by rw [h6]; simp
      have h9 := (List.getElem?_eq_some_iff.mp h8).1
      rw [List.getElem?_range (by simpa using h9)] at h8
      exact Option.some.inj h8
    have h8 : as[t - 1]? = some (t - 1) := by
      have : (List.range n)[t - 1]? = some (t - 1) := List.getElem?_range (by have := List.mem_range.mp h5; omega)
      rw [h6, List.getElem?_append_left (by omega)] at this
      exact this
    have := h7 (t - 1) (List.mem_of_getElem? h8)
    rw [show t - 1 + 1 = t by omega, hc] at this
    simp at this
end
/-- the ring of k, from k on -/
def ring (p : List Nat) (k : Nat) : List Nat := (List.range (per p k)).map fun i => it p i k
theorem ring_len (p : List Nat) (k : Nat) : (ring p k).length = per p k := by simp [ring]
section
variable {n : Nat} {p : List Nat} (hp : Perm n p)
include hp
theorem it_mod {k : Nat} (hk : k < n) (i : Nat) : it p i k = it p (i % per p k) k := by
  obtain ⟨h1, h2, _, _⟩ := per_spec hp hk
  have h : ∀ q, it p (per p k * q) k = k := by
    intro q
    induction q with
    | zero => rfl
    | succ q ih => rw [Nat.mul_succ, it_add, h1, ih]
  have e : i = i % per p k + per p k * (i / per p k) := (Nat.mod_add_div i _).symm
  have e2 : it p i k = it p (i % per p k + per p k * (i / per p k)) k := congrArg (fun j => it p j k) e
  rw [e2, it_add, h]
theorem mem_ring {k : Nat} (hk : k < n) {x : Nat} : x ∈ ring p k ↔ ∃ i, x = it p i k := by
  obtain ⟨h1, h2, _, _⟩ := per_spec hp hk
  constructor
  · intro h
    obtain ⟨i, _, rfl⟩ := List.mem_map.mp h
    exact ⟨i, rfl⟩
  · rintro ⟨i, rfl⟩
    exact List.mem_map.mpr ⟨i % per p k, List.mem_range.mpr (Nat.mod_lt _ h2), (it_mod hp hk i).symm⟩
theorem self_ring {k : Nat} (hk : k < n) : k ∈ ring p k := (mem_ring hp hk).mpr ⟨0, rfl⟩
theorem it_ne {k : Nat} (hk : k < n) {i j : Nat} (hij : i < j) (hj : j < per p k) : it p i k ≠ it p j k := by
  intro e
  obtain ⟨_, _, _, h4⟩ := per_spec hp hk
  have e2 : it p j k = it p i (it p (j - i) k) := by rw [← it_add]; congr 1; omega
  rw [e2] at e
  exact h4 (j - i) (by omega) (by omega) (it_inj hp i hk (it_lt hp _ hk) e).symm
theorem ring_nodup {k : Nat} (hk : k < n) : (ring p k).Nodup := by
  unfold ring
  rw [List.nodup_iff_pairwise_ne, List.pairwise_map]
  refine List.Pairwise.imp_of_mem ?_ (List.pairwise_lt_range (n := per p k))
  intro a b ha hb hab
  exact it_ne hp hk hab (List.mem_range.mp hb)
theorem ring_lt {k : Nat} (hk : k < n) : ∀ x ∈ ring p k, x < n := fun x hx => by
  obtain ⟨i, rfl⟩ := (mem_ring hp hk).mp hx
  exact it_lt hp i hk
/-- same ring -/
theorem ring_back {a b : Nat} (ha : a < n) (h : b ∈ ring p a) : a ∈ ring p b := by
  obtain ⟨i, rfl⟩ := (mem_ring hp ha).mp h
  refine (mem_ring hp (it_lt hp i ha)).mpr ?_
  obtain ⟨h1, h2, _, _⟩ := per_spec hp ha
  refine ⟨per p a * (i + 1) - i, ?_⟩
  rw [← it_add]
  have h3 : i + 1 ≤ per p a * (i + 1) := Nat.le_mul_of_pos_left _ h2
  rw [show per p a * (i + 1) - i + i = per p a * (i + 1) by omega, it_mod hp ha, Nat.mul_mod_right]
  rfl
theorem ring_trans {a b c : Nat} (ha : a < n) (h : b ∈ ring p a) (h' : c ∈ ring p b) : c ∈ ring p a := by
  obtain ⟨i, rfl⟩ := (mem_ring hp ha).mp h
  obtain ⟨j, rfl⟩ := (mem_ring hp (it_lt hp i ha)).mp h'
  exact (mem_ring hp ha).mpr ⟨j + i, (it_add p j i a).symm⟩
end
/-- what is seen, and the rings so far -/
def rstep (p : List Nat) (s : List Nat × List (List Nat)) (k : Nat) : List Nat × List (List Nat) :=
  if k ∈ s.1 then s else (s.1 ++ ring p k, s.2 ++ [ring p k])
def rfold (p : List Nat) (m : Nat) : List Nat × List (List Nat) := (List.range m).foldl (rstep p) ([], [])
theorem rfold_succ (p : List Nat) (m : Nat) : rfold p (m + 1) = rstep p (rfold p m) m := by
  unfold rfold
  rw [List.range_succ, List.foldl_append]; rfl
def ringsL (p : List Nat) : List (List Nat) := (rfold p p.length).2
structure RInv (n : Nat) (p : List Nat) (m : Nat) (s : List Nat × List (List Nat)) : Prop where
  nd : s.1.Nodup
  flat : s.2.flatten = s.1
  lt : ∀ x ∈ s.1, x < n
  all : ∀ k, k < m → k ∈ s.1
  closed : ∀ x ∈ s.1, ∀ y ∈ ring p x, y ∈ s.1
  rings : ∀ R ∈ s.2, ∃ k, k < n ∧ R = ring p k
theorem rfold_inv {n : Nat} {p : List Nat} (hp : Perm n p) : ∀ m, m ≤ n → RInv n p m (rfold p m)
  | 0, _ => ⟨List.nodup_nil, rfl, by simp [rfold], by simp, by simp [rfold], by simp [rfold]⟩
  | m + 1, hm => by
    have I := rfold_inv hp m (by omega)
    have hmn : m < n := by omega
    rw [rfold_succ]
    unfold rstep
    by_cases h : m ∈ (rfold p m).1
    · rw [if_pos h]
      refine ⟨I.nd, I.flat, I.lt, fun k hk => ?_, I.closed, I.rings⟩
      rcases Nat.lt_or_ge k m with z | z
      · exact I.all k z
      · have : k = m := by omega
        exact this ▸ h
    · rw [if_neg h]
      refine ⟨?_, ?_, ?_, ?_, ?_, ?_⟩
      · rw [List.nodup_append]
        refine ⟨I.nd, ring_nodup hp hmn, fun a ha b hb e => h ?_⟩
        subst e
        exact I.closed a ha m (ring_back hp hmn hb)
      · simp [I.flat]
      · intro x hx
        rcases List.mem_append.mp hx with z | z
        · exact I.lt x z
        · exact ring_lt hp hmn x z
      · intro k hk
        rcases Nat.lt_or_ge k m with z | z
        · exact List.mem_append_left _ (I.all k z)
        · have : k = m := by omega
          subst this
          exact List.mem_append_right _ (self_ring hp hmn)
      · intro x hx y hy
        rcases List.mem_append.mp hx with z | z
        · exact List.mem_append_left _ (I.closed x z y hy)
        · exact List.mem_append_right _ (ring_trans hp hmn z hy)
      · intro R hR
        rcases List.mem_append.mp hR with z | z
        · exact I.rings R z
        · exact ⟨m, hmn, by simpa using z⟩
theorem rings_perm {n : Nat} {p : List Nat} (hp : Perm n p) : Perm n (ringsL p).flatten ∧ ∀ R ∈ ringsL p, ∃ k, k < n ∧ R = ring p k := by
  have I := rfold_inv hp n (Nat.le_refl _)
  unfold ringsL
  rw [hp.len]
  refine ⟨⟨?_, by rw [I.flat]; exact I.lt, by rw [I.flat]; exact I.nd⟩, I.rings⟩
  rw [I.flat]
  have h1 := few_of n _ I.nd I.lt
  have h2 : n ≤ (rfold p n).1.length := by
    have h3 := List.Nodup.length_le_of_subset (List.nodup_range (n := n)) (l₂ := (rfold p n).1) fun x hx => I.all x (List.mem_range.mp hx)
    simpa using h3
  omega
/-! ## pairs inside out, and how many rings -/
def gt (x : Nat) (l : List Nat) : Nat := (l.filter fun y => decide (y < x)).length
def invs : List Nat → Nat
  | [] => 0
  | x :: xs => gt x xs + invs xs
theorem gt_app (x : Nat) (l m : List Nat) : gt x (l ++ m) = gt x l + gt x m := by simp [gt]
theorem gt_perm (x : Nat) {l m : List Nat} (h : l.Perm m) : gt x l = gt x m := (h.filter _).length_eq
def cross (l m : List Nat) : Nat := (l.map fun x => gt x m).sum
theorem invs_app : ∀ l m : List Nat, invs (l ++ m) = invs l + cross l m + invs m
  | [], m => by simp [invs, cross]
  | x :: l, m => by
    rw [List.cons_append, invs, invs_app l m, gt_app]
    simp [invs, cross]
    omega
theorem cross_perm {l m m' : List Nat} (h : m.Perm m') : cross l m = cross l m' := by
  unfold cross
  rw [List.map_congr_left fun x _ => gt_perm x h]
theorem cross_max {l m : List Nat} {n : Nat} (h : ∀ x ∈ l, x < n) : cross l (n :: m) = cross l m := by
  unfold cross
  refine congrArg List.sum (List.map_congr_left fun x hx => ?_)
  have := h x hx
  unfold gt
  rw [List.filter_cons_of_neg (by simp; omega)]
def lt (x : Nat) (l : List Nat) : Nat := (l.filter fun y => decide (x < y)).length
theorem gt_lt (x : Nat) : ∀ l : List Nat, x ∉ l → gt x l + lt x l = l.length
  | [], _ => rfl
  | y :: l, h => by
    have ih := gt_lt x l fun z => h (List.mem_cons_of_mem _ z)
    have hne : x ≠ y := fun z => h (z ▸ List.mem_cons_self)
    unfold gt lt at *
    rcases Nat.lt_or_ge x y with z | z
    · rw [List.filter_cons_of_neg (by simp; omega), List.filter_cons_of_pos (by simpa using z)]
      simp; omega
    · rw [List.filter_cons_of_pos (by simp; omega), List.filter_cons_of_neg (by simp; omega)]
      simp; omega
theorem invs_snoc : ∀ (l : List Nat) (v : Nat), invs (l ++ [v]) = invs l + lt v l
  | [], v => by simp [invs, gt, lt]
  | x :: l, v => by
    rw [List.cons_append, invs, invs_snoc l v, gt_app, show invs (x :: l) = gt x l + invs l from rfl]
    unfold lt
    by_cases h : v < x
    · rw [List.filter_cons_of_pos (by simpa using h)]
      simp [gt, h]; omega
    · rw [List.filter_cons_of_neg (by simpa using h)]
      simp [gt, h]; omega
theorem gt_all {n : Nat} {l : List Nat} (h : ∀ x ∈ l, x < n) : gt n l = l.length := by
  unfold gt
  rw [List.filter_eq_self.mpr fun x hx => by simpa using h x hx]
/-- the greatest one and the last one change places -/
theorem invs_swap {n v : Nat} {A B : List Nat} (hA : ∀ x ∈ A, x < n) (hB : ∀ x ∈ B, x < n) (hv : v < n) (hn : v ∉ B) : invs (A ++ n :: (B ++ [v])) = invs (A ++ v :: B) + 2 * lt v B + 1 := by
  rw [invs_app, invs_app, cross_max hA]
  have hp : (B ++ [v]).Perm (v :: B) := List.perm_append_comm
  rw [cross_perm hp]
  simp only [invs]
  rw [invs_snoc, gt_all (n := n) (l := B ++ [v]) fun x hx => by
    rcases List.mem_append.mp hx with z | z
    · exact hB x z
    · have : x = v := by simpa using z
      omega]
  have := gt_lt v B hn
  simp
  omega
def leader (p : List Nat) (k : Nat) : Bool := (ring p k).all fun j => decide (k ≤ j)
section
variable {n : Nat} {p : List Nat} (hp : Perm n p)
include hp
theorem seen_from : ∀ m, m ≤ n → ∀ x ∈ (rfold p m).1, ∃ j, j < m ∧ x ∈ ring p j
  | 0, _, x, h => by simp [rfold] at h
  | m + 1, hm, x, h => by
    rw [rfold_succ] at h
    unfold rstep at h
    split at h
    · obtain ⟨j, h1, h2⟩ := seen_from m (by omega) x h
      exact ⟨j, by omega, h2⟩
    · rcases List.mem_append.mp h with z | z
      · obtain ⟨j, h1, h2⟩ := seen_from m (by omega) x z
        exact ⟨j, by omega, h2⟩
      · exact ⟨m, by omega, z⟩
theorem seen_leader {m : Nat} (hm : m < n) : m ∈ (rfold p m).1 ↔ leader p m = false := by
  have I := rfold_inv hp m (by omega)
  constructor
  · intro h
    obtain ⟨j, h1, h2⟩ := seen_from hp m (by omega) m h
    have h3 := ring_back hp (by omega : j < n) h2
    apply Bool.eq_false_iff.mpr
    intro h4
    have := List.all_eq_true.mp h4 j h3
    simp at this
    omega
  · intro h
    have h2 : ¬ ∀ x ∈ ring p m, decide (m ≤ x) = true := fun z => by
      rw [leader, List.all_eq_true.mpr z] at h
      cases h
    apply Classical.byContradiction
    intro h3
    refine h2 fun x hx => ?_
    rw [decide_eq_true_eq]
    apply Classical.byContradiction
    intro h4
    exact h3 (I.closed x (I.all x (by omega)) m (ring_back hp hm hx))
theorem count_leaders : ∀ m, m ≤ n → (rfold p m).2.length = ((List.range m).filter (leader p)).length
  | 0, _ => rfl
  | m + 1, hm => by
    have ih := count_leaders m (by omega)
    rw [rfold_succ, List.range_succ, List.filter_append]
    unfold rstep
    by_cases h : m ∈ (rfold p m).1
    · rw [if_pos h, ih]
      have := (seen_leader hp (by omega)).mp h
      simp [this]
    · rw [if_neg h]
      have : leader p m = true := by
        cases e : leader p m with
        | true => rfl
        | false => exact absurd ((seen_leader hp (by omega)).mpr e) h
      simp [this, ih]
theorem rings_leaders : (ringsL p).length = ((List.range n).filter (leader p)).length := by
  unfold ringsL
  rw [hp.len]
  exact count_leaders hp n (Nat.le_refl _)
end
/-- the last place taken out -/
def cutP (n : Nat) (p : List Nat) : List Nat := (p.take n).map fun x => if x = n then nx p n else x
section
variable {n : Nat} {p : List Nat} (hp : Perm (n + 1) p)
include hp
theorem nx_cut {a : Nat} (ha : a < n) : nx (cutP n p) a = if nx p a = n then nx p n else nx p a := by
  have h1 : a < p.length := by rw [hp.len]; omega
  have h2 : a < (p.take n).length := by simp [hp.len]; omega
  show (cutP n p).getD a 0 = _
  unfold cutP nx
  simp [List.getD_eq_getElem?_getD, List.getElem?_eq_getElem h1, ha]
theorem split_last : p = p.take n ++ [nx p n] := by
  have h1 : n < p.length := by rw [hp.len]; omega
  have e : nx p n = p[n] := by
    unfold nx
    rw [List.getD_eq_getElem?_getD, List.getElem?_eq_getElem h1]; rfl
  have h2 : p.drop n = [p[n]] := by
    rw [← List.getElem_cons_drop h1, List.drop_eq_nil_of_le (by rw [hp.len]; omega)]
  rw [e, ← h2, List.take_append_drop]
theorem cut_perm : Perm n (cutP n p) := by
  have e := split_last hp
  have hlt : nx p n < n + 1 := nx_lt hp (Nat.lt_succ_self n)
  have hnd : (p.take n ++ [nx p n]).Nodup := e ▸ hp.nd
  rw [List.nodup_append] at hnd
  obtain ⟨h1, _, h3⟩ := hnd
  have h4 : ∀ x ∈ p.take n, x < n + 1 := fun x hx => hp.lt x (List.mem_of_mem_take hx)
  have h5 : ∀ x ∈ p.take n, x ≠ nx p n := fun x hx => h3 x hx _ (List.mem_singleton_self _)
  refine ⟨by simp [cutP, hp.len], fun y hy => ?_, ?_⟩
  · obtain ⟨x, hx, rfl⟩ := List.mem_map.mp hy
    have h6 := h4 x hx
    have h7 := h5 x hx
    split
    · rename_i z
      subst z
      omega
    · omega
  · unfold cutP
    rw [List.nodup_iff_pairwise_ne, List.pairwise_map]
    rw [List.nodup_iff_pairwise_ne] at h1
    refine h1.imp_of_mem fun {a b} ha hb hab => ?_
    have h6 := h5 a ha
    have h7 := h5 b hb
    split <;> split
    · omega
    · exact fun z => h7 z.symm
    · exact h6
    · exact hab
theorem cut_reach {a : Nat} (ha : a < n) (x : Nat) : (∃ i, x = it (cutP n p) i a) → ∃ i, x = it p i a := by
  rintro ⟨i, rfl⟩
  induction i generalizing a with
  | zero => exact ⟨0, rfl⟩
  | succ i ih =>
    have h1 := nx_lt (cut_perm hp) ha
    obtain ⟨j, hj⟩ := ih h1
    rw [show it (cutP n p) (i + 1) a = it (cutP n p) i (nx (cutP n p) a) from rfl, hj, nx_cut hp ha]
    split
    · rename_i z
      exact ⟨j + 2, by rw [show it p (j + 2) a = it p j (nx p (nx p a)) from rfl, z]⟩
    · exact ⟨j + 1, rfl⟩
theorem reach_cut (hv : nx p n ≠ n) : ∀ (i : Nat) {a : Nat}, a < n → it p i a < n → ∃ j, it p i a = it (cutP n p) j a := by
  intro i
  induction i using Nat.strongRecOn with
  | _ i ih =>
    intro a ha hx
    match i with
    | 0 => exact ⟨0, rfl⟩
    | 1 =>
      have hx' : nx p a < n := hx
      refine ⟨1, ?_⟩
      show nx p a = nx (cutP n p) a
      rw [nx_cut hp ha, if_neg (by omega)]
    | i + 2 =>
      by_cases h : nx p a = n
      · have e : it p (i + 2) a = it p i (nx p n) := by
          show it p i (nx p (nx p a)) = _
          rw [h]
        rw [e] at hx ⊢
        have hvn : nx p n < n := by have := nx_lt hp (Nat.lt_succ_self n); omega
        obtain ⟨j, hj⟩ := ih i (by omega) hvn hx
        refine ⟨j + 1, ?_⟩
        rw [hj, show it (cutP n p) (j + 1) a = it (cutP n p) j (nx (cutP n p) a) from rfl, nx_cut hp ha, if_pos h]
      · have e : it p (i + 2) a = it p (i + 1) (nx p a) := rfl
        rw [e] at hx ⊢
        have hvn : nx p a < n := by have := nx_lt hp (by omega : a < n + 1); omega
        obtain ⟨j, hj⟩ := ih (i + 1) (by omega) hvn hx
        refine ⟨j + 1, ?_⟩
        rw [hj, show it (cutP n p) (j + 1) a = it (cutP n p) j (nx (cutP n p) a) from rfl, nx_cut hp ha, if_neg h]
theorem fix_reach (hv : nx p n = n) : ∀ (i : Nat) {a : Nat}, a < n → it p i a = it (cutP n p) i a
  | 0, _, _ => rfl
  | i + 1, a, ha => by
    have h1 : nx p a ≠ n := fun z => by
      have := nx_inj hp (by omega : a < n + 1) (Nat.lt_succ_self n) (z.trans hv.symm)
      omega
    have h2 : nx p a < n := by have := nx_lt hp (by omega : a < n + 1); omega
    show it p i (nx p a) = it (cutP n p) i (nx (cutP n p) a)
    rw [nx_cut hp ha, if_neg h1]
    exact fix_reach hv i h2
theorem leader_cut {k : Nat} (hk : k < n) : leader p k = leader (cutP n p) k := by
  have hk' : k < n + 1 := by omega
  rw [Bool.eq_iff_iff]
  unfold leader
  rw [List.all_eq_true, List.all_eq_true]
  constructor
  · intro h x hx
    obtain ⟨i, hi⟩ := (mem_ring (cut_perm hp) hk).mp hx
    exact h x ((mem_ring hp hk').mpr (cut_reach hp hk x ⟨i, hi⟩))
  · intro h x hx
    obtain ⟨i, rfl⟩ := (mem_ring hp hk').mp hx
    have hlt := it_lt hp i hk'
    by_cases hn : it p i k = n
    · rw [hn, decide_eq_true_eq]; omega
    · refine h _ ((mem_ring (cut_perm hp) hk).mpr ?_)
      by_cases hv : nx p n = n
      · exact ⟨i, fix_reach hp hv i hk⟩
      · exact reach_cut hp hv i hk (by omega)
theorem rings_cut : (ringsL p).length = (ringsL (cutP n p)).length + if nx p n = n then 1 else 0 := by
  rw [rings_leaders hp, rings_leaders (cut_perm hp), List.range_succ, List.filter_append, List.length_append]
  have h1 : (List.range n).filter (leader p) = (List.range n).filter (leader (cutP n p)) := List.filter_congr fun k hk => leader_cut hp (List.mem_range.mp hk)
  rw [h1]
  congr 1
  by_cases hv : nx p n = n
  · have hi : ∀ i, it p i n = n := fun i => by
      induction i with
      | zero => rfl
      | succ i ih => rw [it, hv, ih]
    have : leader p n = true := by
      unfold leader
      rw [List.all_eq_true]
      intro x hx
      obtain ⟨i, rfl⟩ := (mem_ring hp (Nat.lt_succ_self n)).mp hx
      rw [hi]; simp
    simp [hv, this]
  · have : leader p n = false := by
      apply Bool.eq_false_iff.mpr
      intro h
      have h2 := List.all_eq_true.mp h (nx p n) ((mem_ring hp (Nat.lt_succ_self n)).mpr ⟨1, rfl⟩)
      have := nx_lt hp (Nat.lt_succ_self n)
      rw [decide_eq_true_eq] at h2
      omega
    simp [hv, this]
end
theorem parity : ∀ (n : Nat) (p : List Nat), Perm n p → (invs p + (ringsL p).length) % 2 = n % 2
  | 0, p, hp => by
    have : p = [] := List.eq_nil_of_length_eq_zero hp.len
    subst this; rfl
  | n + 1, p, hp => by
    have ih := parity n _ (cut_perm hp)
    have hc := rings_cut hp
    have e := split_last hp
    have hlt : nx p n < n + 1 := nx_lt hp (Nat.lt_succ_self n)
    have hnd : (p.take n ++ [nx p n]).Nodup := e ▸ hp.nd
    rw [List.nodup_append] at hnd
    obtain ⟨h1, _, h3⟩ := hnd
    have h5 : ∀ x ∈ p.take n, x ≠ nx p n := fun x hx => h3 x hx _ (List.mem_singleton_self _)
    have h4 : ∀ x ∈ p.take n, x < n + 1 := fun x hx => hp.lt x (List.mem_of_mem_take hx)
    by_cases hv : nx p n = n
    · have h6 : cutP n p = p.take n := by
        unfold cutP
        rw [List.map_congr_left (g := id) fun x hx => by
          have := h5 x hx
          rw [if_neg (by omega)]; rfl]
        simp
      have h7 : invs p = invs (p.take n) := by
        rw [e, invs_snoc, List.take_append_of_le_length (by simp [hp.len]), List.take_take, Nat.min_self, hv]
        have : lt n (p.take n) = 0 := by
          unfold lt
          rw [List.filter_eq_nil_iff.mpr fun x hx => by have := h4 x hx; simp; omega]; rfl
        omega
      rw [h6] at ih hc
      rw [h7, hc, if_pos hv]
      omega
    · have hm : n ∈ p.take n := by
        have h8 : n ∈ p := perm_mem hp (Nat.lt_succ_self n)
        rw [e] at h8
        rcases List.mem_append.mp h8 with z | z
        · exact z
        · exact absurd (by simpa using z : n = nx p n).symm hv
      obtain ⟨A, B, hAB⟩ := List.append_of_mem hm
      have hvn : nx p n < n := by omega
      rw [hAB] at h1 h4 h5
      rw [List.nodup_append, List.nodup_cons] at h1
      obtain ⟨_, ⟨hnB, _⟩, hA⟩ := h1
      have hAn : ∀ x ∈ A, x < n := fun x hx => by
        have h9 := h4 x (List.mem_append_left _ hx)
        have h10 := hA x hx n List.mem_cons_self
        omega
      have hBn : ∀ x ∈ B, x < n := fun x hx => by
        have h9 := h4 x (List.mem_append_right _ (List.mem_cons_of_mem _ hx))
        have h10 : x ≠ n := fun z => hnB (z ▸ hx)
        omega
      have h6 : cutP n p = A ++ nx p n :: B := by
        unfold cutP
        rw [hAB, List.map_append, List.map_cons, if_pos rfl]
        congr 1
        · rw [List.map_congr_left (g := id) fun x hx => by
            have := hAn x hx
            rw [if_neg (by omega)]; rfl]
          simp
        · congr 1
          rw [List.map_congr_left (g := id) fun x hx => by
            have := hBn x hx
            rw [if_neg (by omega)]; rfl]
          simp
      have h7 : p = A ++ n :: (B ++ [nx p n]) := by
        rw [hAB] at e
        rw [← List.cons_append, ← List.append_assoc]
        exact e
      have h8 : nx p n ∉ B := fun z => h5 _ (List.mem_append_right _ (List.mem_cons_of_mem _ z)) rfl
      have h9 := invs_swap hAn hBn hvn h8
      rw [← h7, ← h6] at h9
      rw [if_neg hv] at hc
      omega
end Lb

set_option Elab.async false
set_option linter.all false
set_option maxRecDepth 100000
set_option maxHeartbeats 1000000
namespace Lb
open PySem L2 E2
/-! ## turns -/
def lcms (L : List Nat) : Nat := L.foldl Nat.lcm 1
theorem lcms_go : ∀ (L : List Nat) (a t : Nat), (L.foldl Nat.lcm a) ∣ t ↔ a ∣ t ∧ ∀ x ∈ L, x ∣ t
  | [], a, t => by simp
  | x :: L, a, t => by
    rw [List.foldl_cons, lcms_go L, Nat.lcm_dvd_iff]
    simp [and_assoc]
theorem lcms_dvd (L : List Nat) (t : Nat) : lcms L ∣ t ↔ ∀ x ∈ L, x ∣ t := by
  unfold lcms
  rw [lcms_go]
  simp
theorem lcms_pos : ∀ (L : List Nat) (a : Nat), 0 < a → (∀ x ∈ L, 0 < x) → 0 < L.foldl Nat.lcm a
  | [], a, h, _ => h
  | x :: L, a, h, hx => lcms_pos L _ (Nat.lcm_pos h (hx x List.mem_cons_self)) fun y hy => hx y (List.mem_cons_of_mem _ hy)
def comps : Nat → Nat → List (List Nat)
  | 0, _ => [[]]
  | f + 1, s => [] :: (List.range s).flatMap fun a => (comps f (s - (a + 1))).map ((a + 1) :: ·)
theorem mem_comps : ∀ (f s : Nat) (L : List Nat), L.length ≤ f → (∀ x ∈ L, 0 < x) → L.sum ≤ s → L ∈ comps f s
  | 0, s, L, h, _, _ => by
    have : L = [] := List.eq_nil_of_length_eq_zero (by omega)
    subst this; simp [comps]
  | f + 1, s, [], _, _, _ => by simp [comps]
  | f + 1, s, x :: L, h, hx, hs => by
    have h1 := hx x List.mem_cons_self
    rw [List.sum_cons] at hs
    unfold comps
    refine List.mem_cons_of_mem _ (List.mem_flatMap.mpr ⟨x - 1, List.mem_range.mpr (by omega), List.mem_map.mpr ⟨L, mem_comps f _ L (by simpa using h) (fun y hy => hx y (List.mem_cons_of_mem _ hy)) (by omega), ?_⟩⟩)
    rw [show x - 1 + 1 = x by omega]
theorem len_sum : ∀ (L : List Nat), (∀ x ∈ L, 0 < x) → L.length ≤ L.sum
  | [], _ => by simp
  | x :: L, h => by
    have h1 := h x List.mem_cons_self
    have h2 := len_sum L fun y hy => h y (List.mem_cons_of_mem _ hy)
    simp; omega
theorem few_lcms : (comps 8 8).all (fun L => decide (lcms L ≤ 15)) = true := by decide +kernel
theorem lcms_few {L : List Nat} (h : ∀ x ∈ L, 0 < x) (hs : L.sum ≤ 8) : lcms L ≤ 15 := by
  have h1 := mem_comps 8 8 L (Nat.le_trans (len_sum L h) hs) h hs
  simpa using List.all_eq_true.mp few_lcms L h1
section
variable {n : Nat} {p : List Nat} (hp : Perm n p)
include hp
theorem it_per {k : Nat} (hk : k < n) (t : Nat) : it p t k = k ↔ per p k ∣ t := by
  obtain ⟨h1, h2, _, h4⟩ := per_spec hp hk
  rw [it_mod hp hk]
  constructor
  · intro h
    rcases Nat.eq_zero_or_pos (t % per p k) with z | z
    · exact Nat.dvd_of_mod_eq_zero z
    · exact absurd h (h4 _ z (Nat.mod_lt _ h2))
  · intro h
    rw [Nat.mod_eq_zero_of_dvd h]; rfl
theorem per_same {a b : Nat} (ha : a < n) (h : b ∈ ring p a) : per p b = per p a := by
  have hb := ring_lt hp ha b h
  obtain ⟨i, rfl⟩ := (mem_ring hp ha).mp h
  have key : ∀ t, it p t (it p i a) = it p i a ↔ it p t a = a := fun t => by
    rw [← it_add, Nat.add_comm, it_add]
    exact ⟨fun e => it_inj hp i (it_lt hp t ha) ha e, fun e => by rw [e]⟩
  refine Nat.dvd_antisymm ?_ ?_
  · rw [← it_per hp hb, key, it_per hp ha]; exact Nat.dvd_refl _
  · rw [← it_per hp ha, ← key, it_per hp hb]; exact Nat.dvd_refl _
/-- the row of t turns -/
theorem turns_id (t : Nat) : (List.range n).map (it p t) = List.range n ↔ lcms ((ringsL p).map List.length) ∣ t := by
  obtain ⟨h1, h2⟩ := rings_perm hp
  rw [lcms_dvd]
  constructor
  · intro h x hx
    obtain ⟨R, hR, rfl⟩ := List.mem_map.mp hx
    obtain ⟨k, hk, rfl⟩ := h2 R hR
    rw [ring_len, ← it_per hp hk]
    have h3 : ((List.range n).map (it p t))[k]? = (List.range n)[k]? := by rw [h]
    rw [List.getElem?_map, List.getElem?_range hk] at h3
    exact Option.some.inj h3
  · intro h
    have h4 : (List.range n).map (it p t) = (List.range n).map id := List.map_congr_left fun k hk => by
      have hk' := List.mem_range.mp hk
      obtain ⟨R, hR, hkR⟩ := List.mem_flatten.mp (perm_mem h1 hk')
      obtain ⟨a, ha, rfl⟩ := h2 R hR
      refine (it_per hp hk' t).mpr ?_
      rw [per_same hp ha hkR, ← ring_len]
      exact h _ (List.mem_map.mpr ⟨_, hR, rfl⟩)
    rw [h4, List.map_id]
theorem lens_pos : ∀ x ∈ (ringsL p).map List.length, 0 < x := by
  intro x hx
  obtain ⟨R, hR, rfl⟩ := List.mem_map.mp hx
  obtain ⟨k, hk, rfl⟩ := (rings_perm hp).2 R hR
  rw [ring_len]
  exact (per_spec hp hk).2.1
theorem lens_sum : ((ringsL p).map List.length).sum = n := by
  have := (rings_perm hp).1.len
  rw [List.length_flatten] at this
  exact this
end
def turnsL (p : List Nat) : Nat := lcms ((ringsL p).map List.length)
def trow (n : Nat) (p : List Nat) (t : Nat) : List Nat := (List.range n).map (it p t)
theorem trow_one {n : Nat} {p : List Nat} (hp : Perm n p) : trow n p 1 = p := by
  apply List.ext_getElem?
  intro x
  unfold trow
  by_cases hx : x < n
  · rw [List.getElem?_map, List.getElem?_range hx]
    exact (get_getD (by rw [hp.len]; exact hx)).symm
  · rw [List.getElem?_eq_none (by simpa using hx), List.getElem?_eq_none (by rw [hp.len]; omega)]
theorem trow_succ {n : Nat} {p : List Nat} (t : Nat) : (trow n p t).map (nx p) = trow n p (t + 1) := by
  unfold trow
  rw [List.map_map]
  exact List.map_congr_left fun k _ => (it_succ p t k).symm
theorem trow_lt {n : Nat} {p : List Nat} (hp : Perm n p) (t : Nat) : ∀ x ∈ trow n p t, x < n := fun x hx => by
  obtain ⟨k, hk, rfl⟩ := List.mem_map.mp hx
  exact it_lt hp t (List.mem_range.mp hk)
theorem turnsL_pos {n : Nat} {p : List Nat} (hp : Perm n p) : 0 < turnsL p := lcms_pos _ 1 (by omega) (lens_pos hp)
theorem turnsL_few {n : Nat} {p : List Nat} (hp : Perm n p) (hn : n ≤ 8) : turnsL p ≤ 15 := lcms_few (lens_pos hp) (by rw [lens_sum hp]; exact hn)
theorem trow_end {n : Nat} {p : List Nat} (hp : Perm n p) {t : Nat} (h1 : 0 < t) (h2 : t ≤ turnsL p) : trow n p t = List.range n ↔ t = turnsL p := by
  unfold trow
  rw [turns_id hp]
  constructor
  · intro h
    exact Nat.le_antisymm h2 (Nat.le_of_dvd h1 h)
  · intro h
    rw [h]; exact Nat.dvd_refl _
/-! ## rows of things set at their places -/
theorem sets_fun (f : Nat → Nat) : ∀ (l : List Nat) (L : List Nat) (x : Nat), x ∈ l → x < L.length → (sets (l.map fun x => (x, f x)) L)[x]? = some (f x)
  | [], _, _, h, _ => by simp at h
  | y :: l, L, x, h, hl => by
    rw [List.map_cons]
    show (sets (l.map fun x => (x, f x)) (L.set y (f y)))[x]? = _
    by_cases hx : x ∈ l
    · exact sets_fun f l _ x hx (by rw [List.length_set]; exact hl)
    · have : x = y := by
        rcases List.mem_cons.mp h with z | z
        · exact z
        · exact absurd z hx
      subst this
      rw [sets_other _ _ _ fun q hq e => by
        obtain ⟨z, hz, rfl⟩ := List.mem_map.mp hq
        exact hx (e ▸ hz), List.getElem?_set_self hl]
theorem sets_rings {n : Nat} {p : List Nat} (hp : Perm n p) : sets ((ringsL p).flatten.map fun x => (x, nx p x)) (List.range n) = p := by
  apply List.ext_getElem?
  intro x
  by_cases hx : x < n
  · rw [sets_fun _ _ _ _ (perm_mem (rings_perm hp).1 hx) (by simpa using hx)]
    unfold nx
    exact (get_getD (by rw [hp.len]; exact hx)).symm
  · rw [List.getElem?_eq_none (by rw [sets_length]; simpa using hx), List.getElem?_eq_none (by rw [hp.len]; omega)]
end Lb

set_option Elab.async false
set_option linter.all false
set_option maxRecDepth 100000
set_option maxHeartbeats 1000000
namespace E2
open PySem L2
/-! ## dicts of numbers -/
instance : EncK Nat := ⟨.inl fun _ => rfl⟩
def dd (S : List Nat) : D := .dict (S.map fun k => (dn k, .bool true))
theorem inD_dd (S : List Nat) (k : Nat) : inD (dn k) (dd S) = some (decide (k ∈ S)) := by
  have e : (S.map fun k => (dn k, PyData.bool true)) = (S.map fun k => (k, PyData.bool true)).map fun p => (Enc.e p.1, p.2) := by rw [List.map_map]; rfl
  show (if likeKeys (S.map fun k => (dn k, PyData.bool true)) (dn k) = true then some (dGet (S.map fun k => (dn k, PyData.bool true)) (dn k)).isSome else none) = _
  rw [e, show dn k = Enc.e k from rfl, if_pos like_e, dGet_e]
  unfold dlook
  rw [Option.isSome_map, Option.some.injEq, Bool.eq_iff_iff, List.find?_isSome, decide_eq_true_eq]
  constructor
  · rintro ⟨q, hq, e⟩
    obtain ⟨a, ha, rfl⟩ := List.mem_map.mp hq
    have : a = k := by simpa using e
    exact this ▸ ha
  · intro h
    exact ⟨(k, .bool true), List.mem_map.mpr ⟨k, h, rfl⟩, by simp⟩
theorem setD_dd (S : List Nat) (k : Nat) (hk : k ∉ S) (hl : S.length < 16777216) : setD (dd S) (dn k) (.bool true) = some (dd (S ++ [k])) := by
  have e : (S.map fun k => (dn k, PyData.bool true)) = (S.map fun k => (k, PyData.bool true)).map fun p => (Enc.e p.1, p.2) := by rw [List.map_map]; rfl
  show (if likeKeys (S.map fun k => (dn k, PyData.bool true)) (dn k) = true ∧ (S.map fun k => (dn k, PyData.bool true)).length < sizeLine then some (PyData.dict (dPut (S.map fun k => (dn k, PyData.bool true)) (dn k) (.bool true))) else none) = _
  rw [if_pos ⟨by rw [e, show dn k = Enc.e k from rfl]; exact like_e, by rw [sizeLine_eq, List.length_map]; exact hl⟩, e, show dn k = Enc.e k from rfl, dPut_e]
  unfold dins dd
  rw [if_neg (by
    simp only [List.any_map, List.any_eq_true, not_exists, not_and]
    intro x hx e
    have : x = k := by simpa using e
    exact hk (this ▸ hx))]
  simp [Enc.e]
end E2
namespace Lb
open PySem L2 E2
/- rings: a0 = look_at_exchange -/
def b_rings (a0 : Nat) : CSs :=
  (.cons (.ex (.call a0 (.cons (.var 0) .nil)))
  (.cons (.set 1 .dic0)
  (.cons (.set 2 (.lst .nil))
  (.cons (.for (.nm 3) (.rng (.cons (.blt .len (.cons (.var 0) .nil)) .nil)) (
   (.cons (.ite (.ex (.cmp .NotIn (.var 3) (.var 1))) (
    (.cons (.set 4 (.lst .nil))
    (.cons (.set 5 (.var 3))
    (.cons (.whl (.ex (.cmp .NotIn (.var 5) (.var 1))) (
     (.cons (.asg (.sub 1 (.var 5)) (.cst (.bool true)))
     (.cons (.ex (.mut .append 4 (.cons (.var 5) .nil)))
     (.cons (.set 5 (.idx (.var 0) (.var 5))) .nil)))))
    (.cons (.ex (.mut .append 2 (.cons (.blt .tuple (.cons (.var 4) .nil)) .nil))) .nil))))) (.nil)) .nil)))
  (.cons (.ret (.blt .tuple (.cons (.var 2) .nil))) .nil)))))
def n_rings : List Str := [Str.ofString "row", Str.ofString "seen", Str.ofString "found", Str.ofString "start", Str.ofString "ring", Str.ofString "here"]
abbrev f_rings (a0 : Nat) : Fn := ⟨6, [false], b_rings a0⟩

/- sign: a0 = swaps_of -/
def b_sign (a0 : Nat) : CSs :=
  (.cons (.ret (.ife (.ex (.cmp .Eq (.bin .Mod (.call a0 (.cons (.var 0) .nil)) (.cst (.int 2))) (.cst (.int 0)))) (.cst (.int 1)) (.neg (.cst (.int 1))))) .nil)
def n_sign : List Str := [Str.ofString "row"]
abbrev f_sign (a0 : Nat) : Fn := ⟨1, [false], b_sign a0⟩

/- swaps_of: a0 = rings -/
def b_swaps_of (a0 : Nat) : CSs :=
  (.cons (.set 1 (.blt .len (.cons (.call a0 (.cons (.var 0) .nil)) .nil)))
  (.cons (.ret (.bin .Sub (.blt .len (.cons (.var 0) .nil)) (.var 1))) .nil))
def n_swaps_of : List Str := [Str.ofString "row", Str.ofString "many"]
abbrev f_swaps_of (a0 : Nat) : Fn := ⟨2, [false], b_swaps_of a0⟩

/- turns_of: a0 = rings -/
def b_turns_of (a0 : Nat) : CSs :=
  (.cons (.set 1 (.cst (.int 1)))
  (.cons (.for (.nm 2) (.seq (.call a0 (.cons (.var 0) .nil))) (
   (.cons (.par [3, 4] (.cons (.var 1) (.cons (.blt .len (.cons (.var 2) .nil)) .nil)))
   (.cons (.whl (.ex (.cmp .NotEq (.var 4) (.cst (.int 0)))) (
    (.cons (.par [3, 4] (.cons (.var 4) (.cons (.bin .Mod (.var 3) (.var 4)) .nil))) .nil)))
   (.cons (.set 1 (.bin .FloorDiv (.bin .Mult (.var 1) (.blt .len (.cons (.var 2) .nil))) (.var 3))) .nil)))))
  (.cons (.ret (.var 1)) .nil)))
def n_turns_of : List Str := [Str.ofString "row", Str.ofString "found", Str.ofString "ring", Str.ofString "one", Str.ofString "two"]
abbrev f_turns_of (a0 : Nat) : Fn := ⟨5, [false], b_turns_of a0⟩

/- inside_out: a0 = look_at_exchange -/
def b_inside_out (a0 : Nat) : CSs :=
  (.cons (.ex (.call a0 (.cons (.var 0) .nil)))
  (.cons (.set 1 (.blt .len (.cons (.var 0) .nil)))
  (.cons (.ret (.blt .sum (.cons (.lc2 [(Str.ofString "a", 2), (Str.ofString "b", 3)] [3] (.nm 2) (.rng (.cons (.var 1) .nil)) .non (.nm 3) (.rng (.cons (.bin .Add (.var 2) (.cst (.int 1))) (.cons (.var 1) .nil))) .non (.blt .int (.cons (.cmp .Gt (.idx (.var 0) (.var 2)) (.idx (.var 0) (.var 3))) .nil))) .nil))) .nil)))
def n_inside_out : List Str := [Str.ofString "row", Str.ofString "size", Str.ofString "a", Str.ofString "b"]
abbrev f_inside_out (a0 : Nat) : Fn := ⟨4, [false], b_inside_out a0⟩

/- moved: a0 = look_at_exchange, x0 = BadState -/
def b_moved (a0 x0 : Nat) : CSs :=
  (.cons (.ex (.call a0 (.cons (.var 0) .nil)))
  (.cons (.ite (.or (.not (.ex (.isin (.var 1) "tuple"))) (.ex (.cmp .NotEq (.blt .len (.cons (.var 1) .nil)) (.blt .len (.cons (.var 0) .nil))))) (
   (.cons (.rais x0 (.cons (.cst (.str (Str.ofString "things"))) .nil)) .nil)) (.nil))
  (.cons (.set 2 (.blt .list (.cons (.var 1) .nil)))
  (.cons (.for (.tup [(.nm 3), (.nm 4)]) (.enum (.cons (.var 0) .nil)) (
   (.cons (.asg (.sub 2 (.var 4)) (.idx (.var 1) (.var 3))) .nil)))
  (.cons (.ret (.blt .tuple (.cons (.var 2) .nil))) .nil)))))
def n_moved : List Str := [Str.ofString "row", Str.ofString "things", Str.ofString "found", Str.ofString "at", Str.ofString "one"]
abbrev f_moved (a0 x0 : Nat) : Fn := ⟨5, [false, false], b_moved a0 x0⟩

/- between: x0 = BadState -/
def b_between (x0 : Nat) : CSs :=
  (.cons (.ite (.or (.not (.ex (.isin (.var 0) "tuple"))) (.or (.not (.ex (.isin (.var 1) "tuple"))) (.ex (.cmp .NotEq (.blt .len (.cons (.var 0) .nil)) (.blt .len (.cons (.var 1) .nil)))))) (
   (.cons (.rais x0 (.cons (.cst (.str (Str.ofString "things"))) .nil)) .nil)) (.nil))
  (.cons (.set 2 (.lst .nil))
  (.cons (.for (.nm 3) (.seq (.var 0)) (
   (.cons (.set 4 (.lc [(Str.ofString "at", 5), (Str.ofString "two", 6)] (.tup [(.nm 5), (.nm 6)]) (.enum (.cons (.var 1) .nil)) (.som (.ex (.cmp .Eq (.var 6) (.var 3)))) (.var 5)))
   (.cons (.ite (.or (.ex (.cmp .NotEq (.blt .len (.cons (.var 4) .nil)) (.cst (.int 1)))) (.ex (.cmp .In (.idx (.var 4) (.cst (.int 0))) (.var 2)))) (
    (.cons (.rais x0 (.cons (.cst (.str (Str.ofString "things"))) .nil)) .nil)) (.nil))
   (.cons (.ex (.mut .append 2 (.cons (.idx (.var 4) (.cst (.int 0))) .nil))) .nil)))))
  (.cons (.ret (.blt .tuple (.cons (.var 2) .nil))) .nil))))
def n_between : List Str := [Str.ofString "first", Str.ofString "other", Str.ofString "found", Str.ofString "one", Str.ofString "spots", Str.ofString "at", Str.ofString "two"]
abbrev f_between (x0 : Nat) : Fn := ⟨7, [false, false], b_between x0⟩

/- all_exchanges: a0 = is_whole, x0 = BadState -/
def b_all_exchanges (a0 x0 : Nat) : CSs :=
  (.cons (.ite (.or (.not (.ex (.call a0 (.cons (.var 0) .nil)))) (.not (.ex (.chn .LtE .LtE (.cst (.int 0)) (.var 0) (.cst (.int 7)))))) (
   (.cons (.rais x0 (.cons (.cst (.str (Str.ofString "size"))) .nil)) .nil)) (.nil))
  (.cons (.set 1 (.lst (.cons (.tup .nil) .nil)))
  (.cons (.for (.nm 2) (.rng (.cons (.var 0) .nil)) (
   (.cons (.set 1 (.lc2 [(Str.ofString "row", 3), (Str.ofString "one", 4)] [4] (.nm 3) (.seq (.var 1)) .non (.nm 4) (.rng (.cons (.var 0) .nil)) (.som (.ex (.cmp .NotIn (.var 4) (.var 3)))) (.bin .Add (.var 3) (.tup (.cons (.var 4) .nil))))) .nil)))
  (.cons (.ret (.blt .tuple (.cons (.var 1) .nil))) .nil))))
def n_all_exchanges : List Str := [Str.ofString "size", Str.ofString "found", Str.ofString "_", Str.ofString "row", Str.ofString "one"]
abbrev f_all_exchanges (a0 x0 : Nat) : Fn := ⟨5, [false], b_all_exchanges a0 x0⟩

/- from_rings: a0 = is_whole, x0 = BadState -/
def b_from_rings (a0 x0 : Nat) : CSs :=
  (.cons (.set 2 (.rng false (.cons (.var 0) .nil)))
  (.cons (.set 3 (.lc2 [(Str.ofString "ring", 4), (Str.ofString "one", 5)] [5] (.nm 4) (.seq (.var 1)) .non (.nm 5) (.seq (.var 4)) .non (.var 5)))
  (.cons (.ite (.or (.ex (.cmp .NotEq (.blt .len (.cons (.dc [(Str.ofString "one", 5)] (.nm 5) (.seq (.var 3)) .non (.var 5) (.cst (.bool true))) .nil)) (.blt .len (.cons (.var 3) .nil)))) (.not (.ex (.blt .all (.cons (.lc [(Str.ofString "one", 5)] (.nm 5) (.seq (.var 3)) .non (.and (.call a0 (.cons (.var 5) .nil)) (.chn .LtE .Lt (.cst (.int 0)) (.var 5) (.var 0)))) .nil))))) (
   (.cons (.rais x0 (.cons (.cst (.str (Str.ofString "rings"))) .nil)) .nil)) (.nil))
  (.cons (.for (.nm 4) (.seq (.var 1)) (
   (.cons (.for (.tup [(.nm 6), (.nm 5)]) (.enum (.cons (.var 4) .nil)) (
    (.cons (.asg (.sub 2 (.var 5)) (.idx (.var 4) (.bin .Mod (.bin .Add (.var 6) (.cst (.int 1))) (.blt .len (.cons (.var 4) .nil))))) .nil))) .nil)))
  (.cons (.ret (.blt .tuple (.cons (.var 2) .nil))) .nil)))))
def n_from_rings : List Str := [Str.ofString "size", Str.ofString "some", Str.ofString "found", Str.ofString "flat", Str.ofString "ring", Str.ofString "one", Str.ofString "at"]
abbrev f_from_rings (a0 x0 : Nat) : Fn := ⟨7, [false, false], b_from_rings a0 x0⟩

/- _law_bad: x0 = BadState -/
def b__law_bad (x0 : Nat) : CSs :=
  (.cons (.try_ (
   (.cons (.set 3 (.ife (.ex (.cmp .Is (.var 2) (.cst .none))) (.callv 0 (.cons (.var 1) .nil)) (.callv 0 (.cons (.var 1) (.cons (.var 2) .nil))))) .nil)) (.cons x0 none (
   (.cons (.ret (.cst (.bool true))) .nil)) .nil))
  (.cons (.ret (.and (.cmp .Is (.var 3) (.cst .none)) (.cst (.bool false)))) .nil))
def n__law_bad : List Str := [Str.ofString "call", Str.ofString "one", Str.ofString "two", Str.ofString "told"]
abbrev f__law_bad (x0 : Nat) : Fn := ⟨4, [false, false, false], b__law_bad x0⟩

abbrev tt (F : List (List Nat)) : D := .tuple (F.map tn)
def RgI (n : Nat) (p : List Nat) (m : Nat) (r : En) : Prop := ∃ x y z, r = [some (.dat false (tn p)), some (.dat true (dd (rfold p m).1)), some (.dat true (.list ((rfold p m).2.map tn))), x, y, z]
section
variable {P : Prg} {k kw ke kl g x n : Nat}
theorem rfold_few {m : Nat} {p : List Nat} (hp : Perm m p) {j : Nat} (hj : j ≤ m) : (rfold p j).1.length ≤ m ∧ (rfold p j).2.length ≤ m := by
  have I := rfold_inv hp j hj
  refine ⟨few_of m _ I.nd I.lt, ?_⟩
  rw [count_leaders hp j hj]
  have := List.length_filter_le (leader p) (List.range j)
  simp at this
  omega
theorem rings_ok (E : ExOk P kw ke kl g x) (h : At P k (f_rings kl)) (n : Nat) {m : Nat} {p : List Nat} (hp : Perm m p) (hm : m ≤ 64) : run P (n + 4) k [.val (tn p)] = .ok false (tt (ringsL p)) [] := by
  rw [run_at h]
  refine runF_is rfl rfl ?_
  have e2 : m ≤ 16777216 := by omega
  simp [startA, b_rings, sig_at E.hl, look_perm E n hp hm, hp.len, e2]
  refine cutT (RgI m p m) (for_w dn (fun rem r => ∃ j, (List.range m) = List.range j ++ rem ∧ RgI m p j r) ?_ ?_ _ _ ⟨0, rfl, _, _, _, rfl⟩) ?_
  · rintro a as _ ⟨j, hj, u, v, w, rfl⟩
    refine ⟨_, rfl, ?_⟩
    have hja : a = j ∧ j < m := by
      have h1 : (List.range m)[j]? = some a := by rw [hj]; simp
      have h2 := (List.getElem?_eq_some_iff.mp h1).1
      rw [List.getElem?_range (by simpa using h2)] at h1
      exact ⟨(Option.some.inj h1).symm, by simpa using h2⟩
    obtain ⟨rfl, hlt⟩ := hja
    have hnext : List.range m = List.range (a + 1) ++ as := by rw [hj, List.range_succ]; simp
    simp [inD_dd]
    refine ⟨fun hs => ?_, fun hs => ?_⟩
    · obtain ⟨p1, p2, p3, p4⟩ := per_spec hp hlt
      have I := rfold_inv hp a (by omega)
      have hf := rfold_few hp (j := a) (by omega)
      refine cutT (fun r => r = [some (.dat false (tn p)), some (.dat true (dd ((rfold p a).1 ++ ring p a))), some (.dat true (.list ((rfold p a).2.map tn))), some (.dat false (dn a)), some (.dat true (.list ((ring p a).map dn))), some (.dat false (dn a))])
        (while_w (fun c r => ∃ q, q + c = per p a ∧ r = [some (.dat false (tn p)), some (.dat true (dd ((rfold p a).1 ++ (ring p a).take q))), some (.dat true (.list ((rfold p a).2.map tn))), some (.dat false (dn a)), some (.dat true (.list (((ring p a).take q).map dn))), some (.dat false (dn (it p q a)))]) ?_ _ (per p a) _ (by omega) ⟨0, by simp, by simp [it]⟩) ?_
      · rintro c _ ⟨q, hq, rfl⟩
        simp [inD_dd]
        have hlen : ((rfold p a).1 ++ (ring p a).take q).length < 16777216 := by simp [ring_len]; omega
        have hlen2 : (((ring p a).map dn).take q).length < 16777216 := by simp [ring_len]; omega
        have hit : it p q a < m := it_lt hp q hlt
        have hsome : (p.map dn)[it p q a]? = some (dn (it p (q + 1) a)) := by
          rw [List.getElem?_map, get_getD (d := 0) (by rw [hp.len]; exact hit), it_succ]; rfl
        refine ⟨fun h1 h2 => ?_, fun h1 => ?_⟩
        · have hqL : q < per p a := by
            rcases Nat.lt_or_ge q (per p a) with z | z
            · exact z
            · have : q = per p a := by omega
              subst this
              rw [p1, List.take_of_length_le (by rw [ring_len]; omega)] at h2
              exact absurd (self_ring hp hlt) h2
          have htake : (ring p a).take (q + 1) = (ring p a).take q ++ [it p q a] := by
            rw [List.take_succ, ring, List.getElem?_map, List.getElem?_range hqL]; rfl
          have hni : it p q a ∉ (rfold p a).1 ++ (ring p a).take q := by
            intro z
            exact (List.mem_append.mp z).elim h1 h2
          have htake2 : ((ring p a).map dn).take (q + 1) = ((ring p a).map dn).take q ++ [dn (it p q a)] := by
            rw [← List.map_take, htake, List.map_append, List.map_take]; rfl
          simp only [List.getElem?_map] at hsome
          simp [setD_dd _ _ hni hlen, mut_append hlen2, hsome]
          exact ⟨c - 1, by omega, q + 1, by omega, by rw [htake], by rw [htake2], rfl⟩
        · have hqL : q = per p a := by
            apply Classical.byContradiction
            intro z
            have hqL : q < per p a := by omega
            by_cases h2 : it p q a ∈ (rfold p a).1
            · have h3 := I.closed _ h2 a (ring_back hp hlt ((mem_ring hp hlt).mpr ⟨q, rfl⟩))
              exact hs h3
            · obtain ⟨i, hi, e⟩ := List.mem_iff_getElem.mp (h1 h2)
              simp [ring] at e hi
              exact it_ne hp hlt (by omega) hqL e
          subst hqL
          rw [p1, List.take_of_length_le (by rw [ring_len]; omega), List.take_of_length_le (by simp [ring_len])]
          exact ⟨rfl, rfl, rfl⟩
      · rintro _ rfl
        have hlen3 : ((rfold p a).2.map tn).length < 16777216 := by simp; omega
        simp [mut_append hlen3]
        refine ⟨a + 1, hnext, some (.dat false (dn a)), some (.dat true (.list ((ring p a).map dn))), some (.dat false (dn a)), ?_⟩
        rw [rfold_succ, rstep, if_neg hs]
        simp
    · refine ⟨a + 1, hnext, some (.dat false (dn a)), v, w, ?_⟩
      rw [rfold_succ, rstep, if_pos hs]
  · rintro r ⟨j, hj, hi⟩
    have : j = m := by have := congrArg List.length hj; simp at this; exact this.symm
    exact this ▸ hi
  · rintro _ ⟨u, v, w, rfl⟩
    simp [ringsL, hp.len]
theorem swaps_ok {kr : Nat} (E : ExOk P kw ke kl g x) (hr : At P kr (f_rings kl)) (h : At P k (f_swaps_of kr)) (n : Nat) {m : Nat} {p : List Nat} (hp : Perm m p) (hm : m ≤ 64) : run P (n + 5) k [.val (tn p)] = .ok false (.int ((m : Int) - (ringsL p).length)) [] := by
  rw [run_at h]
  refine runF_is rfl rfl ?_
  simp [startA, b_swaps_of, sig_at hr, rings_ok E hr n hp hm, hp.len]
theorem sign_ok {kr ks : Nat} (E : ExOk P kw ke kl g x) (hr : At P kr (f_rings kl)) (hs : At P ks (f_swaps_of kr)) (h : At P k (f_sign ks)) (n : Nat) {m : Nat} {p : List Nat} (hp : Perm m p) (hm : m ≤ 64) : run P (n + 6) k [.val (tn p)] = .ok false (.int (if invs p % 2 = 0 then 1 else -1)) [] := by
  rw [run_at h]
  refine runF_is rfl rfl ?_
  have h1 := parity m p hp
  have h2 : (ringsL p).length ≤ m := by
    rw [rings_leaders hp]
    have := List.length_filter_le (leader p) (List.range m)
    simpa using this
  simp [startA, b_sign, sig_at hs, swaps_ok E hr hs n hp hm, bin_mod]
  constructor
  · intro h3
    omega
  · intro h3
    omega
theorem sum_ints (xs : List Int) : bltD .sum [.list (xs.map .int)] = some (false, .int xs.sum) := by
  show (intsOf (xs.map .int)).map _ = _
  rw [intsOf_map]; rfl
theorem sum_nats (l : List Nat) : bltD .sum [.list (l.map dn)] = some (false, .int (l.sum : Nat)) := by
  have e : l.map dn = (l.map Int.ofNat).map .int := by rw [List.map_map]; rfl
  have e3 : ∀ l : List Nat, (l.map Int.ofNat).sum = (l.sum : Int) := fun l => by
    induction l with
    | nil => rfl
    | cons a l ih => rw [List.map_cons, List.sum_cons, List.sum_cons, ih]; simp
  rw [e, sum_ints, e3]
def invN (p : List Nat) : Nat := ((List.range p.length).flatMap fun a => (List.range' (a + 1) (p.length - (a + 1))).map fun b => if nx p b < nx p a then 1 else 0).sum
theorem inside_ok (E : ExOk P kw ke kl g x) (h : At P k (f_inside_out kl)) (n : Nat) {m : Nat} {p : List Nat} (hp : Perm m p) (hm : m ≤ 64) : run P (n + 4) k [.val (tn p)] = .ok false (.int (invN p)) [] := by
  rw [run_at h]
  refine runF_is rfl rfl ?_
  have e2 : m ≤ 16777216 := by omega
  simp [startA, b_inside_out, sig_at E.hl, look_perm E n hp hm, hp.len, e2]
  refine lc2_w dn (fun _ => true) (fun a => List.range' (a + 1) (m - (a + 1))) (fun _ => dn) (fun _ _ => true) (fun a b => PyData.int (if nx p b < nx p a then 1 else 0)) (List.range m) ?_ ?_ ?_ ?_
  · simp [e2]
  · refine Nat.le_trans (m := m * 64) ?_ (by omega)
    have : ∀ l : List Nat, (l.map fun a => (List.range' (a + 1) (m - (a + 1))).length).sum ≤ l.length * 64 := fun l => by
      induction l with
      | nil => simp
      | cons a l ih => simp at ih ⊢; omega
    simpa using this (List.range m)
  · intro a ha
    have ha' : a < m := List.mem_range.mp ha
    refine ⟨_, rfl, ?_⟩
    have hr := rngD_2s (a := a) (b := m) e2 (by omega)
    simp [hr]
    intro b hb1 hb2
    have hb' : b < m := by omega
    have h1 : p[a]? = some (nx p a) := get_getD (by rw [hp.len]; exact ha')
    have h2 : p[b]? = some (nx p b) := get_getD (by rw [hp.len]; exact hb')
    simp [h1, h2]
  · have e : (List.flatMap (fun a => List.map (fun b => PyData.int (if nx p b < nx p a then 1 else 0)) (List.filter (fun x => true) (List.range' (a + 1) (m - (a + 1))))) (List.filter (fun x => true) (List.range m))) = ((List.range p.length).flatMap fun a => (List.range' (a + 1) (p.length - (a + 1))).map fun b => if nx p b < nx p a then 1 else 0).map dn := by
      rw [hp.len, List.map_flatMap, List.filter_eq_self.mpr fun _ _ => rfl]
      congr 1
      funext a
      rw [List.map_map, List.filter_eq_self.mpr fun _ _ => rfl]
      refine List.map_congr_left fun b _ => ?_
      simp only [Function.comp]
      split <;> rfl
    rw [e]
    generalize hF : (List.flatMap (fun a => List.map (fun b => if nx p b < nx p a then 1 else 0) (List.range' (a + 1) (p.length - (a + 1)))) (List.range p.length)) = F
    have hN : invN p = F.sum := by unfold invN; rw [hF]
    simp [sum_nats, hN]
theorem ringsL_pos {m : Nat} {p : List Nat} (hp : Perm m p) : ∀ R ∈ ringsL p, 0 < R.length ∧ R.length ≤ m := fun R hR => by
  obtain ⟨k, hk, rfl⟩ := (rings_perm hp).2 R hR
  rw [ring_len]
  exact ⟨(per_spec hp hk).2.1, (per_spec hp hk).2.2.1⟩
def TuI (p : List Nat) (r : En) : Prop := ∃ y z w, r = [some (.dat false (tn p)), some (.dat false (.int (turnsL p))), y, z, w]
theorem turns_ok {kr : Nat} (E : ExOk P kw ke kl g x) (hr : At P kr (f_rings kl)) (h : At P k (f_turns_of kr)) (n : Nat) {m : Nat} {p : List Nat} (hp : Perm m p) (hm : m ≤ 64) : run P (n + 5) k [.val (tn p)] = .ok false (.int (turnsL p)) [] := by
  rw [run_at h]
  refine runF_is rfl rfl ?_
  simp [startA, b_turns_of, sig_at hr, rings_ok E hr n hp hm]
  refine cutT (TuI p) (for_w tn (fun rem r => ∃ done y z w, ringsL p = done ++ rem ∧ r = [some (.dat false (tn p)), some (.dat false (.int (lcms (done.map List.length)))), y, z, w]) ?_ ?_ _ _ ⟨[], none, none, none, rfl, rfl⟩) ?_
  · rintro R rem _ ⟨done, y, z, w, hd, rfl⟩
    refine ⟨_, rfl, ?_⟩
    obtain ⟨hR1, hR2⟩ := ringsL_pos hp R (by rw [hd]; simp)
    generalize hf : lcms (done.map List.length) = F
    have hF : 0 < F := by
      rw [← hf]
      refine lcms_pos _ 1 (by omega) fun q hq => ?_
      obtain ⟨R', hR', rfl⟩ := List.mem_map.mp hq
      exact (ringsL_pos hp R' (by rw [hd]; simp [hR'])).1
    simp
    refine cutT (fun r => r = [some (.dat false (tn p)), some (.dat false (.int F)), some (.dat false (tn R)), some (.dat false (.int (Nat.gcd F R.length))), some (.dat false (.int 0))])
      (while_w (fun c r => ∃ a b : Nat, b = c ∧ Nat.gcd a b = Nat.gcd F R.length ∧ r = [some (.dat false (tn p)), some (.dat false (.int F)), some (.dat false (tn R)), some (.dat false (.int a)), some (.dat false (.int b))]) ?_ _ R.length _ (by omega) ⟨F, R.length, rfl, rfl, by simp⟩) ?_
    · rintro c _ ⟨a, b, rfl, hg, rfl⟩
      by_cases hb : b = 0
      · subst hb
        simp at hg
        simp [hg]
      · have hb' : (0 : Int) < b := by omega
        have hb2 : 0 < b := by omega
        have hb3 : ¬ (b : Int) = 0 := by omega
        have hmod : (a : Int) % (b : Int) = ((a % b : Nat) : Int) := by omega
        simp [hb, bin_mod, hb', hb2]
        exact ⟨a % b, Nat.mod_lt _ hb2, b, by rw [← hg, Nat.gcd_comm b, ← Nat.gcd_rec, Nat.gcd_comm], rfl, hmod⟩
    · rintro _ rfl
      have hg1 : 0 < Nat.gcd F R.length := Nat.gcd_pos_of_pos_left _ hF
      have hg2 : Nat.gcd F R.length ≤ R.length := Nat.gcd_le_right _ hR1
      have hg3 : (Nat.gcd F R.length : Int) < 1073741824 := by omega
      have hmul : mulOk (F : Int) (R.length : Int) = true := mulOk_right ⟨by omega, by omega⟩
      have hdiv : binD .FloorDiv (.int ((F : Int) * R.length)) (.int (Nat.gcd F R.length)) = some (false, .int (Nat.lcm F R.length)) := by
        rw [bin_div ⟨by omega, hg3⟩]
        unfold Nat.lcm
        rw [Int.natCast_ediv, Int.natCast_mul]
      simp [bin_mul hmul, hdiv]
      refine ⟨done ++ [R], by rw [hd]; simp, ?_⟩
      rw [← hf]
      simp [lcms, List.foldl_append]
  · rintro r ⟨done, y, z, w, hd, rfl⟩
    refine ⟨y, z, w, ?_⟩
    simp at hd
    rw [turnsL, hd]
  · rintro _ ⟨y, z, w, rfl⟩
    simp
/-- things set at their places -/
def setsD (qs : List (Nat × D)) (L : List D) : List D := qs.foldl (fun L q => L.set q.1 q.2) L
theorem setsD_length : ∀ (qs : List (Nat × D)) (L : List D), (setsD qs L).length = L.length
  | [], _ => rfl
  | q :: qs, L => by
    show (setsD qs (L.set q.1 q.2)).length = _
    rw [setsD_length qs, List.length_set]
theorem setsD_other : ∀ (qs : List (Nat × D)) (L : List D) (k : Nat), (∀ q ∈ qs, q.1 ≠ k) → (setsD qs L)[k]? = L[k]?
  | [], _, _, _ => rfl
  | q :: qs, L, k, h => by
    show (setsD qs (L.set q.1 q.2))[k]? = _
    rw [setsD_other qs _ k fun x hx => h x (List.mem_cons_of_mem _ hx), List.getElem?_set_ne (h q List.mem_cons_self)]
theorem setsD_at (f : Nat → D) : ∀ (p : List Nat) (hn : p.Nodup) (m k : Nat) (L : List D), k ∈ p → k < L.length → (setsD ((p.zipIdx m).map fun q => (q.1, f q.2)) L)[k]? = some (f (m + p.idxOf k))
  | [], _, m, k, L, hk, _ => by cases hk
  | x :: xs, hn, m, k, L, hk, hl => by
    rw [List.nodup_cons] at hn
    rw [List.zipIdx_cons, List.map_cons]
    show (setsD ((xs.zipIdx (m + 1)).map fun q => (q.1, f q.2)) (L.set x (f m)))[k]? = _
    by_cases hx : x = k
    · subst hx
      rw [setsD_other _ _ _ fun q hq e => hn.1 ?_]
      · rw [List.getElem?_set_self hl]; simp
      · obtain ⟨z, hz, rfl⟩ := List.mem_map.mp hq
        have := List.fst_mem_of_mem_zipIdx hz
        exact e ▸ this
    · have hk' : k ∈ xs := by
        cases hk with
        | head => exact absurd rfl hx
        | tail _ h => exact h
      rw [setsD_at f xs hn.2 (m + 1) k _ hk' (by rw [List.length_set]; exact hl), List.idxOf_cons]
      have : (x == k) = false := by simpa using hx
      rw [this]
      simp only [cond_false]
      congr 2
      omega
theorem moved_ok (E : ExOk P kw ke kl g x) (h : At P k (f_moved kl x)) (n : Nat) {m : Nat} {p : List Nat} {ts : List D} (hp : Perm m p) (hm : m ≤ 64) (ht : ts.length = m) : run P (n + 4) k [.val (tn p), .val (.tuple ts)] = .ok false (.tuple ((List.range m).map fun k => ts.getD (p.idxOf k) .none)) [] := by
  rw [run_at h]
  refine runF_is rfl rfl ?_
  simp [startA, b_moved, sig_at E.hl, look_perm E n hp hm, hp.len, ht]
  rw [enumT_map]
  have fin : setsD (p.zipIdx.map fun q => (q.1, ts.getD q.2 .none)) ts = (List.range m).map fun k => ts.getD (p.idxOf k) .none := by
    apply List.ext_getElem?
    intro k
    by_cases hk : k < m
    · rw [setsD_at (fun i => ts.getD i .none) p hp.nd 0 k _ (perm_mem hp hk) (by omega), List.getElem?_map, List.getElem?_range hk]; simp
    · rw [List.getElem?_eq_none (by rw [setsD_length]; omega), List.getElem?_eq_none (by simpa using hk)]
  refine cutT (fun r => ∃ y z, r = [some (.dat false (tn p)), some (.dat false (.tuple ts)), some (.dat true (.list (setsD (p.zipIdx.map fun q => (q.1, ts.getD q.2 .none)) ts))), y, z])
    (for_w (fun q : Nat × Nat => PyData.tuple [dn q.2, dn q.1]) (fun rem r => ∃ done y z, p.zipIdx = done ++ rem ∧ r = [some (.dat false (tn p)), some (.dat false (.tuple ts)), some (.dat true (.list (setsD (done.map fun q => (q.1, ts.getD q.2 .none)) ts))), y, z]) ?_ ?_ _ _ ⟨[], none, none, rfl, rfl⟩) ?_
  · rintro ⟨v, i⟩ rem _ ⟨done, y, z, hd, rfl⟩
    refine ⟨_, rfl, ?_⟩
    have hmem : (v, i) ∈ p.zipIdx := by rw [hd]; simp
    have hv : v < m := hp.lt v (List.fst_mem_of_mem_zipIdx hmem)
    have hi : i < m := by
      have := List.mem_zipIdx hmem
      rw [hp.len] at this
      omega
    have hs : v < (setsD (done.map fun q => (q.1, ts.getD q.2 .none)) ts).length := by rw [setsD_length]; omega
    have hti : ts[i]? = some (ts.getD i .none) := get_getD (by omega)
    generalize hS : setsD (done.map fun q => (q.1, ts.getD q.2 .none)) ts = S at hs
    generalize hT : ts.getD i .none = T at hti
    simp [hti, setD_nat hs]
    refine ⟨done ++ [(v, i)], by simp [hd], ?_⟩
    rw [← hS, ← hT]
    simp [setsD, List.foldl_append]
  · rintro r ⟨done, y, z, hd, rfl⟩
    refine ⟨y, z, ?_⟩
    simp at hd
    rw [hd]
  · rintro _ ⟨y, z, rfl⟩
    rw [fin]
    simp
theorem moved_bad (E : ExOk P kw ke kl g x) (h : At P k (f_moved kl x)) (n : Nat) {m : Nat} {p : List Nat} {ts : List D} (hp : Perm m p) (hm : m ≤ 64) (ht : ts.length ≠ m) : run P (n + 4) k [.val (tn p), .val (.tuple ts)] = .exc ⟨x, []⟩ [] := by
  rw [run_at h]
  refine runF_raises rfl rfl ?_
  have hx' : ∀ c, (P.gs c).exf x = some [] := fun c => E.hx
  have ht' : ¬ (ts.length : Int) = m := by omega
  simp [startA, b_moved, sig_at E.hl, look_perm E n hp hm, hp.len, ht, ht', hx']
theorem enumT_zip (xs : List D) (f : Nat → D) : enumT 0 xs = (xs.zipIdx).map fun p => .tuple [dn p.2, p.1] := by
  have := enumT_map (fun d : D => d) xs 0
  simpa using this
section
variable {α : Type} [Enc α] [DecidableEq α]
open Enc
theorem spots_eq {B : List α} (hB : B.Nodup) {a : α} (ha : a ∈ B) : (B.zipIdx.filter fun q => decide (q.1 = a)).map (fun q => dn q.2) = [dn (B.idxOf a)] := by
  have key : ∀ (B : List α) (m : Nat), B.Nodup → a ∈ B → ((B.zipIdx m).filter fun q => decide (q.1 = a)).map (fun q => dn q.2) = [dn (m + B.idxOf a)] := by
    intro B
    induction B with
    | nil => intro m _ h; cases h
    | cons b B ih =>
      intro m hn hm
      rw [List.nodup_cons] at hn
      rw [List.zipIdx_cons]
      by_cases hb : b = a
      · subst hb
        rw [List.filter_cons_of_pos (by simp)]
        have : (B.zipIdx (m + 1)).filter (fun q => decide (q.1 = b)) = [] := by
          rw [List.filter_eq_nil_iff]
          intro q hq
          have := List.fst_mem_of_mem_zipIdx hq
          simp
          intro e
          exact hn.1 (e ▸ this)
        rw [this]; simp
      · rw [List.filter_cons_of_neg (by simpa using hb), ih (m + 1) hn.2 (by
          rcases List.mem_cons.mp hm with z | z
          · exact absurd z.symm hb
          · exact z)]
        have : (b == a) = false := by simpa using hb
        rw [List.idxOf_cons, this]
        simp only [cond_false]
        congr 2
        omega
  have := key B 0 hB ha
  simpa using this
def BtI (A B : List α) (done : List α) (r : En) : Prop := ∃ y z u v, r = [some (.dat false (.tuple (A.map e))), some (.dat false (.tuple (B.map e))), some (.dat true (.list (done.map fun a => dn (B.idxOf a)))), y, z, u, v]
theorem between_ok (h : At P k (f_between x)) (n : Nat) {A B : List α} (hm : Enc.m α + 1 ≤ 64) (hA : A.Nodup) (hB : B.Nodup) (hAB : ∀ a ∈ A, a ∈ B) (hl : A.length = B.length) (hs : A.length ≤ 64) :
    run P (n + 1) k [.val (.tuple (A.map e)), .val (.tuple (B.map e))] = .ok false (tn (A.map fun a => B.idxOf a)) [] := by
  rw [run_at h]
  refine runF_is rfl rfl ?_
  simp [startA, b_between, hl]
  refine cutT (BtI A B A) (for_w e (fun rem r => ∃ done, A = done ++ rem ∧ BtI A B done r) ?_ ?_ _ _ ⟨[], rfl, none, none, none, none, rfl⟩) ?_
  · rintro a rem _ ⟨done, hd, y, z, u, v, rfl⟩
    refine ⟨_, (by simp; rfl), ?_⟩
    have ha : a ∈ B := hAB a (by rw [hd]; simp)
    have hand : a ∉ done := by
      rw [hd, List.nodup_append] at hA
      intro q
      exact hA.2.2 a q a List.mem_cons_self rfl
    have hdl : done.length < 64 := by rw [hd] at hs; simp at hs; omega
    simp
    refine lc_w (fun q : α × Nat => PyData.tuple [dn q.2, e q.1]) (fun q => decide (q.1 = a)) (fun q => dn q.2) B.zipIdx ?_ ?_ ?_ ?_
    · simp
      rw [enumT_map]
    · simp; omega
    · rintro ⟨b, i⟩ hb
      refine ⟨_, (by simp; rfl), ?_⟩
      have heq := eqD_e (by omega) b a
      simp [heq]
    · rw [spots_eq hB ha]
      have hin : inD (dn (B.idxOf a)) (.list (done.map fun a => dn (B.idxOf a))) = some false := by
        have := inD_dl (k := B.idxOf a) (xs := done.map fun a => B.idxOf a)
        rw [List.map_map] at this
        rw [show (done.map fun a => dn (B.idxOf a)) = done.map (dn ∘ fun a => B.idxOf a) from rfl, show dn (B.idxOf a) = PyData.int (B.idxOf a) from rfl, this, Option.some.injEq, decide_eq_false_iff_not]
        intro q
        obtain ⟨c, hc, e1⟩ := List.mem_map.mp q
        have hcB : c ∈ B := hAB c (by rw [hd]; simp [hc])
        have : c = a := by
          have h1 := List.getElem_idxOf (List.idxOf_lt_length_of_mem hcB)
          have h2 := List.getElem_idxOf (List.idxOf_lt_length_of_mem ha)
          rw [← h1, ← h2]
          congr 1
        exact hand (this ▸ hc)
      have hlen : (done.map fun a => dn (B.idxOf a)).length < 16777216 := by simp; omega
      simp [hin, mut_append hlen]
      refine ⟨done ++ [a], by simp [hd], some (.dat false (e a)), some (.dat true (.list [dn (B.idxOf a)])), u, v, ?_⟩
      simp
  · rintro r ⟨done, hd, hi⟩
    simp at hd
    exact hd ▸ hi
  · rintro _ ⟨y, z, u, v, rfl⟩
    simp
end
theorem between_bad (h : At P k (f_between x)) (hx : P.exf[x]? = some []) (n : Nat) {A B : List D} (hl : A.length ≠ B.length) :
    run P (n + 1) k [.val (.tuple A), .val (.tuple B)] = .exc ⟨x, []⟩ [] := by
  rw [run_at h]
  refine runF_raises rfl rfl ?_
  have hx' : ∀ c, (P.gs c).exf x = some [] := fun c => hx
  have hl' : ¬ (A.length : Int) = B.length := by omega
  simp [startA, b_between, hl, hl', hx']
end
end Lb

set_option Elab.async false
set_option linter.all false
set_option maxRecDepth 100000
set_option maxHeartbeats 1000000
namespace Lb
open PySem L2 E2
/-! ## two places exchanged -/
def sw (p : List Nat) (i j : Nat) : List Nat := (p.set i (nx p j)).set j (nx p i)
theorem sw_len (p : List Nat) (i j : Nat) : (sw p i j).length = p.length := by simp [sw]
theorem nx_get {p : List Nat} {k : Nat} (h : k < p.length) : nx p k = p[k] := by simp [nx, List.getElem?_eq_getElem h]
theorem nx_set {p : List Nat} {i k v : Nat} (h : i < p.length) : nx (p.set i v) k = if k = i then v else nx p k := by
  unfold nx
  rw [List.getD_eq_getElem?_getD, List.getD_eq_getElem?_getD, List.getElem?_set]
  by_cases e : i = k
  · subst e; simp [h]
  · rw [if_neg e, if_neg (fun z => e z.symm)]
theorem sw_nx {p : List Nat} {i j : Nat} (hi : i < p.length) (hj : j < p.length) (k : Nat) : nx (sw p i j) k = if k = j then nx p i else if k = i then nx p j else nx p k := by
  unfold sw
  rw [nx_set (by simpa using hj), nx_set hi]
theorem split2 {L : List Nat} {i j : Nat} (hij : i < j) (hj : j < L.length) : ∃ A x B y C, L = A ++ x :: (B ++ y :: C) ∧ A.length = i ∧ i + 1 + B.length = j := by
  have h1 : L = L.take i ++ L.drop i := (List.take_append_drop i L).symm
  have h2 : L.drop i = L[i]'(by omega) :: L.drop (i + 1) := List.drop_eq_getElem_cons (by omega)
  have h3 : L.drop (i + 1) = (L.drop (i + 1)).take (j - i - 1) ++ (L.drop (i + 1)).drop (j - i - 1) := (List.take_append_drop _ _).symm
  have h4 : (L.drop (i + 1)).drop (j - i - 1) = L[j] :: L.drop (j + 1) := by
    rw [List.drop_drop, show i + 1 + (j - i - 1) = j by omega]
    exact List.drop_eq_getElem_cons hj
  refine ⟨L.take i, L[i]'(by omega), (L.drop (i + 1)).take (j - i - 1), L[j], L.drop (j + 1), ?_, ?_, ?_⟩
  · rw [← h4, ← h3, ← h2]; exact h1
  · simp; omega
  · simp; omega
theorem sw_split (A B C : List Nat) (x y : Nat) : sw (A ++ x :: (B ++ y :: C)) A.length (A.length + 1 + B.length) = A ++ y :: (B ++ x :: C) := by
  have e1 : nx (A ++ x :: (B ++ y :: C)) A.length = x := by simp [nx]
  have e2 : nx (A ++ x :: (B ++ y :: C)) (A.length + 1 + B.length) = y := by
    unfold nx
    rw [List.getD_eq_getElem?_getD, List.getElem?_append_right (by omega), show A.length + 1 + B.length - A.length = B.length + 1 by omega, List.getElem?_cons_succ, List.getElem?_append_right (by omega)]
    simp
  unfold sw
  rw [e1, e2, List.set_append_right _ _ (by omega), Nat.sub_self, List.set_cons_zero, List.set_append_right _ _ (by omega), show A.length + 1 + B.length - A.length = B.length + 1 by omega, List.set_cons_succ, List.set_append_right _ _ (by omega), Nat.sub_self, List.set_cons_zero]
theorem sw_comm {p : List Nat} {i j : Nat} (h : i ≠ j) : sw p i j = sw p j i := by
  unfold sw
  exact List.set_comm _ _ (fun e => h e)
theorem sw_perm0 (A B C : List Nat) (x y : Nat) : (A ++ y :: (B ++ x :: C)).Perm (A ++ x :: (B ++ y :: C)) := by
  refine List.Perm.append_left _ ?_
  have h1 : (y :: (B ++ x :: C)).Perm (y :: x :: (B ++ C)) := List.Perm.cons _ List.perm_middle
  have h2 : (x :: (B ++ y :: C)).Perm (x :: y :: (B ++ C)) := List.Perm.cons _ List.perm_middle
  exact h1.trans ((List.Perm.swap _ _ _).trans h2.symm)
theorem invs_flip {A B C : List Nat} {x y : Nat} (h : (A ++ x :: (B ++ y :: C)).Nodup) : (invs (A ++ x :: (B ++ y :: C)) + invs (A ++ y :: (B ++ x :: C))) % 2 = 1 := by
  have hp : (x :: (B ++ [y])).Perm (y :: (B ++ [x])) := by
    have := sw_perm0 [] B [] y x
    simpa using this
  have e : ∀ a b : Nat, A ++ a :: (B ++ b :: C) = A ++ ((a :: (B ++ [b])) ++ C) := fun a b => by simp
  have hn : (x :: (B ++ [y])).Nodup := by
    rw [e] at h
    exact (List.nodup_append.mp ((List.nodup_append.mp h).2.1)).1
  have hx : x ∉ B := fun z => by
    have := (List.nodup_cons.mp hn).1
    exact this (List.mem_append_left _ z)
  have hy : y ∉ B := fun z => by
    have := (List.nodup_append.mp (List.nodup_cons.mp hn).2).2.2 y z y (List.mem_singleton.mpr rfl)
    exact this rfl
  have hxy : x ≠ y := fun z => (List.nodup_cons.mp hn).1 (List.mem_append_right _ (List.mem_singleton.mpr z))
  have c1 : cross A ((x :: (B ++ [y])) ++ C) = cross A ((y :: (B ++ [x])) ++ C) := cross_perm (hp.append_right C)
  have c2 : cross (x :: (B ++ [y])) C = cross (y :: (B ++ [x])) C := by
    unfold cross
    exact (hp.map _).sum_nat
  have i1 : ∀ a b, invs (a :: (B ++ [b])) = gt a B + gt a [b] + (invs B + lt b B) := fun a b => by
    rw [invs, invs_snoc, gt_app]
  have g1 := gt_lt x B hx
  have g2 := gt_lt y B hy
  rw [e x y, e y x, invs_app, invs_app, invs_app, invs_app, c1, c2, i1, i1]
  have s1 : gt x [y] + gt y [x] = 1 := by
    unfold gt
    rcases Nat.lt_or_ge x y with z | z
    · have z' : ¬ y < x := by omega
      simp [z, z']
    · have z' : y < x := by omega
      have z'' : ¬ x < y := by omega
      simp [z', z'']
  omega
theorem invs_sw {L : List Nat} (h : L.Nodup) {i j : Nat} (hi : i < L.length) (hj : j < L.length) (hij : i ≠ j) : (invs L + invs (sw L i j)) % 2 = 1 := by
  have key : ∀ {i j : Nat}, i < j → j < L.length → (invs L + invs (sw L i j)) % 2 = 1 := fun {i j} hij hj => by
    obtain ⟨A, x, B, y, C, rfl, rfl, rfl⟩ := split2 hij hj
    rw [sw_split]
    exact invs_flip h
  rcases Nat.lt_or_ge i j with z | z
  · exact key z hj
  · rw [sw_comm hij]
    exact key (by omega) hi
theorem sw_plist {L : List Nat} {i j : Nat} (hi : i < L.length) (hj : j < L.length) (hij : i ≠ j) : (sw L i j).Perm L := by
  have key : ∀ {i j : Nat}, i < j → j < L.length → (sw L i j).Perm L := fun {i j} hij hj => by
    obtain ⟨A, x, B, y, C, rfl, rfl, rfl⟩ := split2 hij hj
    rw [sw_split]
    exact sw_perm0 A B C x y
  rcases Nat.lt_or_ge i j with z | z
  · exact key z hj
  · rw [sw_comm hij]
    exact key (by omega) hi
theorem sw_map (f : Nat → Nat) {p : List Nat} {i j : Nat} (hi : i < p.length) (hj : j < p.length) : sw (p.map f) i j = (sw p i j).map f := by
  have e : ∀ {k}, k < p.length → nx (p.map f) k = f (nx p k) := fun {k} hk => by
    rw [nx_get (by simpa using hk), nx_get hk, List.getElem_map]
  unfold sw
  rw [e hi, e hj, List.map_set, List.map_set]
section
variable {m : Nat} {p : List Nat} (hp : Perm m p)
include hp
theorem sw_Perm {i j : Nat} (hi : i < m) (hj : j < m) (hij : i ≠ j) : Perm m (sw p i j) := by
  have h := sw_plist (L := p) (by rw [hp.len]; exact hi) (by rw [hp.len]; exact hj) hij
  exact ⟨by rw [sw_len, hp.len], fun x hx => hp.lt x (h.mem_iff.mp hx), h.nodup_iff.mpr hp.nd⟩
theorem idx_at {k : Nat} (hk : k < m) : p.idxOf (nx p k) = k := by
  have h1 : k < p.length := by rw [hp.len]; exact hk
  rw [nx_get h1]
  exact hp.nd.idxOf_getElem k h1
theorem idx_lt' {x : Nat} (hx : x < m) : p.idxOf x < m := by
  have := List.idxOf_lt_length_of_mem (perm_mem hp hx)
  rwa [hp.len] at this
theorem nx_idx {x : Nat} (hx : x < m) : nx p (p.idxOf x) = x := by
  have := List.idxOf_lt_length_of_mem (perm_mem hp hx)
  rw [nx_get this]
  exact List.getElem_idxOf this
theorem sw_idx {i j : Nat} (hi : i < m) (hj : j < m) (hij : i ≠ j) {x : Nat} (hx : x < m) : (sw p i j).idxOf x = if x = nx p i then j else if x = nx p j then i else p.idxOf x := by
  have hP := sw_Perm hp hi hj hij
  have hi' : i < p.length := by rw [hp.len]; exact hi
  have hj' : j < p.length := by rw [hp.len]; exact hj
  by_cases h1 : x = nx p i
  · rw [if_pos h1]
    have : nx (sw p i j) j = x := by rw [sw_nx hi' hj', if_pos rfl, h1]
    rw [← this]
    exact idx_at hP hj
  · rw [if_neg h1]
    by_cases h2 : x = nx p j
    · rw [if_pos h2]
      have : nx (sw p i j) i = x := by rw [sw_nx hi' hj', if_neg hij, if_pos rfl, h2]
      rw [← this]
      exact idx_at hP hi
    · rw [if_neg h2]
      have h3 := idx_lt' hp hx
      have h4 := nx_idx hp hx
      have : nx (sw p i j) (p.idxOf x) = x := by
        rw [sw_nx hi' hj', if_neg (fun z => h2 (by rw [← z, h4])), if_neg (fun z => h1 (by rw [← z, h4])), h4]
      conv => lhs; rw [← this]
      exact idx_at hP h3
theorem zip_idx : p.zipIdx = p.map fun x => (x, p.idxOf x) := by
  refine List.ext_getElem (by simp) fun i h1 h2 => ?_
  have hi : i < p.length := by simpa using h1
  rw [List.getElem_zipIdx, List.getElem_map, hp.nd.idxOf_getElem i hi, Nat.zero_add]
end
/-! ## how far -/
def dst (w a b : Nat) : Nat := (((a / w : Nat) : Int) - ((b / w : Nat) : Int)).natAbs + (((a % w : Nat) : Int) - ((b % w : Nat) : Int)).natAbs
theorem dst_self (w a : Nat) : dst w a a = 0 := by unfold dst; omega
theorem dst_tri (w a b c : Nat) : dst w a c ≤ dst w a b + dst w b c := by unfold dst; omega
theorem dst_comm (w a b : Nat) : dst w a b = dst w b a := by unfold dst; omega
def farS (w m : Nat) (p q : List Nat) : Nat := ((List.range' 1 (m - 1)).map fun t => dst w (p.idxOf t) (q.idxOf t)).sum
theorem sum_one {l : List Nat} (hl : l.Nodup) (f g : Nat → Nat) (a : Nat) (h : ∀ x ∈ l, f x ≤ g x + if x = a then 1 else 0) : (l.map f).sum ≤ (l.map g).sum + 1 := by
  have key : ∀ l : List Nat, l.Nodup → (∀ x ∈ l, f x ≤ g x + if x = a then 1 else 0) → (l.map f).sum ≤ (l.map g).sum + if a ∈ l then 1 else 0 := by
    intro l
    induction l with
    | nil => intro _ _; simp
    | cons x l ih =>
      intro hn hx
      have h1 := hx x List.mem_cons_self
      have h2 := ih (List.nodup_cons.mp hn).2 fun y hy => hx y (List.mem_cons_of_mem _ hy)
      have h3 := (List.nodup_cons.mp hn).1
      rw [List.map_cons, List.map_cons, List.sum_cons, List.sum_cons]
      by_cases e : x = a
      · subst e
        rw [if_pos rfl] at h1
        rw [if_neg h3] at h2
        rw [if_pos List.mem_cons_self]
        omega
      · rw [if_neg e] at h1
        by_cases e2 : a ∈ l
        · rw [if_pos e2] at h2
          rw [if_pos (List.mem_cons_of_mem _ e2)]
          omega
        · rw [if_neg e2] at h2
          rw [if_neg (fun z => by rcases List.mem_cons.mp z with z | z; exact e z.symm; exact e2 z)]
          omega
  have := key l hl h
  split at this <;> omega
/-! ## the moves of a box -/
def dirs : List (Fin 5 × Int × Int) := [(0, -1, 0), (1, 0, 1), (2, 0, -1), (3, 1, 0)]
def okM (h w g : Nat) (d : Fin 5 × Int × Int) : Bool := decide (0 ≤ ((g / w : Nat) : Int) + d.2.1 ∧ ((g / w : Nat) : Int) + d.2.1 < h) && decide (0 ≤ ((g % w : Nat) : Int) + d.2.2 ∧ ((g % w : Nat) : Int) + d.2.2 < w)
def toM (w g : Nat) (d : Fin 5 × Int × Int) : Nat := ((((g / w : Nat) : Int) + d.2.1) * w + ((g % w : Nat) : Int) + d.2.2).toNat
def stepsL (h w : Nat) (p : List Nat) : List (Fin 5 × List Nat) := (dirs.filter fun d => okM h w (p.idxOf 0) d).map fun d => (d.1, sw p (p.idxOf 0) (toM w (p.idxOf 0) d))
theorem toM_ok {h w g : Nat} {d : Fin 5 × Int × Int} (hd : d ∈ dirs) (ho : okM h w g d = true) : (((g / w : Nat) : Int) + d.2.1) * w + ((g % w : Nat) : Int) + d.2.2 = (toM w g d : Nat) ∧ toM w g d < h * w ∧ dst w g (toM w g d) = 1 := by
  unfold okM at ho
  simp only [Bool.and_eq_true, decide_eq_true_eq] at ho
  obtain ⟨⟨h1, h2⟩, h3, h4⟩ := ho
  generalize hR : ((g / w : Nat) : Int) + d.2.1 = R at h1 h2
  generalize hC : ((g % w : Nat) : Int) + d.2.2 = C at h3 h4
  obtain ⟨R, rfl⟩ := Int.eq_ofNat_of_zero_le h1
  obtain ⟨C, rfl⟩ := Int.eq_ofNat_of_zero_le h3
  have e : (((g / w : Nat) : Int) + d.2.1) * w + ((g % w : Nat) : Int) + d.2.2 = ((R * w + C : Nat) : Int) := by
    rw [hR, Int.add_assoc, hC]; simp
  have et : toM w g d = R * w + C := by
    unfold toM
    rw [e]; exact Int.toNat_natCast _
  have hC' : C < w := by omega
  have hR' : R < h := by omega
  refine ⟨by rw [et, ← e, hR], ?_, ?_⟩
  · rw [et]
    have : (R + 1) * w ≤ h * w := Nat.mul_le_mul_right w hR'
    rw [Nat.add_mul, Nat.one_mul] at this
    omega
  · rw [et]
    have e1 : (R * w + C) / w = R := by
      rw [Nat.mul_comm, Nat.mul_add_div (by omega), Nat.div_eq_of_lt hC', Nat.add_zero]
    have e2 : (R * w + C) % w = C := by
      rw [Nat.mul_comm, Nat.mul_add_mod, Nat.mod_eq_of_lt hC']
    unfold dst
    rw [e1, e2]
    unfold dirs at hd
    simp only [List.mem_cons, List.not_mem_nil, or_false] at hd
    rcases hd with rfl | rfl | rfl | rfl <;> simp only at hR hC <;> omega
theorem okM_some {h w g : Nat} (hw : 2 ≤ w) (hg : g < h * w) : ∃ d ∈ dirs, okM h w g d = true := by
  have h1 : g / w < h := Nat.div_lt_of_lt_mul (by rw [Nat.mul_comm]; exact hg)
  have h2 : g % w < w := Nat.mod_lt _ (by omega)
  unfold okM
  simp only [Bool.and_eq_true, decide_eq_true_eq]
  generalize g / w = a at h1 ⊢
  generalize g % w = b at h2 ⊢
  rcases Nat.lt_or_ge (b + 1) w with z | z
  · exact ⟨(1, 0, 1), by decide, ⟨by dsimp only; omega, by dsimp only; omega⟩, by dsimp only; omega, by dsimp only; omega⟩
  · exact ⟨(2, 0, -1), by decide, ⟨by dsimp only; omega, by dsimp only; omega⟩, by dsimp only; omega, by dsimp only; omega⟩
structure Step (h w : Nat) (p q : List Nat) : Prop where
  t : ∃ t, t < h * w ∧ dst w (p.idxOf 0) t = 1 ∧ q = sw p (p.idxOf 0) t
section
variable {h w : Nat} {p : List Nat} (hp : Perm (h * w) p) (h0 : 0 < h * w)
include hp h0
theorem steps_Step {s : Fin 5 × List Nat} (hs : s ∈ stepsL h w p) : Step h w p s.2 := by
  obtain ⟨d, hd, rfl⟩ := List.mem_map.mp hs
  obtain ⟨h1, h2⟩ := List.mem_filter.mp hd
  obtain ⟨h3, h4, h5⟩ := toM_ok h1 h2
  exact ⟨_, h4, h5, rfl⟩
theorem Step.perm {q : List Nat} (s : Step h w p q) : Perm (h * w) q := by
  obtain ⟨t, h1, h2, rfl⟩ := s
  refine sw_Perm hp (idx_lt' hp h0) h1 fun e => ?_
  rw [← e, dst_self] at h2
  omega
theorem Step.far {q p0 : List Nat} (s : Step h w p q) : farS w (h * w) p0 q ≤ farS w (h * w) p0 p + 1 := by
  obtain ⟨t, h1, h2, rfl⟩ := s
  have hg := idx_lt' hp h0
  have hne : p.idxOf 0 ≠ t := fun e => by
    rw [← e, dst_self] at h2
    omega
  refine sum_one List.nodup_range' _ _ (nx p t) fun x hx => ?_
  have hx' := List.mem_range'_1.mp hx
  rw [sw_idx hp hg h1 hne (by omega), nx_idx hp h0, if_neg (by omega)]
  by_cases e : x = nx p t
  · rw [if_pos e, if_pos e]
    subst e
    rw [idx_at hp h1]
    have := dst_tri w (p0.idxOf (nx p t)) t (p.idxOf 0)
    rw [dst_comm w t] at this
    omega
  · rw [if_neg e, if_neg e]
    omega
end
/-- where a tile is due -/
def due (m t : Nat) : Nat := if t = 0 then m - 1 else t - 1
def away (h w g : Nat) : Nat := h - 1 - g / w + (w - 1 - g % w)
def colN (h w : Nat) (p : List Nat) : Nat := invs (p.map (due (h * w))) + away h w (p.idxOf 0)
theorem due_nd {m : Nat} {p : List Nat} (hp : Perm m p) : (p.map (due m)).Nodup := by
  rw [List.nodup_iff_pairwise_ne, List.pairwise_map]
  refine (List.nodup_iff_pairwise_ne.mp hp.nd).imp_of_mem fun {a b} ha hb h => ?_
  have := hp.lt a ha
  have := hp.lt b hb
  unfold due
  split <;> split <;> omega
theorem Step.col {h w : Nat} {p q : List Nat} (hp : Perm (h * w) p) (h0 : 0 < h * w) (s : Step h w p q) : colN h w q % 2 = colN h w p % 2 := by
  obtain ⟨t, h1, h2, rfl⟩ := s
  have hg := idx_lt' hp h0
  have hne : p.idxOf 0 ≠ t := fun e => by
    rw [← e, dst_self] at h2
    omega
  have hl : (p.map (due (h * w))).length = h * w := by rw [List.length_map, hp.len]
  have i1 := invs_sw (due_nd hp) (by rw [hl]; exact hg) (by rw [hl]; exact h1) hne
  rw [sw_map _ (by rw [hp.len]; exact hg) (by rw [hp.len]; exact h1)] at i1
  have i2 : (sw p (p.idxOf 0) t).idxOf 0 = t := by
    rw [sw_idx hp hg h1 hne h0, nx_idx hp h0, if_pos rfl]
  unfold colN
  rw [i2]
  have hw : 0 < w := Nat.pos_of_ne_zero fun e => by subst e; omega
  have b1 : p.idxOf 0 / w < h := Nat.div_lt_of_lt_mul (by rw [Nat.mul_comm]; exact hg)
  have b2 : t / w < h := Nat.div_lt_of_lt_mul (by rw [Nat.mul_comm]; exact h1)
  have b3 := Nat.mod_lt (p.idxOf 0) hw
  have b4 := Nat.mod_lt t hw
  unfold away
  unfold dst at h2
  omega
/-! ## words -/
def goL (h w : Nat) (p : List Nat) (k : Fin 5) : Option (List Nat) := (((stepsL h w p).filter fun s => decide (s.1 = k)).map (·.2)).head?
def walkL (h w : Nat) (p : List Nat) (ks : List (Fin 5)) : Option (List Nat) := ks.foldl (fun o k => o.bind fun q => goL h w q k) (some p)
theorem walk_none (h w : Nat) (ks : List (Fin 5)) : ks.foldl (fun (o : Option (List Nat)) k => o.bind fun q => goL h w q k) none = none := by
  induction ks with
  | nil => rfl
  | cons k ks ih => exact ih
theorem walk_cons (h w : Nat) (p : List Nat) (k : Fin 5) (ks : List (Fin 5)) : walkL h w p (k :: ks) = (goL h w p k).bind fun q => walkL h w q ks := by
  unfold walkL
  rw [List.foldl_cons, Option.bind_some]
  cases goL h w p k with
  | none => exact walk_none h w ks
  | some q => rfl
theorem walk_snoc (h w : Nat) (p : List Nat) (k : Fin 5) (ks : List (Fin 5)) : walkL h w p (ks ++ [k]) = (walkL h w p ks).bind fun q => goL h w q k := by
  unfold walkL
  rw [List.foldl_append]; rfl
theorem go_Step {h w : Nat} {p : List Nat} (hp : Perm (h * w) p) (h0 : 0 < h * w) {k : Fin 5} {q : List Nat} (hq : goL h w p k = some q) : Step h w p q := by
  unfold goL at hq
  obtain ⟨s, hs, rfl⟩ := List.mem_map.mp (List.mem_of_head? hq)
  exact steps_Step hp h0 (List.mem_filter.mp hs).1
theorem key_one {α β : Type} [DecidableEq α] : ∀ {l : List (α × β)} {s : α × β}, (l.map (·.1)).Nodup → s ∈ l → l.filter (fun t => decide (t.1 = s.1)) = [s]
  | [], _, _, h => nomatch h
  | a :: l, s, hn, h => by
    rw [List.map_cons, List.nodup_cons] at hn
    rcases List.mem_cons.mp h with rfl | h
    · rw [List.filter_cons_of_pos (by simp)]
      have : l.filter (fun t => decide (t.1 = s.1)) = [] := List.filter_eq_nil_iff.mpr fun t ht e => hn.1 (by
        have e : t.1 = s.1 := by simpa using e
        rw [← e]
        exact List.mem_map.mpr ⟨t, ht, rfl⟩)
      rw [this]
    · rw [List.filter_cons_of_neg (fun e => hn.1 (by
        have e : a.1 = s.1 := by simpa using e
        rw [e]
        exact List.mem_map.mpr ⟨s, h, rfl⟩))]
      exact key_one hn.2 h
theorem steps_nd (h w : Nat) (p : List Nat) : ((stepsL h w p).map (·.1)).Nodup := by
  unfold stepsL
  rw [List.map_map]
  have e : ((fun x : Fin 5 × List Nat => x.1) ∘ fun d : Fin 5 × Int × Int => (d.1, sw p (p.idxOf 0) (toM w (p.idxOf 0) d))) = fun d => d.1 := rfl
  rw [e]
  have : (dirs.map (·.1)).Nodup := by decide
  exact this.sublist (List.Sublist.map _ List.filter_sublist)
theorem go_mem {h w : Nat} {p : List Nat} {s : Fin 5 × List Nat} (hs : s ∈ stepsL h w p) : goL h w p s.1 = some s.2 := by
  unfold goL
  rw [key_one (steps_nd h w p) hs]; rfl
theorem steps_few (h w : Nat) (p : List Nat) : (stepsL h w p).length ≤ 4 := by
  unfold stepsL
  rw [List.length_map]
  exact List.length_filter_le _ _
theorem steps_pos {h w : Nat} {p : List Nat} (hp : Perm (h * w) p) (h0 : 0 < h * w) (hw : 2 ≤ w) : 0 < (stepsL h w p).length := by
  obtain ⟨d, h1, h2⟩ := okM_some hw (idx_lt' hp h0)
  unfold stepsL
  rw [List.length_map]
  exact List.length_pos_of_mem (List.mem_filter.mpr ⟨h1, h2⟩)
theorem go_keeps {h w : Nat} {p : List Nat} (hp : Perm (h * w) p) (h0 : 0 < h * w) : ∀ {ks : List (Fin 5)} {q : List Nat}, walkL h w p ks = some q → Perm (h * w) q ∧ colN h w q % 2 = colN h w p % 2 ∧ ∀ p0, farS w (h * w) p0 q ≤ farS w (h * w) p0 p + ks.length := by
  intro ks
  induction ks generalizing p with
  | nil => intro q hq; cases hq; exact ⟨hp, rfl, fun _ => Nat.le_refl _⟩
  | cons k ks ih =>
    intro q hq
    rw [walk_cons] at hq
    cases e : goL h w p k with
    | none => rw [e] at hq; cases hq
    | some r =>
      rw [e] at hq
      have s := go_Step hp h0 e
      obtain ⟨h1, h2, h3⟩ := ih (s.perm hp h0) hq
      refine ⟨h1, by rw [h2, s.col hp h0], fun p0 => ?_⟩
      have := h3 p0
      have := s.far hp h0 (p0 := p0)
      rw [List.length_cons]
      omega
theorem far_self (w m : Nat) (p : List Nat) : farS w m p p = 0 := by
  unfold farS
  have : (fun t => dst w (p.idxOf t) (p.idxOf t)) = fun _ => 0 := funext fun t => dst_self w _
  rw [this]
  have : ∀ l : List Nat, (l.map fun _ => 0).sum = 0 := fun l => by induction l with
    | nil => rfl
    | cons a l ih => simpa using ih
  exact this _
/-- summed place by place -/
def farP (w : Nat) (q : List Nat) (s : Nat × Nat) : Nat := if s.1 = 0 then 0 else dst w s.2 (q.idxOf s.1)
theorem farP_sum {m : Nat} {p : List Nat} (hp : Perm m p) (h0 : 0 < m) (w : Nat) (q : List Nat) : (p.zipIdx.map (farP w q)).sum = farS w m p q := by
  have h1 : p.Perm (List.range m) := L2.perm_range m p hp.len fun k hk => perm_mem hp hk
  rw [zip_idx hp, List.map_map]
  have h2 := (h1.map (farP w q ∘ fun x => (x, p.idxOf x))).sum_nat
  rw [h2]
  have h3 : List.range m = 0 :: List.range' 1 (m - 1) := by
    rw [List.range_eq_range']
    obtain ⟨k, rfl⟩ : ∃ k, m = k + 1 := ⟨m - 1, by omega⟩
    rw [List.range'_succ]; rfl
  rw [h3, List.map_cons, List.sum_cons]
  have h4 : (farP w q ∘ fun x => (x, p.idxOf x)) 0 = 0 := rfl
  rw [h4, Nat.zero_add]
  unfold farS
  congr 1
  refine List.map_congr_left fun t ht => ?_
  have := List.mem_range'_1.mp ht
  show (if t = 0 then _ else _) = _
  rw [if_neg (by omega)]
end Lb

set_option Elab.async false
set_option linter.all false
set_option maxRecDepth 100000
set_option maxHeartbeats 1000000
namespace Lb
open PySem L2 E2
/- is_box: a0 = is_whole, g0 = MOST_PLACES_boxes -/
def b_is_box (a0 g0 : Nat) : CSs :=
  (.cons (.ite (.or (.not (.ex (.isin (.var 0) "tuple"))) (.or (.ex (.cmp .NotEq (.blt .len (.cons (.var 0) .nil)) (.cst (.int 2)))) (.not (.ex (.blt .all (.cons (.lc [(Str.ofString "one", 1)] (.nm 1) (.seq (.var 0)) .non (.and (.call a0 (.cons (.var 1) .nil)) (.cmp .Gt (.var 1) (.cst (.int 0))))) .nil)))))) (
   (.cons (.ret (.cst (.bool false))) .nil)) (.nil))
  (.cons (.ret (.chn .LtE .LtE (.cst (.int 2)) (.bin .Mult (.idx (.var 0) (.cst (.int 0))) (.idx (.var 0) (.cst (.int 1)))) (.gc g0))) .nil))
def n_is_box : List Str := [Str.ofString "value", Str.ofString "one"]
abbrev f_is_box (a0 g0 : Nat) : Fn := ⟨2, [false], b_is_box a0 g0⟩

/- is_state_2: a0 = is_exchange, a1 = is_box -/
def b_is_state_2 (a0 a1 : Nat) : CSs :=
  (.cons (.ret (.and (.call a1 (.cons (.var 0) .nil)) (.and (.call a0 (.cons (.var 1) .nil)) (.cmp .Eq (.blt .len (.cons (.var 1) .nil)) (.bin .Mult (.idx (.var 0) (.cst (.int 0))) (.idx (.var 0) (.cst (.int 1)))))))) .nil)
def n_is_state_2 : List Str := [Str.ofString "box", Str.ofString "value"]
abbrev f_is_state_2 (a0 a1 : Nat) : Fn := ⟨2, [false, false], b_is_state_2 a0 a1⟩

/- look_at_state: a0 = is_state, x0 = BadState -/
def b_look_at_state (a0 x0 : Nat) : CSs :=
  (.cons (.ite (.not (.ex (.call a0 (.cons (.var 0) (.cons (.var 1) .nil))))) (
   (.cons (.rais x0 (.cons (.cst (.str (Str.ofString "state"))) .nil)) .nil)) (.nil)) .nil)
def n_look_at_state : List Str := [Str.ofString "box", Str.ofString "value"]
abbrev f_look_at_state (a0 x0 : Nat) : Fn := ⟨2, [false, false], b_look_at_state a0 x0⟩

/- solved: a0 = is_box, x0 = BadState -/
def b_solved (a0 x0 : Nat) : CSs :=
  (.cons (.ite (.not (.ex (.call a0 (.cons (.var 0) .nil)))) (
   (.cons (.rais x0 (.cons (.cst (.str (Str.ofString "box"))) .nil)) .nil)) (.nil))
  (.cons (.ret (.bin .Add (.rng true (.cons (.cst (.int 1)) (.cons (.bin .Mult (.idx (.var 0) (.cst (.int 0))) (.idx (.var 0) (.cst (.int 1)))) .nil))) (.tup (.cons (.cst (.int 0)) .nil)))) .nil))
def n_solved : List Str := [Str.ofString "box"]
abbrev f_solved (a0 x0 : Nat) : Fn := ⟨1, [false], b_solved a0 x0⟩

/- moves: a0 = look_at_state, a1 = steps -/
def b_moves (a0 a1 : Nat) : CSs :=
  (.cons (.ex (.call a0 (.cons (.var 0) (.cons (.var 1) .nil))))
  (.cons (.ret (.call a1 (.cons (.var 0) (.cons (.var 1) .nil)))) .nil))
def n_moves : List Str := [Str.ofString "box", Str.ofString "state"]
abbrev f_moves (a0 a1 : Nat) : Fn := ⟨2, [false, false], b_moves a0 a1⟩

/- steps_2: a0 = swapped -/
def b_steps_2 (a0 : Nat) : CSs :=
  (.cons (.asg (.tup (.cons (.nm 2) (.cons (.nm 3) .nil))) (.var 0))
  (.cons (.set 4 (.meth .index (.var 1) (.cons (.cst (.int 0)) .nil)))
  (.cons (.par [5, 6] (.cons (.bin .FloorDiv (.var 4) (.var 3)) (.cons (.bin .Mod (.var 4) (.var 3)) .nil)))
  (.cons (.set 7 (.lst .nil))
  (.cons (.for (.tup [(.nm 8), (.nm 9), (.nm 10)]) (.seq (.tup (.cons (.tup (.cons (.cst (.str (Str.ofString "down"))) (.cons (.neg (.cst (.int 1))) (.cons (.cst (.int 0)) .nil)))) (.cons (.tup (.cons (.cst (.str (Str.ofString "left"))) (.cons (.cst (.int 0)) (.cons (.cst (.int 1)) .nil)))) (.cons (.tup (.cons (.cst (.str (Str.ofString "right"))) (.cons (.cst (.int 0)) (.cons (.neg (.cst (.int 1))) .nil)))) (.cons (.tup (.cons (.cst (.str (Str.ofString "up"))) (.cons (.cst (.int 1)) (.cons (.cst (.int 0)) .nil)))) .nil)))))) (
   (.cons (.ite (.and (.ex (.chn .LtE .Lt (.cst (.int 0)) (.bin .Add (.var 5) (.var 9)) (.var 2))) (.ex (.chn .LtE .Lt (.cst (.int 0)) (.bin .Add (.var 6) (.var 10)) (.var 3)))) (
    (.cons (.ex (.mut .append 7 (.cons (.tup (.cons (.var 8) (.cons (.call a0 (.cons (.var 1) (.cons (.var 4) (.cons (.bin .Add (.bin .Add (.bin .Mult (.bin .Add (.var 5) (.var 9)) (.var 3)) (.var 6)) (.var 10)) .nil)))) .nil))) .nil))) .nil)) (.nil)) .nil)))
  (.cons (.ret (.blt .tuple (.cons (.var 7) .nil))) .nil))))))
def n_steps_2 : List Str := [Str.ofString "box", Str.ofString "state", Str.ofString "high", Str.ofString "wide", Str.ofString "gap", Str.ofString "row", Str.ofString "column", Str.ofString "found", Str.ofString "name", Str.ofString "down", Str.ofString "right"]
abbrev f_steps_2 (a0 : Nat) : Fn := ⟨11, [false, false], b_steps_2 a0⟩

/- swapped: no parameters -/
def b_swapped : CSs :=
  (.cons (.set 3 (.blt .list (.cons (.var 0) .nil)))
  (.cons (.asg (.tup (.cons (.sub 3 (.var 1)) (.cons (.sub 3 (.var 2)) .nil))) (.tup (.cons (.idx (.var 3) (.var 2)) (.cons (.idx (.var 3) (.var 1)) .nil))))
  (.cons (.ret (.blt .tuple (.cons (.var 3) .nil))) .nil)))
def n_swapped : List Str := [Str.ofString "state", Str.ofString "one", Str.ofString "two", Str.ofString "rows"]
abbrev f_swapped : Fn := ⟨4, [false, false, false], b_swapped⟩

/- made: a0 = look_at_state, a1 = steps, x0 = BadMove -/
def b_made (a0 a1 x0 : Nat) : CSs :=
  (.cons (.ex (.call a0 (.cons (.var 0) (.cons (.var 1) .nil))))
  (.cons (.for (.nm 3) (.seq (.var 2)) (
   (.cons (.set 4 (.lc [(Str.ofString "own", 5), (Str.ofString "one", 6)] (.tup [(.nm 5), (.nm 6)]) (.seq (.call a1 (.cons (.var 0) (.cons (.var 1) .nil)))) (.som (.ex (.cmp .Eq (.var 5) (.var 3)))) (.var 6)))
   (.cons (.ite (.ex (.cmp .Eq (.blt .len (.cons (.var 4) .nil)) (.cst (.int 0)))) (
    (.cons (.rais x0 (.cons (.cst (.str (Str.ofString "move"))) .nil)) .nil)) (.nil))
   (.cons (.set 1 (.idx (.var 4) (.cst (.int 0)))) .nil)))))
  (.cons (.ret (.var 1)) .nil)))
def n_made : List Str := [Str.ofString "box", Str.ofString "state", Str.ofString "names", Str.ofString "name", Str.ofString "there", Str.ofString "own", Str.ofString "one"]
abbrev f_made (a0 a1 x0 : Nat) : Fn := ⟨7, [false, false, false], b_made a0 a1 x0⟩

/- is_way_2: a0 = look_at_state, a1 = made, x0 = BadMove -/
def b_is_way_2 (a0 a1 x0 : Nat) : CSs :=
  (.cons (.ex (.call a0 (.cons (.var 0) (.cons (.var 1) .nil))))
  (.cons (.ex (.call a0 (.cons (.var 0) (.cons (.var 2) .nil))))
  (.cons (.ite (.not (.ex (.isin (.var 3) "tuple"))) (
   (.cons (.ret (.cst (.bool false))) .nil)) (.nil))
  (.cons (.try_ (
   (.cons (.ret (.cmp .Eq (.call a1 (.cons (.var 0) (.cons (.var 1) (.cons (.var 3) .nil)))) (.var 2))) .nil)) (.cons x0 none (
   (.cons (.ret (.cst (.bool false))) .nil)) .nil)) .nil))))
def n_is_way_2 : List Str := [Str.ofString "box", Str.ofString "state", Str.ofString "goal", Str.ofString "value"]
abbrev f_is_way_2 (a0 a1 x0 : Nat) : Fn := ⟨4, [false, false, false, false], b_is_way_2 a0 a1 x0⟩

/- colour: a0 = look_at_state, a1 = sign, a2 = between, a3 = solved -/
def b_colour (a0 a1 a2 a3 : Nat) : CSs :=
  (.cons (.ex (.call a0 (.cons (.var 0) (.cons (.var 1) .nil))))
  (.cons (.asg (.tup (.cons (.nm 2) (.cons (.nm 3) .nil))) (.var 0))
  (.cons (.set 4 (.meth .index (.var 1) (.cons (.cst (.int 0)) .nil)))
  (.cons (.set 5 (.bin .Sub (.bin .Sub (.bin .Add (.bin .Sub (.bin .Sub (.var 2) (.cst (.int 1))) (.bin .FloorDiv (.var 4) (.var 3))) (.var 3)) (.cst (.int 1))) (.bin .Mod (.var 4) (.var 3))))
  (.cons (.ret (.bin .Mult (.call a1 (.cons (.call a2 (.cons (.var 1) (.cons (.call a3 (.cons (.var 0) .nil)) .nil))) .nil)) (.ife (.ex (.cmp .Eq (.bin .Mod (.var 5) (.cst (.int 2))) (.cst (.int 0)))) (.cst (.int 1)) (.neg (.cst (.int 1)))))) .nil)))))
def n_colour : List Str := [Str.ofString "box", Str.ofString "state", Str.ofString "high", Str.ofString "wide", Str.ofString "gap", Str.ofString "steps_away"]
abbrev f_colour (a0 a1 a2 a3 : Nat) : Fn := ⟨6, [false, false], b_colour a0 a1 a2 a3⟩

/- least_moves: a0 = look_at_state -/
def b_least_moves (a0 : Nat) : CSs :=
  (.cons (.ex (.call a0 (.cons (.var 0) (.cons (.var 1) .nil))))
  (.cons (.ex (.call a0 (.cons (.var 0) (.cons (.var 2) .nil))))
  (.cons (.set 3 (.idx (.var 0) (.cst (.int 1))))
  (.cons (.set 4 (.cst (.int 0)))
  (.cons (.for (.tup [(.nm 5), (.nm 6)]) (.enum (.cons (.var 1) .nil)) (
   (.cons (.ite (.ex (.cmp .NotEq (.var 6) (.cst (.int 0)))) (
    (.cons (.set 7 (.meth .index (.var 2) (.cons (.var 6) .nil)))
    (.cons (.aug 4 .Add (.bin .Add (.blt .abs (.cons (.bin .Sub (.bin .FloorDiv (.var 5) (.var 3)) (.bin .FloorDiv (.var 7) (.var 3))) .nil)) (.blt .abs (.cons (.bin .Sub (.bin .Mod (.var 5) (.var 3)) (.bin .Mod (.var 7) (.var 3))) .nil)))) .nil))) (.nil)) .nil)))
  (.cons (.ret (.var 4)) .nil))))))
def n_least_moves : List Str := [Str.ofString "box", Str.ofString "state", Str.ofString "goal", Str.ofString "wide", Str.ofString "found", Str.ofString "at", Str.ofString "tile", Str.ofString "to"]
abbrev f_least_moves (a0 : Nat) : Fn := ⟨8, [false, false, false], b_least_moves a0⟩

/- _law_steps: no parameters -/
def b__law_steps : CSs :=
  (.cons (.asg (.tup (.cons (.nm 2) (.cons (.nm 3) .nil))) (.var 0))
  (.cons (.set 4 (.meth .index (.var 1) (.cons (.cst (.int 0)) .nil)))
  (.cons (.par [5, 6] (.cons (.blt .int (.cons (.bin .FloorDiv (.var 4) (.var 3)) .nil)) (.cons (.bin .Mod (.blt .int (.cons (.var 4) .nil)) (.var 3)) .nil)))
  (.cons (.set 7 (.lst .nil))
  (.cons (.for (.tup [(.nm 8), (.nm 9), (.nm 10)]) (.seq (.lst (.cons (.tup (.cons (.cst (.str (Str.ofString "down"))) (.cons (.neg (.cst (.int 1))) (.cons (.cst (.int 0)) .nil)))) (.cons (.tup (.cons (.cst (.str (Str.ofString "left"))) (.cons (.cst (.int 0)) (.cons (.cst (.int 1)) .nil)))) (.cons (.tup (.cons (.cst (.str (Str.ofString "right"))) (.cons (.cst (.int 0)) (.cons (.neg (.cst (.int 1))) .nil)))) (.cons (.tup (.cons (.cst (.str (Str.ofString "up"))) (.cons (.cst (.int 1)) (.cons (.cst (.int 0)) .nil)))) .nil)))))) (
   (.cons (.ite (.and (.ex (.chn .LtE .Lt (.cst (.int 0)) (.bin .Add (.var 5) (.var 9)) (.var 2))) (.ex (.chn .LtE .Lt (.cst (.int 0)) (.bin .Add (.var 6) (.var 10)) (.var 3)))) (
    (.cons (.set 11 (.bin .Add (.bin .Add (.bin .Mult (.bin .Add (.var 5) (.var 9)) (.var 3)) (.var 6)) (.var 10)))
    (.cons (.set 12 (.blt .list (.cons (.var 1) .nil)))
    (.cons (.asg (.tup (.cons (.sub 12 (.var 4)) (.cons (.sub 12 (.var 11)) .nil))) (.tup (.cons (.idx (.var 12) (.var 11)) (.cons (.cst (.int 0)) .nil))))
    (.cons (.ex (.mut .append 7 (.cons (.tup (.cons (.var 8) (.cons (.blt .tuple (.cons (.var 12) .nil)) .nil))) .nil))) .nil))))) (.nil)) .nil)))
  (.cons (.ret (.var 7)) .nil))))))
def n__law_steps : List Str := [Str.ofString "box", Str.ofString "state", Str.ofString "high", Str.ofString "wide", Str.ofString "gap", Str.ofString "row", Str.ofString "column", Str.ofString "found", Str.ofString "name", Str.ofString "down", Str.ofString "right", Str.ofString "other", Str.ofString "rows"]
abbrev f__law_steps : Fn := ⟨13, [false, false], b__law_steps⟩

/- _law_colour: no parameters -/
def b__law_colour : CSs :=
  (.cons (.asg (.tup (.cons (.nm 2) (.cons (.nm 3) .nil))) (.var 0))
  (.cons (.set 4 (.bin .Add (.rng false (.cons (.cst (.int 1)) (.cons (.bin .Mult (.var 2) (.var 3)) .nil))) (.lst (.cons (.cst (.int 0)) .nil))))
  (.cons (.set 5 (.lc [(Str.ofString "one", 6)] (.nm 6) (.seq (.var 1)) .non (.meth .index (.var 4) (.cons (.var 6) .nil))))
  (.cons (.set 7 (.cst (.int 0)))
  (.cons (.for (.nm 8) (.rng (.cons (.blt .len (.cons (.var 5) .nil)) .nil)) (
   (.cons (.set 7 (.bin .Add (.var 7) (.blt .len (.cons (.lc [(Str.ofString "b", 9)] (.nm 9) (.rng (.cons (.bin .Add (.var 8) (.cst (.int 1))) (.cons (.blt .len (.cons (.var 5) .nil)) .nil))) (.som (.ex (.cmp .Gt (.idx (.var 5) (.var 8)) (.idx (.var 5) (.var 9))))) (.var 9)) .nil)))) .nil)))
  (.cons (.set 10 (.meth .index (.var 1) (.cons (.cst (.int 0)) .nil)))
  (.cons (.set 11 (.bin .Sub (.bin .Sub (.bin .Add (.bin .Sub (.bin .Sub (.var 2) (.cst (.int 1))) (.blt .int (.cons (.bin .FloorDiv (.var 10) (.var 3)) .nil))) (.var 3)) (.cst (.int 1))) (.bin .Mod (.blt .int (.cons (.var 10) .nil)) (.var 3))))
  (.cons (.ret (.ife (.ex (.cmp .Eq (.bin .Mod (.blt .int (.cons (.bin .Add (.var 7) (.var 11)) .nil)) (.cst (.int 2))) (.cst (.int 0)))) (.cst (.int 1)) (.neg (.cst (.int 1))))) .nil))))))))
def n__law_colour : List Str := [Str.ofString "box", Str.ofString "state", Str.ofString "high", Str.ofString "wide", Str.ofString "due", Str.ofString "row", Str.ofString "one", Str.ofString "pairs", Str.ofString "a", Str.ofString "b", Str.ofString "gap", Str.ofString "far"]
abbrev f__law_colour : Fn := ⟨12, [false, false], b__law_colour⟩

/- _law_bad_2: x0 = BadPlan -/
def b__law_bad_2 (x0 : Nat) : CSs :=
  (.cons (.try_ (
   (.cons (.ex (.callv 0 (.cons (.var 1) (.cons (.var 2) .nil)))) .nil)) (.cons x0 none (
   (.cons (.ret (.cst (.bool true))) .nil)) .nil))
  (.cons (.ret (.cst (.bool false))) .nil))
def n__law_bad_2 : List Str := [Str.ofString "call", Str.ofString "one", Str.ofString "two"]
abbrev f__law_bad_2 (x0 : Nat) : Fn := ⟨3, [false, false, false], b__law_bad_2 x0⟩

/-! ## words -/
def wd : _root_.Fin 5 → Str
  | 0 => Str.ofString "down"
  | 1 => Str.ofString "left"
  | 2 => Str.ofString "right"
  | 3 => Str.ofString "up"
  | 4 => Str.ofString "go"
def wdc (a : _root_.Fin 5) : List Nat := (wd a).cps.toList
theorem wd_inj : ∀ a b : _root_.Fin 5, wdc a = wdc b → a = b := by decide +kernel
theorem wd_ok : ∀ a : _root_.Fin 5, okP 0 (.str (wd a)) = true := by decide +kernel
instance encW : Enc (_root_.Fin 5) := ⟨fun a => .str (wd a), fun a b h => wd_inj a b (by
  have : wd a = wd b := PyData.str.inj h
  unfold wdc
  rw [this]), 0, wd_ok⟩
theorem eq_wd (a b : _root_.Fin 5) : eqD (.str (wd a)) (.str (wd b)) = some (decide (a = b)) := eqD_e (α := _root_.Fin 5) (by decide) a b
abbrev bx (h w : Nat) : D := .tuple [.int h, .int w]
structure BxOk (P : Prg) (kw ke kl g x kb g2 ks ka kt kx : Nat) : Prop where
  E : ExOk P kw ke kl g x
  hb : At P kb (f_is_box kw g2)
  hg2 : P.gcs[g2]? = some (.int 36)
  hs : At P ks (f_is_state_2 ke kb)
  ha : At P ka (f_look_at_state ks x)
  ht : At P kt (f_steps_2 kx)
  hx : At P kx f_swapped
structure Bx (h w : Nat) : Prop where
  h1 : 1 ≤ h
  w1 : 2 ≤ w
  m : h * w ≤ 36
theorem Bx.pos {h w : Nat} (b : Bx h w) : 2 ≤ h * w := Nat.le_trans (Nat.mul_le_mul b.h1 b.w1) (Nat.le_refl _)
section
variable {P : Prg} {kw ke kl g x kb g2 ks ka kt kx k h w : Nat} {p : List Nat}
theorem isbox_ok (B : BxOk P kw ke kl g x kb g2 ks ka kt kx) (b : Bx h w) (n : Nat) : run P (n + 2) kb [.val (bx h w)] = .ok false (.bool true) [] := by
  rw [run_at B.hb]
  refine runF_is rfl rfl ?_
  have hg' : ∀ c, (P.gs c).gcs g2 = some (.int 36) := fun c => B.hg2
  have hw := b.w1
  have hh := b.h1
  have hm := b.m
  have h2 := b.pos
  have e1 : binD .Mult (.int (h : Nat)) (.int (w : Nat)) = some (false, .int (h * w : Nat)) := mul_small ⟨by omega, by have := Nat.le_mul_of_pos_left w (show 0 < h by omega); omega⟩
  simp [startA, b_is_box, hg']
  refine lcN_w (fun k : Nat => dn k) (fun k => .bool (decide (0 < k))) [h, w] ?_ ?_ ?_ ?_
  · simp
  · simp
  · intro d hd
    refine ⟨_, (by simp; rfl), ?_⟩
    refine ⟨rfl, ?_⟩
    have hw1 := whole_ok B.E.hw n (d := dn d) rfl
    simp [sig_at B.E.hw, hw1, whole]
  · have e2 := all_bools (fun k => decide (0 < k)) [h, w]
    simp at e2
    simp [e2, e1]
    omega
theorem isst_ok (B : BxOk P kw ke kl g x kb g2 ks ka kt kx) (b : Bx h w) (hp : Perm (h * w) p) (n : Nat) : run P (n + 3) ks [.val (bx h w), .val (tn p)] = .ok false (.bool true) [] := by
  rw [run_at B.hs]
  refine runF_is rfl rfl ?_
  have hw := b.w1
  have hh := b.h1
  have hm := b.m
  have e1 : binD .Mult (.int (h : Nat)) (.int (w : Nat)) = some (false, .int (h * w : Nat)) := mul_small ⟨by omega, by have := Nat.le_mul_of_pos_left w (show 0 < h by omega); omega⟩
  have f1 := isbox_ok B b n
  have f2 := isex_perm B.E n hp (by omega)
  simp [startA, b_is_state_2, sig_at B.hb, sig_at B.E.he, f1, f2, e1, hp.len]
theorem look_st (B : BxOk P kw ke kl g x kb g2 ks ka kt kx) (b : Bx h w) (hp : Perm (h * w) p) (n : Nat) : run P (n + 4) ka [.val (bx h w), .val (tn p)] = .ok false .none [] := by
  rw [run_at B.ha]
  refine runF_is rfl rfl ?_
  simp [startA, b_look_at_state, sig_at B.hs, isst_ok B b hp n]
/-- no state of this box -/
structure BadSt (m : Nat) (d : D) : Prop where
  nd : notDict d = true
  ts : ∀ ds, d = .tuple ds → ds.all notDict = true ∧ ds.length ≤ 16777216
  no : exB d → ∀ ds, d = .tuple ds → ds.length ≠ m
theorem isst_bad (B : BxOk P kw ke kl g x kb g2 ks ka kt kx) (b : Bx h w) {d : D} (hd : BadSt (h * w) d) (n : Nat) : run P (n + 3) ks [.val (bx h w), .val d] = .ok false (.bool false) [] := by
  rw [run_at B.hs]
  refine runF_is rfl rfl ?_
  have hw := b.w1
  have hh := b.h1
  have hm := b.m
  have e1 : binD .Mult (.int (h : Nat)) (.int (w : Nat)) = some (false, .int (h * w : Nat)) := mul_small ⟨by omega, by have := Nat.le_mul_of_pos_left w (show 0 < h by omega); omega⟩
  have f1 := isbox_ok B b n
  obtain ⟨t, f2, f3⟩ := isex_ok B.E.he B.E.hw B.E.hg n hd.nd hd.ts
  cases t with
  | false => simp [startA, b_is_state_2, sig_at B.hb, sig_at B.E.he, f1, f2, e1]
  | true =>
    have hx := f3.mp rfl
    cases d with
    | tuple ds =>
      have := hd.no hx ds rfl
      have : ¬ (ds.length : Int) = (h : Int) * (w : Int) := fun e => this (by exact_mod_cast e)
      simp [startA, b_is_state_2, sig_at B.hb, sig_at B.E.he, f1, f2, e1, this]
    | _ => exact hx.elim
theorem look_stbad (B : BxOk P kw ke kl g x kb g2 ks ka kt kx) (b : Bx h w) {d : D} (hd : BadSt (h * w) d) (n : Nat) : run P (n + 4) ka [.val (bx h w), .val d] = .exc ⟨x, []⟩ [] := by
  rw [run_at B.ha]
  refine runF_raises rfl rfl ?_
  have hx' : ∀ c, (P.gs c).exf x = some [] := fun c => B.E.hx
  simp [startA, b_look_at_state, sig_at B.hs, isst_bad B b hd n, hx']
theorem swapped_ok (hk : At P kx f_swapped) {i j : Nat} (hi : i < p.length) (hj : j < p.length) (hl : p.length ≤ 16777216) (n : Nat) : run P (n + 1) kx [.val (tn p), .val (.int i), .val (.int j)] = .ok false (tn (sw p i j)) [] := by
  rw [run_at hk]
  refine runF_is rfl rfl ?_
  have h1 : p[i]? = some (nx p i) := get_getD hi
  have h2 : p[j]? = some (nx p j) := get_getD hj
  simp [startA, b_swapped, hi, hj, hl]
  simp [sw, List.map_set, nx_get hi, nx_get hj]
end
end Lb

set_option Elab.async false
set_option linter.all false
set_option maxRecDepth 100000
set_option maxHeartbeats 1000000
namespace Lb
open PySem L2 E2
section
variable {P : Prg} {kw ke kl g x kb g2 ks ka kt kx k h w : Nat} {p : List Nat}
def eD (d : _root_.Fin 5 × Int × Int) : D := .tuple [.str (wd d.1), .int d.2.1, .int d.2.2]
def mvL (h w : Nat) (p : List Nat) (ds : List (_root_.Fin 5 × Int × Int)) : List (_root_.Fin 5 × List Nat) := (ds.filter fun d => okM h w (p.idxOf 0) d).map fun d => (d.1, sw p (p.idxOf 0) (toM w (p.idxOf 0) d))
theorem mvL_app (h w : Nat) (p : List Nat) (ds : List (_root_.Fin 5 × Int × Int)) (d : _root_.Fin 5 × Int × Int) : mvL h w p (ds ++ [d]) = mvL h w p ds ++ if okM h w (p.idxOf 0) d = true then [(d.1, sw p (p.idxOf 0) (toM w (p.idxOf 0) d))] else [] := by
  unfold mvL
  rw [List.filter_append, List.map_append]
  congr 1
  by_cases e : okM h w (p.idxOf 0) d = true
  · rw [if_pos e, List.filter_cons_of_pos e]; rfl
  · rw [if_neg e, List.filter_cons_of_neg e]; rfl
theorem steps_ok (B : BxOk P kw ke kl g x kb g2 ks ka kt kx) (b : Bx h w) (hp : Perm (h * w) p) (n : Nat) : run P (n + 2) kt [.val (bx h w), .val (tn p)] = .ok false (.tuple ((stepsL h w p).map Enc.e)) [] := by
  rw [run_at B.ht]
  refine runF_is rfl rfl ?_
  have hw := b.w1
  have hh := b.h1
  have hm := b.m
  have h0 : 0 < h * w := by have := b.pos; omega
  have hg := idx_lt' hp h0
  have hix : methD .index (tn p) [.int 0] = some (false, .int (p.idxOf 0 : Nat)) := index_tn (k := 0) (perm_mem hp h0)
  generalize hgap : p.idxOf 0 = gap at hix hg
  have e1 : (0 : Int) < w := by omega
  have e2 : (w : Int) < 1073741824 := by have := Nat.le_mul_of_pos_left w (show 0 < h by omega); omega
  have d1 : binD .FloorDiv (.int (gap : Nat)) (.int (w : Nat)) = some (false, dn (gap / w)) := bin_div ⟨e1, e2⟩
  have d2 : binD .Mod (.int (gap : Nat)) (.int (w : Nat)) = some (false, dn (gap % w)) := bin_mod e1
  simp [startA, b_steps_2, hix, d1, d2]
  refine cutT (Ih fun r => ∃ z1 z2 z3, r = [some (.dat false (bx h w)), some (.dat false (tn p)), some (.dat false (dn h)), some (.dat false (dn w)), some (.dat false (dn gap)), some (.dat false (dn (gap / w))), some (.dat false (dn (gap % w))), some (.dat true (.list ((stepsL h w p).map Enc.e))), z1, z2, z3]) (for_w eD (fun rem => Ih fun r => ∃ done, dirs = done ++ rem ∧ ∃ z1 z2 z3, r = [some (.dat false (bx h w)), some (.dat false (tn p)), some (.dat false (dn h)), some (.dat false (dn w)), some (.dat false (dn gap)), some (.dat false (dn (gap / w))), some (.dat false (dn (gap % w))), some (.dat true (.list ((mvL h w p done).map Enc.e))), z1, z2, z3]) ?_ ?_ dirs _ ⟨[], rfl, none, none, none, rfl⟩) ?_
  · rintro d as _ ⟨done, hd, z1, z2, z3, rfl⟩
    refine ⟨_, (by simp [eD]; rfl), ?_⟩
    have hdm : d ∈ dirs := by rw [hd]; simp
    have hiff : okM h w gap d = true ↔ ((0 : Int) ≤ (gap : Int) / (w : Int) + d.2.1 ∧ (gap : Int) / (w : Int) + d.2.1 < h) ∧ (0 : Int) ≤ (gap : Int) % (w : Int) + d.2.2 ∧ (gap : Int) % (w : Int) + d.2.2 < w := by
      unfold okM
      simp only [Bool.and_eq_true, decide_eq_true_eq, Int.natCast_ediv, Int.natCast_emod]
    have hnext : dirs = (done ++ [d]) ++ as := by rw [hd]; simp
    by_cases ho : okM h w gap d = true
    · obtain ⟨⟨c1, c2⟩, c3, c4⟩ := hiff.mp ho
      obtain ⟨t1, t2, t3⟩ := toM_ok hdm ho
      have t1 : ((gap : Int) / (w : Int) + d.2.1) * (w : Int) + (gap : Int) % (w : Int) + d.2.2 = (toM w gap d : Nat) := by
        rw [← t1, Int.natCast_ediv, Int.natCast_emod]
      have e3 : binD .Mult (.int ((gap : Int) / (w : Int) + d.2.1)) (dn w) = some (false, .int (((gap : Int) / (w : Int) + d.2.1) * (w : Int))) := mul_small ⟨by omega, by omega⟩
      have f1 := swapped_ok B.hx (p := p) (i := gap) (j := toM w gap d) (by rw [hp.len]; exact hg) (by rw [hp.len]; exact t2) (by rw [hp.len]; omega) n
      have hlen : ((mvL h w p done).map Enc.e).length < 16777216 := by
        have h1 : (mvL h w p done).length ≤ done.length := by
          unfold mvL
          rw [List.length_map]
          exact List.length_filter_le _ _
        have h2 : done.length ≤ 4 := by
          have := congrArg List.length hd
          simp [dirs] at this
          omega
        rw [List.length_map]
        omega
      simp [eD, c1, c2, c3, c4, e3, t1, sig_at B.hx, f1, mut_append hlen]
      refine ⟨done ++ [d], hnext, some (.dat false (.str (wd d.1))), some (.dat false (.int d.2.1)), some (.dat false (.int d.2.2)), ?_⟩
      rw [mvL_app, hgap, if_pos ho, List.map_append]
      rfl
    · have no : ∀ {X : Prop}, (0 : Int) ≤ (gap : Int) / (w : Int) + d.2.1 → (gap : Int) / (w : Int) + d.2.1 < h → (0 : Int) ≤ (gap : Int) % (w : Int) + d.2.2 → (gap : Int) % (w : Int) + d.2.2 < w → X := fun a b c e => absurd (hiff.mpr ⟨⟨a, b⟩, c, e⟩) ho
      have yes : ∃ done1, dirs = done1 ++ as ∧ mvL h w p done1 = mvL h w p done := ⟨done ++ [d], hnext, by rw [mvL_app, hgap, if_neg ho, List.append_nil]⟩
      obtain ⟨done1, y1, y2⟩ := yes
      simp [eD]
      rw [← y2]
      exact ⟨fun a => ⟨fun b => ⟨fun c => ⟨fun e => no a b c e, fun _ => ⟨done1, y1, _, _, _, rfl⟩⟩, fun _ => ⟨done1, y1, _, _, _, rfl⟩⟩, fun _ => ⟨done1, y1, _, _, _, rfl⟩⟩, fun _ => ⟨done1, y1, _, _, _, rfl⟩⟩
  · rintro r ⟨done, hd, z1, z2, z3, rfl⟩
    simp at hd
    subst hd
    exact ⟨z1, z2, z3, rfl⟩
  · rintro _ ⟨z1, z2, z3, rfl⟩
    simp
theorem lsteps_ok (hk : At P k f__law_steps) (b : Bx h w) (hp : Perm (h * w) p) (n : Nat) : run P (n + 1) k [.val (bx h w), .val (tn p)] = .ok true (.list ((stepsL h w p).map Enc.e)) [] := by
  rw [run_at hk]
  refine runF_is rfl rfl ?_
  have hw := b.w1
  have hh := b.h1
  have hm := b.m
  have h0 : 0 < h * w := by have := b.pos; omega
  have hg := idx_lt' hp h0
  have hg0 := nx_idx hp h0
  have hix : methD .index (tn p) [.int 0] = some (false, .int (p.idxOf 0 : Nat)) := index_tn (k := 0) (perm_mem hp h0)
  generalize hgap : p.idxOf 0 = gap at hix hg hg0
  have e1 : (0 : Int) < w := by omega
  have e2 : (w : Int) < 1073741824 := by have := Nat.le_mul_of_pos_left w (show 0 < h by omega); omega
  have d1 : binD .FloorDiv (.int (gap : Nat)) (.int (w : Nat)) = some (false, dn (gap / w)) := bin_div ⟨e1, e2⟩
  have d2 : binD .Mod (.int (gap : Nat)) (.int (w : Nat)) = some (false, dn (gap % w)) := bin_mod e1
  simp [startA, b__law_steps, hix, d1, d2]
  refine cutT (Ih fun r => ∃ z1 z2 z3 z4 z5, r = [some (.dat false (bx h w)), some (.dat false (tn p)), some (.dat false (dn h)), some (.dat false (dn w)), some (.dat false (dn gap)), some (.dat false (dn (gap / w))), some (.dat false (dn (gap % w))), some (.dat true (.list ((stepsL h w p).map Enc.e))), z1, z2, z3, z4, z5]) (for_w eD (fun rem => Ih fun r => ∃ done, dirs = done ++ rem ∧ ∃ z1 z2 z3 z4 z5, r = [some (.dat false (bx h w)), some (.dat false (tn p)), some (.dat false (dn h)), some (.dat false (dn w)), some (.dat false (dn gap)), some (.dat false (dn (gap / w))), some (.dat false (dn (gap % w))), some (.dat true (.list ((mvL h w p done).map Enc.e))), z1, z2, z3, z4, z5]) ?_ ?_ dirs _ ⟨[], rfl, none, none, none, none, none, rfl⟩) ?_
  · rintro d as _ ⟨done, hd, z1, z2, z3, z4, z5, rfl⟩
    refine ⟨_, (by simp [eD]; rfl), ?_⟩
    have hdm : d ∈ dirs := by rw [hd]; simp
    have hiff : okM h w gap d = true ↔ ((0 : Int) ≤ (gap : Int) / (w : Int) + d.2.1 ∧ (gap : Int) / (w : Int) + d.2.1 < h) ∧ (0 : Int) ≤ (gap : Int) % (w : Int) + d.2.2 ∧ (gap : Int) % (w : Int) + d.2.2 < w := by
      unfold okM
      simp only [Bool.and_eq_true, decide_eq_true_eq, Int.natCast_ediv, Int.natCast_emod]
    have hnext : dirs = (done ++ [d]) ++ as := by rw [hd]; simp
    by_cases ho : okM h w gap d = true
    · obtain ⟨⟨c1, c2⟩, c3, c4⟩ := hiff.mp ho
      obtain ⟨t1, t2, t3⟩ := toM_ok hdm ho
      have t1 : ((gap : Int) / (w : Int) + d.2.1) * (w : Int) + (gap : Int) % (w : Int) + d.2.2 = (toM w gap d : Nat) := by
        rw [← t1, Int.natCast_ediv, Int.natCast_emod]
      have e3 : binD .Mult (.int ((gap : Int) / (w : Int) + d.2.1)) (dn w) = some (false, .int (((gap : Int) / (w : Int) + d.2.1) * (w : Int))) := mul_small ⟨by omega, by omega⟩
      have hgl : gap < p.length := by rw [hp.len]; exact hg
      have htl : toM w gap d < p.length := by rw [hp.len]; exact t2
      have h1 : p[toM w gap d]? = some (nx p (toM w gap d)) := get_getD htl
      have hpl : p.length ≤ 16777216 := by rw [hp.len]; omega
      have hlen : ((mvL h w p done).map Enc.e).length < 16777216 := by
        have h1 : (mvL h w p done).length ≤ done.length := by
          unfold mvL
          rw [List.length_map]
          exact List.length_filter_le _ _
        have h2 : done.length ≤ 4 := by
          have := congrArg List.length hd
          simp [dirs] at this
          omega
        rw [List.length_map]
        omega
      simp [eD, c1, c2, c3, c4, e3, t1, hgl, htl, hpl, mut_append hlen]
      have key : (mvL h w p (done ++ [d])).map Enc.e = (mvL h w p done).map Enc.e ++ [.tuple [.str (wd d.1), .tuple (((p.map dn).set gap (dn p[toM w gap d])).set (toM w gap d) (.int 0))]] := by
        rw [mvL_app, hgap, if_pos ho, List.map_append]
        congr 1
        show [PyData.tuple [.str (wd d.1), .tuple ((sw p gap (toM w gap d)).map dn)]] = _
        unfold sw
        rw [List.map_set, List.map_set, hg0, nx_get htl]
        rfl
      refine ⟨done ++ [d], hnext, ?_⟩
      rw [key]
      exact ⟨_, _, _, _, _, rfl⟩
    · have no : ∀ {X : Prop}, (0 : Int) ≤ (gap : Int) / (w : Int) + d.2.1 → (gap : Int) / (w : Int) + d.2.1 < h → (0 : Int) ≤ (gap : Int) % (w : Int) + d.2.2 → (gap : Int) % (w : Int) + d.2.2 < w → X := fun a b c e => absurd (hiff.mpr ⟨⟨a, b⟩, c, e⟩) ho
      have yes : ∃ done1, dirs = done1 ++ as ∧ mvL h w p done1 = mvL h w p done := ⟨done ++ [d], hnext, by rw [mvL_app, hgap, if_neg ho, List.append_nil]⟩
      obtain ⟨done1, y1, y2⟩ := yes
      simp [eD]
      rw [← y2]
      exact ⟨fun a => ⟨fun b => ⟨fun c => ⟨fun e => no a b c e, fun _ => ⟨done1, y1, _, _, _, _, _, rfl⟩⟩, fun _ => ⟨done1, y1, _, _, _, _, _, rfl⟩⟩, fun _ => ⟨done1, y1, _, _, _, _, _, rfl⟩⟩, fun _ => ⟨done1, y1, _, _, _, _, _, rfl⟩⟩
  · rintro r ⟨done, hd, z1, z2, z3, z4, z5, rfl⟩
    simp at hd
    subst hd
    exact ⟨z1, z2, z3, z4, z5, rfl⟩
  · rintro _ ⟨z1, z2, z3, z4, z5, rfl⟩
    simp
end
end Lb

set_option Elab.async false
set_option linter.all false
set_option maxRecDepth 100000
set_option maxHeartbeats 1000000
namespace Lb
open PySem L2 E2
/-! ## inversions, counted row by row -/
def icnt (m : Nat) (p : List Nat) (a : Nat) : Nat := ((List.range' (a + 1) (m - (a + 1))).filter fun b => decide (nx p b < nx p a)).length
def icnts (m : Nat) (p : List Nat) (j : Nat) : Nat := ((List.range j).map (icnt m p)).sum
theorem icnts_succ (m : Nat) (p : List Nat) (j : Nat) : icnts m p (j + 1) = icnts m p j + icnt m p j := by
  unfold icnts
  rw [List.range_succ, List.map_append, List.sum_append]; simp
theorem drop_nx' {m : Nat} {p : List Nat} (hp : p.length = m) (a : Nat) : p.drop a = (List.range' a (m - a)).map (nx p) := by
  apply List.ext_getElem?
  intro i
  rw [List.getElem?_drop]
  by_cases h : a + i < m
  · rw [List.getElem?_map, List.getElem?_range' (by omega)]
    have : p[a + i]? = some (nx p (a + i)) := get_getD (by omega)
    rw [this]; simp
  · rw [List.getElem?_eq_none (by omega), List.getElem?_eq_none (by simp; omega)]
theorem icnt_gt {m : Nat} {p : List Nat} (hp : p.length = m) (a : Nat) : icnt m p a = gt (nx p a) (p.drop (a + 1)) := by
  rw [drop_nx' hp]
  unfold icnt gt
  rw [List.filter_map, List.length_map]; rfl
theorem invs_drop' {m : Nat} {p : List Nat} (hp : p.length = m) : ∀ i, i ≤ m → invs (p.drop (m - i)) = ((List.range' (m - i) i).map (icnt m p)).sum
  | 0, _ => by simp [← hp, invs]
  | i + 1, h => by
    have e : p.drop (m - (i + 1)) = nx p (m - (i + 1)) :: p.drop (m - i) := by
      have h1 : m - (i + 1) < p.length := by omega
      rw [← List.getElem_cons_drop h1, show m - (i + 1) + 1 = m - i by omega]
      congr 1
      exact (nx_get h1).symm
    rw [e, List.range'_succ, List.map_cons, List.sum_cons, invs, invs_drop' hp i (by omega), icnt_gt hp, show m - (i + 1) + 1 = m - i by omega]
theorem icnts_invs {m : Nat} {p : List Nat} (hp : p.length = m) : icnts m p m = invs p := by
  have := invs_drop' hp m (Nat.le_refl m)
  rw [Nat.sub_self, List.drop_zero] at this
  rw [this]
  unfold icnts
  rw [List.range_eq_range']
/-! ## the tiles' due order -/
def dueL (m : Nat) : List Nat := List.range' 1 (m - 1) ++ [0]
theorem dueL_len {m : Nat} (h : 0 < m) : (dueL m).length = m := by simp [dueL]; omega
theorem dueL_nd (m : Nat) : (dueL m).Nodup := by
  unfold dueL
  rw [List.nodup_append]
  refine ⟨List.nodup_range', by simp, fun a ha b hb e => ?_⟩
  have := List.mem_range'_1.mp ha
  have := List.mem_singleton.mp hb
  omega
theorem dueL_mem {m t : Nat} (h : t < m) : t ∈ dueL m := by
  unfold dueL
  rcases Nat.eq_zero_or_pos t with rfl | z
  · simp
  · exact List.mem_append_left _ (List.mem_range'_1.mpr ⟨z, by omega⟩)
theorem dueL_idx {m t : Nat} (h : t < m) : (dueL m).idxOf t = due m t := by
  have h1 : (dueL m)[due m t]? = some t := by
    unfold dueL due
    by_cases z : t = 0
    · subst z
      rw [if_pos rfl, List.getElem?_append_right (by simp)]
      simp
    · rw [if_neg z, List.getElem?_append_left (by simp; omega), List.getElem?_range' (by omega)]
      congr 1; omega
  have h2 := (List.getElem?_eq_some_iff.mp h1)
  obtain ⟨h3, h4⟩ := h2
  have := (dueL_nd m).idxOf_getElem _ h3
  rwa [h4] at this
theorem due_perm {m : Nat} {p : List Nat} (hp : Perm m p) : Perm m (p.map (due m)) := by
  refine ⟨by rw [List.length_map, hp.len], fun x hx => ?_, due_nd hp⟩
  obtain ⟨t, ht, rfl⟩ := List.mem_map.mp hx
  have := hp.lt t ht
  unfold due
  split <;> omega
theorem due_map {m : Nat} {p : List Nat} (hp : Perm m p) : p.map (fun a => (dueL m).idxOf a) = p.map (due m) := List.map_congr_left fun a ha => dueL_idx (hp.lt a ha)
theorem index_ln {xs : List Nat} {k : Nat} (h : k ∈ xs) : methD .index (.list (xs.map dn)) [.int k] = some (false, .int (xs.idxOf k)) := by
  have e := indexD_e k xs 0
  rw [if_pos h] at e
  show (if SeqAt.shaped (.list (xs.map dn)) = true ∧ SeqAt.shaped (dn k) = true then (indexD (dn k) (xs.map dn) 0).map (fun n => (false, PyData.int (n : Nat))) else none) = _
  rw [if_pos ⟨shaped_dnl xs, shaped_dn k⟩]
  have e' : indexD (dn k) (xs.map dn) 0 = some (0 + xs.idxOf k) := e
  rw [e', Nat.zero_add]; rfl
theorem rngD_1 {b : Nat} (h : b ≤ 16777216) : rngD [.int 1, .int b] = some ((List.range' 1 (b - 1)).map dn) := rngD_2 (a := 1) h (by decide)
theorem rngFew_1 {b : Nat} (h : b ≤ 16777216) : rngFew [.int 1, .int b] = true := by
  unfold rngFew
  exact decide_eq_true (by omega)
def eS (s : _root_.Fin 5 × List Nat) : D := .tuple [.str (wd s.1), tn s.2]
section
variable {P : Prg} {kw ke kl g x kb g2 ks ka kt kx k h w : Nat} {p q : List Nat}
theorem steps_okS (B : BxOk P kw ke kl g x kb g2 ks ka kt kx) (b : Bx h w) (hp : Perm (h * w) p) (n : Nat) : run P (n + 2) kt [.val (bx h w), .val (tn p)] = .ok false (.tuple ((stepsL h w p).map eS)) [] := steps_ok B b hp n
theorem lsteps_okS (hk : At P k f__law_steps) (b : Bx h w) (hp : Perm (h * w) p) (n : Nat) : run P (n + 1) k [.val (bx h w), .val (tn p)] = .ok true (.list ((stepsL h w p).map eS)) [] := lsteps_ok hk b hp n
theorem moves_ok (B : BxOk P kw ke kl g x kb g2 ks ka kt kx) (hk : At P k (f_moves ka kt)) (b : Bx h w) (hp : Perm (h * w) p) (n : Nat) : run P (n + 5) k [.val (bx h w), .val (tn p)] = .ok false (.tuple ((stepsL h w p).map eS)) [] := by
  rw [run_at hk]
  refine runF_is rfl rfl ?_
  have f1 := look_st B b hp n
  have f2 := steps_okS B b hp (n + 2)
  simp [startA, b_moves, sig_at B.ha, sig_at B.ht, f1, f2]
theorem moves_bad (B : BxOk P kw ke kl g x kb g2 ks ka kt kx) (hk : At P k (f_moves ka kt)) {a d : D} {n : Nat} (hl : run P (n + 4) ka [.val a, .val d] = .exc ⟨x, []⟩ []) : run P (n + 5) k [.val a, .val d] = .exc ⟨x, []⟩ [] := by
  rw [run_at hk]
  refine runF_raises rfl rfl ?_
  simp [startA, b_moves, sig_at B.ha, hl]
theorem colour_bad {k4 k6 k10 : Nat} (B : BxOk P kw ke kl g x kb g2 ks ka kt kx) (hk : At P k (f_colour ka k4 k6 k10)) {a d : D} {n : Nat} (hl : run P (n + 4) ka [.val a, .val d] = .exc ⟨x, []⟩ []) : run P (n + 5) k [.val a, .val d] = .exc ⟨x, []⟩ [] := by
  rw [run_at hk]
  refine runF_raises rfl rfl ?_
  simp [startA, b_colour, sig_at B.ha, hl]
theorem solved_ok (B : BxOk P kw ke kl g x kb g2 ks ka kt kx) (hk : At P k (f_solved kb x)) (b : Bx h w) (n : Nat) : run P (n + 3) k [.val (bx h w)] = .ok false (tn (dueL (h * w))) [] := by
  rw [run_at hk]
  refine runF_is rfl rfl ?_
  have hw := b.w1
  have hh := b.h1
  have hm := b.m
  have h0 := b.pos
  have e1 : binD .Mult (.int (h : Nat)) (.int (w : Nat)) = some (false, .int (h * w : Nat)) := mul_small ⟨by omega, by have := Nat.le_mul_of_pos_left w (show 0 < h by omega); omega⟩
  have e2 := rngD_1 (b := h * w) (by omega)
  have e3 := rngFew_1 (b := h * w) (by omega)
  have e4 : binD .Add (.tuple ((List.range' 1 (h * w - 1)).map dn)) (.tuple [.int 0]) = some (false, .tuple ((dueL (h * w)).map dn)) := by
    rw [bin_tt (by simp; omega)]
    unfold dueL
    rw [List.map_append]; rfl
  simp only [Int.natCast_mul] at e1 e2 e3
  simp [startA, b_solved, sig_at B.hb, isbox_ok B b n, e1, e2, e3, e4]
theorem made_ok {x2 : Nat} (B : BxOk P kw ke kl g x kb g2 ks ka kt kx) (hk : At P k (f_made ka kt x2)) (hx2 : P.exf[x2]? = some []) (b : Bx h w) (hp : Perm (h * w) p) (ws : List (_root_.Fin 5)) (n : Nat) :
    (∃ q, walkL h w p ws = some q ∧ run P (n + 5) k [.val (bx h w), .val (tn p), .val (.tuple (ws.map fun k => .str (wd k)))] = .ok false (tn q) []) ∨
    (walkL h w p ws = none ∧ run P (n + 5) k [.val (bx h w), .val (tn p), .val (.tuple (ws.map fun k => .str (wd k)))] = .exc ⟨x2, []⟩ []) := by
  rw [run_at hk]
  have h0 : 0 < h * w := by have := b.pos; omega
  have hx' : ∀ c, (P.gs c).exf x2 = some [] := fun c => hx2
  have key : (∃ o d, runF (P.gs (run P (n + 4))) (f_made ka kt x2) [.val (bx h w), .val (tn p), .val (.tuple (ws.map fun k => .str (wd k)))] = .ok o d [] ∧ ∃ q, walkL h w p ws = some q ∧ o = false ∧ d = tn q) ∨ ∃ e, runF (P.gs (run P (n + 4))) (f_made ka kt x2) [.val (bx h w), .val (tn p), .val (.tuple (ws.map fun k => .str (wd k)))] = .exc e [] ∧ walkL h w p ws = none ∧ e = ⟨x2, []⟩ := by
    refine runF_any rfl rfl ?_
    simp [startA, b_made, sig_at B.ha, look_st B b hp n]
    refine cutT (Ih fun r => ∃ q z1 z2 z3 z4, walkL h w p ws = some q ∧ r = [some (.dat false (bx h w)), some (.dat false (tn q)), z1, z2, z3, z4, none]) (for_w (fun k => PyData.str (wd k)) (fun rem => Ih fun r => ∃ q z1 z2 z3, Perm (h * w) q ∧ walkL h w p ws = walkL h w q rem ∧ r = [some (.dat false (bx h w)), some (.dat false (tn q)), z1, z2, z3, none, none]) ?_ ?_ ws _ ⟨p, _, _, _, hp, rfl, rfl⟩) ?_
    · rintro a as _ ⟨q, z1, z2, z3, hq, hwk, rfl⟩
      refine ⟨_, (by simp; rfl), ?_⟩
      have f2 := steps_okS B b hq (n + 2)
      simp
      refine lc_w eS (fun s => decide (s.1 = a)) (fun s => tn s.2) (stepsL h w q) ?_ ?_ ?_ ?_
      · simp [sig_at B.ht, f2]
      · have := steps_few h w q
        omega
      · intro s hs
        refine ⟨_, (by simp [eS]; rfl), ?_⟩
        have := eq_wd s.1 a
        simp [eq_wd]
      · have hgo : goL h w q a = (((stepsL h w q).filter fun s => decide (s.1 = a)).map (·.2)).head? := rfl
        have hmm : ((stepsL h w q).filter fun s => decide (s.1 = a)).map (fun s => tn s.2) = (((stepsL h w q).filter fun s => decide (s.1 = a)).map (·.2)).map tn := by rw [List.map_map]; rfl
        rw [hmm]
        generalize ((stepsL h w q).filter fun s => decide (s.1 = a)).map (·.2) = L at hgo
        rw [walk_cons] at hwk
        cases L with
        | nil =>
          simp at hgo
          rw [hgo] at hwk
          simp [hx']
          exact hwk
        | cons r L =>
          simp at hgo
          have hr := (go_Step hq h0 hgo).perm hq h0
          rw [hgo] at hwk
          have hne : ¬ ((L.length : Int) + 1 = 0) := by omega
          simp [hne]
          exact ⟨r, _, _, _, hr, hwk, rfl⟩
    · rintro r ⟨q, z1, z2, z3, hq, hwk, rfl⟩
      exact ⟨q, _, _, _, _, hwk, rfl⟩
    · rintro _ ⟨q, z1, z2, z3, z4, hwk, rfl⟩
      simp
      exact ⟨q, hwk, rfl⟩
  rcases key with ⟨o, d, e, q, h1, rfl, rfl⟩ | ⟨e, h1, h2, rfl⟩
  · exact .inl ⟨q, h1, e⟩
  · exact .inr ⟨h2, h1⟩
end
end Lb

set_option Elab.async false
set_option linter.all false
set_option maxRecDepth 100000
set_option maxHeartbeats 1000000
namespace Lb
open PySem L2 E2
section
variable {P : Prg} {kw ke kl g x kb g2 ks ka kt kx k h w : Nat} {p q : List Nat}
theorem isway_ok {x2 km : Nat} (B : BxOk P kw ke kl g x kb g2 ks ka kt kx) (hm : At P km (f_made ka kt x2)) (hk : At P k (f_is_way_2 ka km x2)) (hx2 : P.exf[x2]? = some []) (hsub : (P.gs fun _ _ => .stuck).sub x2 x2 = some true) (b : Bx h w) (hp : Perm (h * w) p) (hq : Perm (h * w) q) (ws : List (_root_.Fin 5)) (n : Nat) :
    run P (n + 6) k [.val (bx h w), .val (tn p), .val (tn q), .val (.tuple (ws.map fun k => .str (wd k)))] = .ok false (.bool (decide (walkL h w p ws = some q))) [] := by
  rw [run_at hk]
  refine runF_is rfl rfl ?_
  have hsub' : ∀ c, (P.gs c).sub x2 x2 = some true := fun c => hsub
  rcases made_ok B hm hx2 b hp ws n with ⟨r, h1, h2⟩ | ⟨h1, h2⟩
  · have e := eqD_tt (xs := r) (ys := q)
    have e' : decide (r = q) = decide (walkL h w p ws = some q) := by rw [h1]; simp
    simp [startA, b_is_way_2, sig_at B.ha, sig_at hm, look_st B b hp (n + 1), look_st B b hq (n + 1), h2, e, h1]
  · simp [startA, b_is_way_2, sig_at B.ha, sig_at hm, look_st B b hp (n + 1), look_st B b hq (n + 1), h2, hsub', h1]
theorem isway_bad {x2 km : Nat} (B : BxOk P kw ke kl g x kb g2 ks ka kt kx) (hk : At P k (f_is_way_2 ka km x2)) (b : Bx h w) (hp : Perm (h * w) p) (hq : Perm (h * w) q) {d : D} (hd : isTyD d "tuple" = some false) (n : Nat) :
    run P (n + 6) k [.val (bx h w), .val (tn p), .val (tn q), .val d] = .ok false (.bool false) [] := by
  rw [run_at hk]
  refine runF_is rfl rfl ?_
  simp [startA, b_is_way_2, sig_at B.ha, look_st B b hp (n + 1), look_st B b hq (n + 1), hd]
/-- the colour -/
def colI (h w : Nat) (p : List Nat) : Int := if colN h w p % 2 = 0 then 1 else -1
theorem away_int {h w g : Nat} (hw : 0 < w) (hg : g < h * w) : (h : Int) - 1 - (g : Int) / (w : Int) + (w : Int) - 1 - (g : Int) % (w : Int) = (away h w g : Nat) := by
  have b1 : g / w < h := Nat.div_lt_of_lt_mul (by rw [Nat.mul_comm]; exact hg)
  have b3 := Nat.mod_lt g hw
  unfold away
  rw [← Int.natCast_ediv, ← Int.natCast_emod]
  generalize g / w = a at b1 ⊢
  generalize g % w = c at b3 ⊢
  omega
theorem colour_ok {kr kq ki kz ky : Nat} (B : BxOk P kw ke kl g x kb g2 ks ka kt kx) (hr : At P kr (f_rings kl)) (hq : At P kq (f_swaps_of kr)) (hi : At P ki (f_sign kq)) (hz : At P kz (f_between x)) (hy : At P ky (f_solved kb x)) (hk : At P k (f_colour ka ki kz ky)) (b : Bx h w) (hp : Perm (h * w) p) (n : Nat) :
    run P (n + 7) k [.val (bx h w), .val (tn p)] = .ok false (.int (colI h w p)) [] := by
  rw [run_at hk]
  refine runF_is rfl rfl ?_
  have hw := b.w1
  have hh := b.h1
  have hm := b.m
  have h0 : 0 < h * w := by have := b.pos; omega
  have hg := idx_lt' hp h0
  have hix : methD .index (tn p) [.int 0] = some (false, .int (p.idxOf 0 : Nat)) := index_tn (k := 0) (perm_mem hp h0)
  have e1 : (0 : Int) < w := by omega
  have e2 : (w : Int) < 1073741824 := by have := Nat.le_mul_of_pos_left w (show 0 < h by omega); omega
  have d1 : binD .FloorDiv (.int (p.idxOf 0 : Nat)) (.int (w : Nat)) = some (false, .int ((p.idxOf 0 : Nat) / (w : Nat) : Int)) := bin_div ⟨e1, e2⟩
  have d2 : binD .Mod (.int (p.idxOf 0 : Nat)) (.int (w : Nat)) = some (false, .int ((p.idxOf 0 : Nat) % (w : Nat) : Int)) := bin_mod e1
  have ha := away_int (by omega) hg
  have f1 := solved_ok B hy b (n + 3)
  have f2 := between_ok (α := Nat) (k := kz) hz (n + 5) (A := p) (B := dueL (h * w)) (by decide) hp.nd (dueL_nd _) (fun a ha => dueL_mem (hp.lt a ha)) (by rw [dueL_len h0, hp.len]) (by rw [hp.len]; omega)
  rw [due_map hp] at f2
  have f2 : run P (n + 6) kz [.val (tn p), .val (tn (dueL (h * w)))] = .ok false (tn (p.map (due (h * w)))) [] := f2
  have f3 := sign_ok B.E hr hq hi n (due_perm hp) (by omega)
  have d3 : binD .Mod (.int (away h w (p.idxOf 0) : Nat)) (.int 2) = some (false, .int ((away h w (p.idxOf 0) : Nat) % 2 : Int)) := bin_mod (by decide)
  have hc : colI h w p = (if invs (p.map (due (h * w))) % 2 = 0 then 1 else -1) * (if ((away h w (p.idxOf 0) : Nat) : Int) % 2 = 0 then 1 else -1) := by
    unfold colI colN
    by_cases c1 : invs (p.map (due (h * w))) % 2 = 0 <;> by_cases c2 : ((away h w (p.idxOf 0) : Nat) : Int) % 2 = 0
    · rw [if_pos c1, if_pos c2, if_pos (by omega)]; rfl
    · rw [if_pos c1, if_neg c2, if_neg (by omega)]; rfl
    · rw [if_neg c1, if_pos c2, if_neg (by omega)]; rfl
    · rw [if_neg c1, if_neg c2, if_pos (by omega)]; rfl
  rw [hc]
  have m1 : ∀ i : Int, binD .Mult (.int i) (.int 1) = some (false, .int (i * 1)) := fun i => mul_small (by decide)
  have m2 : ∀ i : Int, binD .Mult (.int i) (.int (-1)) = some (false, .int (i * (-1))) := fun i => mul_small (by decide)
  simp [startA, b_colour, sig_at B.ha, look_st B b hp (n + 2), hix, d1, d2, ha, sig_at hi, sig_at hz, sig_at hy, f1, f2, f3, d3, m1, m2]
  refine ⟨fun z => ?_, fun z => ?_⟩
  · rw [if_pos z]; simp
  · rw [if_neg z]; simp
theorem lcolour_ok (hk : At P k f__law_colour) (b : Bx h w) (hp : Perm (h * w) p) (n : Nat) :
    run P (n + 1) k [.val (bx h w), .val (tn p)] = .ok false (.int (colI h w p)) [] := by
  rw [run_at hk]
  refine runF_is rfl rfl ?_
  have hw := b.w1
  have hh := b.h1
  have hm := b.m
  have h0 : 0 < h * w := by have := b.pos; omega
  have hg := idx_lt' hp h0
  have hix : methD .index (tn p) [.int 0] = some (false, .int (p.idxOf 0 : Nat)) := index_tn (k := 0) (perm_mem hp h0)
  have e1 : (0 : Int) < w := by omega
  have e2 : (w : Int) < 1073741824 := by have := Nat.le_mul_of_pos_left w (show 0 < h by omega); omega
  have d1 : binD .FloorDiv (.int (p.idxOf 0 : Nat)) (.int (w : Nat)) = some (false, .int ((p.idxOf 0 : Nat) / (w : Nat) : Int)) := bin_div ⟨e1, e2⟩
  have d2 : binD .Mod (.int (p.idxOf 0 : Nat)) (.int (w : Nat)) = some (false, .int ((p.idxOf 0 : Nat) % (w : Nat) : Int)) := bin_mod e1
  have ha := away_int (by omega) hg
  have em : binD .Mult (.int (h : Nat)) (.int (w : Nat)) = some (false, .int (h * w : Nat)) := mul_small ⟨by omega, by omega⟩
  have er := rngD_1 (b := h * w) (by omega)
  have erf := rngFew_1 (b := h * w) (by omega)
  have e4 : binD .Add (.list ((List.range' 1 (h * w - 1)).map dn)) (.list [.int 0]) = some (true, .list ((dueL (h * w)).map dn)) := by
    rw [bin_ll (by simp; omega)]
    unfold dueL
    rw [List.map_append]; rfl
  simp only [Int.natCast_mul] at em er erf
  have hP := due_perm hp
  simp [startA, b__law_colour, em, er, erf, e4]
  refine lcN_w dn (fun a => dn (due (h * w) a)) p (by simp) (by rw [hp.len]; omega) ?_ ?_
  · intro a ha
    refine ⟨_, rfl, ?_⟩
    refine ⟨rfl, ?_⟩
    have := index_ln (dueL_mem (hp.lt a ha))
    rw [dueL_idx (hp.lt a ha)] at this
    simp [this]
  · have hrow : (p.map fun a => dn (due (h * w) a)) = (p.map (due (h * w))).map dn := by rw [List.map_map]; rfl
    rw [hrow]
    generalize hR : p.map (due (h * w)) = R at hP
    have hRl := hP.len
    have hlen : (R.map dn).length = h * w := by rw [List.length_map, hRl]
    generalize hM : h * w = m at hP hRl hlen h0
    have hm24 : m ≤ 16777216 := by omega
    simp [hRl, hm24]
    refine cutT (Ih fun r => ∃ z1 z2, r = [some (.dat false (bx h w)), some (.dat false (tn p)), some (.dat false (dn h)), some (.dat false (dn w)), some (.dat true (.list ((dueL m).map dn))), some (.dat true (.list (R.map dn))), none, some (.dat false (dn (icnts m R m))), z1, z2, none, none]) (for_w dn (fun rem => Ih fun r => ∃ j, List.range m = List.range j ++ rem ∧ ∃ z1 z2, r = [some (.dat false (bx h w)), some (.dat false (tn p)), some (.dat false (dn h)), some (.dat false (dn w)), some (.dat true (.list ((dueL m).map dn))), some (.dat true (.list (R.map dn))), none, some (.dat false (dn (icnts m R j))), z1, z2, none, none]) ?_ ?_ _ _ ⟨0, rfl, none, none, rfl⟩) ?_
    · rintro a as _ ⟨j, hj, z1, z2, rfl⟩
      refine ⟨_, rfl, ?_⟩
      have hja : a = j ∧ j < m := by
        have h1 : (List.range m)[j]? = some a := by rw [hj]; simp
        have h2 := (List.getElem?_eq_some_iff.mp h1).1
        rw [List.getElem?_range (by simpa using h2)] at h1
        exact ⟨(Option.some.inj h1).symm, by simpa using h2⟩
      obtain ⟨rfl, hlt⟩ := hja
      have hnext : List.range m = List.range (a + 1) ++ as := by rw [hj, List.range_succ]; simp
      have h1 : R[a]? = some (nx R a) := get_getD (by rw [hRl]; exact hlt)
      have hr := rngD_2s (a := a) (b := m) hm24 (by omega)
      simp
      refine lc_w dn (fun b => decide (nx R b < nx R a)) dn (List.range' (a + 1) (m - (a + 1))) ?_ ?_ ?_ ?_
      · simp [hr, hRl]
      · simp; omega
      · intro b hb
        have hb' : b < m := by have := List.mem_range'_1.mp hb; omega
        have h2 : R[b]? = some (nx R b) := get_getD (by rw [hRl]; exact hb')
        refine ⟨_, (by simp; rfl), ?_⟩
        simp [h1, h2]
      · have h3 : bltD .len [.list (List.map dn (List.filter (fun b => decide (nx R b < nx R a)) (List.range' (a + 1) (m - (a + 1)))))] = some (false, .int (icnt m R a)) := by
          rw [blt_len_list, List.length_map]; rfl
        simp [h3]
        refine ⟨a + 1, hnext, some (.dat false (dn a)), z2, ?_⟩
        rw [icnts_succ]
        simp
    · rintro r ⟨j, hj, z1, z2, rfl⟩
      have : j = m := by have := congrArg List.length hj; simp at this; exact this.symm
      exact ⟨z1, z2, this ▸ rfl⟩
    · rintro _ ⟨z1, z2, rfl⟩
      rw [icnts_invs hRl]
      have d3 : binD .Mod (.int (((invs R : Nat) : Int) + (away h w (p.idxOf 0) : Nat))) (.int 2) = some (false, .int ((((invs R : Nat) : Int) + (away h w (p.idxOf 0) : Nat)) % 2 : Int)) := bin_mod (by decide)
      have hcol : colI h w p = if (((invs R : Nat) : Int) + (away h w (p.idxOf 0) : Nat)) % 2 = 0 then 1 else -1 := by
        unfold colI colN
        rw [hR]
        by_cases c : (((invs R : Nat) : Int) + (away h w (p.idxOf 0) : Nat)) % 2 = 0
        · rw [if_pos c, if_pos (by omega)]
        · rw [if_neg c, if_neg (by omega)]
      rw [hcol]
      simp [hix, d1, d2, ha, d3]
theorem least_ok (B : BxOk P kw ke kl g x kb g2 ks ka kt kx) (hk : At P k (f_least_moves ka)) (b : Bx h w) (hp : Perm (h * w) p) (hq : Perm (h * w) q) (n : Nat) :
    run P (n + 5) k [.val (bx h w), .val (tn p), .val (tn q)] = .ok false (.int (farS w (h * w) p q)) [] := by
  rw [run_at hk]
  refine runF_is rfl rfl ?_
  have hw := b.w1
  have hh := b.h1
  have hm := b.m
  have h0 : 0 < h * w := by have := b.pos; omega
  have e1 : (0 : Int) < w := by omega
  have e2 : (w : Int) < 1073741824 := by have := Nat.le_mul_of_pos_left w (show 0 < h by omega); omega
  have d1 : ∀ a : Nat, binD .FloorDiv (.int (a : Nat)) (.int (w : Nat)) = some (false, .int ((a / w : Nat) : Int)) := fun a => bin_div ⟨e1, e2⟩
  have d2 : ∀ a : Nat, binD .Mod (.int (a : Nat)) (.int (w : Nat)) = some (false, .int ((a % w : Nat) : Int)) := fun a => bin_mod e1
  rw [← farP_sum hp h0]
  simp only [startA, b_least_moves, List.length_cons, List.length_nil, List.map_cons, List.map_nil]
  simp [startA, sig_at B.ha, look_st B b hp n, look_st B b hq n]
  rw [enumT_map]
  refine cutT (Ih fun r => ∃ z1 z2 z3, r = [some (.dat false (bx h w)), some (.dat false (tn p)), some (.dat false (tn q)), some (.dat false (dn w)), some (.dat false (dn (p.zipIdx.map (farP w q)).sum)), z1, z2, z3]) (for_w (fun s : Nat × Nat => PyData.tuple [dn s.2, dn s.1]) (fun rem => Ih fun r => ∃ done, p.zipIdx = done ++ rem ∧ ∃ z1 z2 z3, r = [some (.dat false (bx h w)), some (.dat false (tn p)), some (.dat false (tn q)), some (.dat false (dn w)), some (.dat false (dn (done.map (farP w q)).sum)), z1, z2, z3]) ?_ ?_ _ _ ⟨[], rfl, none, none, none, rfl⟩) ?_
  · rintro ⟨t, i⟩ as _ ⟨done, hd, z1, z2, z3, rfl⟩
    refine ⟨_, (by simp; rfl), ?_⟩
    have ht : t < h * w := hp.lt t (List.fst_mem_of_mem_zipIdx (x := (t, i)) (k := 0) (l := p) (by rw [hd]; simp))
    have hix := index_tn (perm_mem hq ht)
    have hs : ((done ++ [(t, i)]).map (farP w q)).sum = (done.map (farP w q)).sum + farP w q (t, i) := by simp
    have hnext : p.zipIdx = (done ++ [(t, i)]) ++ as := by rw [hd]; simp
    simp
    refine ⟨fun ht0 => ?_, fun ht0 => ?_⟩
    · have hfp : farP w q (t, i) = dst w i (q.idxOf t) := if_neg ht0
      simp [hix, d1, d2]
      refine ⟨done ++ [(t, i)], hnext, some (.dat false (dn i)), some (.dat false (dn t)), some (.dat false (dn (q.idxOf t))), ?_⟩
      rw [hs, hfp]
      unfold dst
      simp
    · refine ⟨done ++ [(t, i)], hnext, some (.dat false (dn i)), some (.dat false (dn t)), z3, ?_⟩
      have hfp : farP w q (t, i) = 0 := if_pos ht0
      rw [hs, hfp]
      simp
  · rintro r ⟨done, hd, z1, z2, z3, rfl⟩
    simp at hd
    subst hd
    exact ⟨z1, z2, z3, rfl⟩
  · rintro _ ⟨z1, z2, z3, rfl⟩
    simp
theorem badS_ok {kf : Nat} (hk : At P k (f__law_bad_2 x)) (hsub : (P.gs fun _ _ => .stuck).sub x x = some true) (n : Nat) {a d : D} (hs : ∀ c, (P.gs c).sig kf = [false, false]) (hc : run P (n + 1) kf [.val a, .val d] = .exc ⟨x, []⟩ []) : run P (n + 2) k [.fn kf, .val a, .val d] = .ok false (.bool true) [] := by
  rw [run_at hk]
  refine runF_is rfl rfl ?_
  have hsub' : ∀ c, (P.gs c).sub x x = some true := fun c => hsub
  simp [startA, b__law_bad_2, hs, hc, hsub']
end
end Lb

set_option Elab.async false
set_option linter.all false
set_option maxRecDepth 100000
set_option maxHeartbeats 1000000
namespace Lb
open PySem L2 E2
theorem okD_tns {xs : List Nat} (h : xs.length ≤ 16777216) : okD 1 (tn xs) = true := by
  simp only [okD, Bool.and_eq_true, decide_eq_true_eq, List.all_eq_true, List.length_map]
  exact ⟨h, fun x hx => by obtain ⟨k, _, rfl⟩ := List.mem_map.mp hx; rfl⟩
theorem perm_of_maps {v : Nat} {ys : List D} (h : ys.Perm ((List.range v).map dn)) : ∃ p, ys = p.map dn ∧ Perm v p := by
  have h1 : ∃ p : List Nat, ys = p.map dn := by
    have : ∀ l : List D, (∀ y ∈ l, ∃ k : Nat, y = dn k) → ∃ p : List Nat, l = p.map dn := fun l => by
      induction l with
      | nil => exact fun _ => ⟨[], rfl⟩
      | cons y l ih =>
        intro hy
        obtain ⟨k, rfl⟩ := hy y List.mem_cons_self
        obtain ⟨p, rfl⟩ := ih fun z hz => hy z (List.mem_cons_of_mem _ hz)
        exact ⟨k :: p, rfl⟩
    refine this ys fun y hy => ?_
    obtain ⟨k, _, rfl⟩ := List.mem_map.mp (h.mem_iff.mp hy)
    exact ⟨k, rfl⟩
  obtain ⟨p, rfl⟩ := h1
  have hl : p.length = v := by simpa using h.length_eq
  have h2 : p.Perm (List.range v) := by
    have h3 := h.map (fun d : D => match d with | .int i => i.toNat | _ => 0)
    rw [List.map_map, List.map_map] at h3
    have e : ∀ l : List Nat, l.map ((fun d : D => match d with | .int i => i.toNat | _ => 0) ∘ dn) = l := fun l => by
      induction l with
      | nil => rfl
      | cons a l ih => rw [List.map_cons, ih]; rfl
    rwa [e, e] at h3
  exact ⟨p, rfl, hl, fun x hx => List.mem_range.mp (h2.mem_iff.mp hx), h2.nodup_iff.mpr List.nodup_range⟩
theorem okD_steps {h w : Nat} {p : List Nat} (hl : p.length ≤ 16777216) : okD 3 (.tuple ((stepsL h w p).map eS)) = true := by
  have h1 := steps_few h w p
  simp only [okD, Bool.and_eq_true, decide_eq_true_eq, List.all_eq_true, List.length_map]
  refine ⟨by omega, fun d hd => ?_⟩
  obtain ⟨s, hs, rfl⟩ := List.mem_map.mp hd
  obtain ⟨dd, _, rfl⟩ := List.mem_map.mp hs
  unfold eS
  simp only [okD, Bool.and_eq_true, decide_eq_true_eq, List.all_eq_true, List.mem_cons, List.not_mem_nil, or_false, List.length_cons, List.length_nil]
  refine ⟨by omega, ?_⟩
  have h2 : ∀ a : _root_.Fin 5, (PyData.str (wd a)).canLay0 = true := fun a => (okP_can (wd_ok a)).1
  rintro x (rfl | rfl)
  · simp only [okD]
    exact h2 dd.1
  · simp only [okD, Bool.and_eq_true, decide_eq_true_eq, List.all_eq_true, List.length_map]
    exact ⟨by rw [sw_len]; exact hl, fun x hx => by obtain ⟨k, _, rfl⟩ := List.mem_map.mp hx; rfl⟩
/-! ## what is no state -/
theorem exB_ints {xs : List Nat} (h : exB (tn xs)) : Perm xs.length xs := (exB_perm h).1
theorem nd_map (xs : List Nat) : (xs.map dn).all notDict = true := by simp [notDict]
def badStates (m : Nat) (p : List Nat) : List D := [.none, .list (p.map dn), tn p.tail, tn (p.tail ++ [m]), .tuple ((p.map dn).take (m - 1) ++ [.bool true]), tn (List.replicate m 0)]
theorem badStates_bad {m : Nat} {p : List Nat} (hp : Perm m p) (h2 : 2 ≤ m) (hm : m ≤ 64) : ∀ d ∈ badStates m p, BadSt m d := by
  have hl := hp.len
  intro d hd
  unfold badStates at hd
  rw [← List.map_take] at hd
  simp only [List.mem_cons, List.not_mem_nil, or_false] at hd
  rcases hd with rfl | rfl | rfl | rfl | rfl | rfl
  · exact ⟨rfl, fun _ e => (by cases e), fun e => e.elim⟩
  · exact ⟨rfl, fun _ e => (by cases e), fun e => e.elim⟩
  · refine ⟨rfl, fun _ e => ?_, fun _ _ e => ?_⟩ <;> cases e
    · exact ⟨nd_map _, by simp; omega⟩
    · simp; omega
  · refine ⟨rfl, fun _ e => ?_, fun hx _ _ => ?_⟩
    · cases e
      exact ⟨nd_map _, by simp; omega⟩
    · have := exB_ints hx
      have h3 := this.lt m (by simp)
      simp at h3
      omega
  · refine ⟨rfl, fun _ e => ?_, fun hx _ _ => ?_⟩
    · cases e
      refine ⟨by rw [List.all_append, nd_map]; rfl, by simp; omega⟩
    · obtain ⟨_, xs, h3, _⟩ := hx
      have h4 : PyData.bool true ∈ xs.map PyData.int := by rw [← h3]; simp
      obtain ⟨i, _, h5⟩ := List.mem_map.mp h4
      cases h5
  · refine ⟨rfl, fun _ e => ?_, fun hx _ _ => ?_⟩
    · cases e
      exact ⟨nd_map _, by simp; omega⟩
    · have := (exB_ints hx).nd
      rw [List.nodup_replicate] at this
      omega
section
variable {P : Prg} {kw ke kl g x kb g2 ks ka kt kx k h w : Nat} {p q : List Nat}
theorem isst_nobox (B : BxOk P kw ke kl g x kb g2 ks ka kt kx) {a d : D} {n : Nat} (hb : run P (n + 2) kb [.val a] = .ok false (.bool false) []) : run P (n + 3) ks [.val a, .val d] = .ok false (.bool false) [] := by
  rw [run_at B.hs]
  refine runF_is rfl rfl ?_
  simp [startA, b_is_state_2, sig_at B.hb, hb]
theorem look_nobox (B : BxOk P kw ke kl g x kb g2 ks ka kt kx) {a d : D} {n : Nat} (hb : run P (n + 2) kb [.val a] = .ok false (.bool false) []) : run P (n + 4) ka [.val a, .val d] = .exc ⟨x, []⟩ [] := by
  rw [run_at B.ha]
  refine runF_raises rfl rfl ?_
  have hx' : ∀ c, (P.gs c).exf x = some [] := fun c => B.E.hx
  simp [startA, b_look_at_state, sig_at B.hs, isst_nobox B hb, hx']
end
end Lb

set_option Elab.async false
set_option linter.all false
set_option maxRecDepth 100000
set_option maxHeartbeats 1000000
namespace Lb
open PySem L2 E2
/- law_k05: a0 = _law_draws, a1 = _law_draw, a2 = _law_shuffled, a3 = solved, a4 = is_state, a5 = is_box, a6 = _law_steps, a7 = _law_same, a8 = _law_colour, a9 = colour, a10 = moves, a11 = is_way, a12 = made, a13 = least_moves, a14 = _law_bad, x0 = BadMove -/
def b_law_k05 (a0 a1 a2 a3 a4 a5 a6 a7 a8 a9 a10 a11 a12 a13 a14 x0 : Nat) : CSs :=
  (.cons (.set 1 (.call a0 (.cons (.var 0) .nil)))
  (.cons (.for (.nm 2) (.rng (.cons (.cst (.int 5)) .nil)) (
   (.cons (.set 3 (.tup (.cons (.bin .Add (.cst (.int 1)) (.call a1 (.cons (.var 1) (.cons (.cst (.int 3)) .nil)))) (.cons (.bin .Add (.cst (.int 2)) (.call a1 (.cons (.var 1) (.cons (.cst (.int 3)) .nil)))) .nil))))
   (.cons (.set 4 (.bin .Mult (.idx (.var 3) (.cst (.int 0))) (.idx (.var 3) (.cst (.int 1)))))
   (.cons (.set 5 (.call a2 (.cons (.var 1) (.cons (.rng false (.cons (.var 4) .nil)) .nil))))
   (.cons (.ite (.or (.ex (.cmp .IsNot (.call a5 (.cons (.var 3) .nil)) (.cst (.bool true)))) (.or (.ex (.cmp .IsNot (.call a4 (.cons (.var 3) (.cons (.var 5) .nil))) (.cst (.bool true)))) (.ex (.cmp .NotEq (.call a3 (.cons (.var 3) .nil)) (.bin .Add (.rng true (.cons (.cst (.int 1)) (.cons (.var 4) .nil))) (.tup (.cons (.cst (.int 0)) .nil))))))) (
    (.cons (.ret (.cst (.bool false))) .nil)) (.nil))
   (.cons (.set 6 (.call a6 (.cons (.var 3) (.cons (.var 5) .nil))))
   (.cons (.ite (.or (.not (.ex (.call a7 (.cons (.call a10 (.cons (.var 3) (.cons (.var 5) .nil))) (.cons (.blt .tuple (.cons (.var 6) .nil)) .nil))))) (.not (.ex (.call a7 (.cons (.call a9 (.cons (.var 3) (.cons (.var 5) .nil))) (.cons (.call a8 (.cons (.var 3) (.cons (.var 5) .nil))) .nil)))))) (
    (.cons (.ret (.cst (.bool false))) .nil)) (.nil))
   (.cons (.par [7, 8] (.cons (.var 5) (.cons (.tup .nil) .nil)))
   (.cons (.for (.nm 9) (.rng (.cons (.call a1 (.cons (.var 1) (.cons (.cst (.int 12)) .nil))) .nil)) (
    (.cons (.asg (.tup (.cons (.nm 10) (.cons (.nm 11) .nil))) (.idx (.call a6 (.cons (.var 3) (.cons (.var 7) .nil))) (.call a1 (.cons (.var 1) (.cons (.blt .len (.cons (.call a6 (.cons (.var 3) (.cons (.var 7) .nil))) .nil)) .nil)))))
    (.cons (.par [7, 8] (.cons (.var 11) (.cons (.bin .Add (.var 8) (.tup (.cons (.var 10) .nil))) .nil))) .nil))))
   (.cons (.ite (.or (.ex (.cmp .NotEq (.call a12 (.cons (.var 3) (.cons (.var 5) (.cons (.var 8) .nil)))) (.var 7))) (.or (.ex (.cmp .NotEq (.call a9 (.cons (.var 3) (.cons (.var 7) .nil))) (.call a9 (.cons (.var 3) (.cons (.var 5) .nil))))) (.ex (.cmp .IsNot (.call a11 (.cons (.var 3) (.cons (.var 5) (.cons (.var 7) (.cons (.var 8) .nil))))) (.cst (.bool true)))))) (
    (.cons (.ret (.cst (.bool false))) .nil)) (.nil))
   (.cons (.set 12 (.blt .tuple (.cons (.lc [(Str.ofString "k", 13)] (.nm 13) (.rng (.cons (.call a1 (.cons (.var 1) (.cons (.cst (.int 5)) .nil))) .nil)) .non (.idx (.lst (.cons (.cst (.str (Str.ofString "down"))) (.cons (.cst (.str (Str.ofString "left"))) (.cons (.cst (.str (Str.ofString "right"))) (.cons (.cst (.str (Str.ofString "up"))) (.cons (.cst (.str (Str.ofString "go"))) .nil)))))) (.call a1 (.cons (.var 1) (.cons (.cst (.int 5)) .nil))))) .nil)))
   (.cons (.set 14 (.var 5))
   (.cons (.for (.nm 10) (.seq (.var 12)) (
    (.cons (.set 15 (.ife (.ex (.cmp .Is (.var 14) (.cst .none))) (.lst .nil) (.lc [(Str.ofString "own", 16), (Str.ofString "there", 11)] (.tup [(.nm 16), (.nm 11)]) (.seq (.call a6 (.cons (.var 3) (.cons (.var 14) .nil)))) (.som (.ex (.cmp .Eq (.var 16) (.var 10)))) (.var 11))))
    (.cons (.set 14 (.ife (.ex (.cmp .NotEq (.var 15) (.lst .nil))) (.idx (.var 15) (.cst (.int 0))) (.cst .none))) .nil))))
   (.cons (.try_ (
    (.cons (.ite (.ex (.cmp .NotEq (.call a12 (.cons (.var 3) (.cons (.var 5) (.cons (.var 12) .nil)))) (.var 14))) (
     (.cons (.ret (.cst (.bool false))) .nil)) (.nil)) .nil)) (.cons x0 none (
    (.cons (.ite (.ex (.cmp .IsNot (.var 14) (.cst .none))) (
     (.cons (.ret (.cst (.bool false))) .nil)) (.nil)) .nil)) .nil))
   (.cons (.set 17 (.ife (.and (.ex (.cmp .IsNot (.var 14) (.cst .none))) (.ex (.cmp .Eq (.call a1 (.cons (.var 1) (.cons (.cst (.int 2)) .nil))) (.cst (.int 0))))) (.var 14) (.var 7)))
   (.cons (.ite (.not (.ex (.call a7 (.cons (.call a11 (.cons (.var 3) (.cons (.var 5) (.cons (.var 17) (.cons (.var 12) .nil))))) (.cons (.cmp .Eq (.var 14) (.var 17)) .nil))))) (
    (.cons (.ret (.cst (.bool false))) .nil)) (.nil))
   (.cons (.set 18 (.cst (.int 0)))
   (.cons (.for (.nm 19) (.rng (.cons (.cst (.int 1)) (.cons (.var 4) .nil))) (
    (.cons (.par [20, 21] (.cons (.meth .index (.var 5) (.cons (.var 19) .nil)) (.cons (.meth .index (.var 7) (.cons (.var 19) .nil)) .nil)))
    (.cons (.set 18 (.bin .Add (.bin .Add (.var 18) (.blt .abs (.cons (.bin .Sub (.blt .int (.cons (.bin .FloorDiv (.var 20) (.idx (.var 3) (.cst (.int 1)))) .nil)) (.blt .int (.cons (.bin .FloorDiv (.var 21) (.idx (.var 3) (.cst (.int 1)))) .nil))) .nil))) (.blt .abs (.cons (.bin .Sub (.bin .Mod (.blt .int (.cons (.var 20) .nil)) (.idx (.var 3) (.cst (.int 1)))) (.bin .Mod (.blt .int (.cons (.var 21) .nil)) (.idx (.var 3) (.cst (.int 1))))) .nil)))) .nil))))
   (.cons (.ite (.or (.not (.ex (.call a7 (.cons (.call a13 (.cons (.var 3) (.cons (.var 5) (.cons (.var 7) .nil)))) (.cons (.var 18) .nil))))) (.ex (.cmp .Gt (.var 18) (.blt .len (.cons (.var 8) .nil))))) (
    (.cons (.ret (.cst (.bool false))) .nil)) (.nil))
   (.cons (.for (.nm 22) (.seq (.lst (.cons (.cst .none) (.cons (.blt .list (.cons (.var 5) .nil)) (.cons (.sli (.var 5) (.som (.cst (.int 1))) .non) (.cons (.bin .Add (.sli (.var 5) (.som (.cst (.int 1))) .non) (.tup (.cons (.var 4) .nil))) (.cons (.bin .Add (.sli (.var 5) .non (.som (.bin .Sub (.var 4) (.cst (.int 1))))) (.tup (.cons (.cst (.bool true)) .nil))) (.cons (.bin .Mult (.tup (.cons (.cst (.int 0)) .nil)) (.var 4)) .nil)))))))) (
    (.cons (.ite (.or (.ex (.cmp .IsNot (.call a4 (.cons (.var 3) (.cons (.var 22) .nil))) (.cst (.bool false)))) (.or (.not (.ex (.call a14 (.cons (.fnv a10) (.cons (.var 3) (.cons (.var 22) .nil)))))) (.not (.ex (.call a14 (.cons (.fnv a9) (.cons (.var 3) (.cons (.var 22) .nil)))))))) (
     (.cons (.ret (.cst (.bool false))) .nil)) (.nil)) .nil)))
   (.cons (.for (.nm 22) (.seq (.lst (.cons (.cst .none) (.cons (.tup (.cons (.cst (.int 1)) (.cons (.cst (.int 1)) .nil))) (.cons (.tup (.cons (.cst (.int 0)) (.cons (.cst (.int 4)) .nil))) (.cons (.tup (.cons (.cst (.int 7)) (.cons (.cst (.int 6)) .nil))) (.cons (.lst (.cons (.cst (.int 2)) (.cons (.cst (.int 2)) .nil))) (.cons (.tup (.cons (.cst (.int 2)) .nil)) (.cons (.tup (.cons (.cst (.bool true)) (.cons (.cst (.int 4)) .nil))) (.cons (.tup (.cons (.cst (.str (Str.ofString "2"))) (.cons (.cst (.int 2)) .nil))) .nil)))))))))) (
    (.cons (.ite (.or (.ex (.cmp .IsNot (.call a5 (.cons (.var 22) .nil)) (.cst (.bool false)))) (.or (.ex (.cmp .IsNot (.call a4 (.cons (.var 22) (.cons (.var 5) .nil))) (.cst (.bool false)))) (.not (.ex (.call a14 (.cons (.fnv a10) (.cons (.var 22) (.cons (.var 5) .nil)))))))) (
     (.cons (.ret (.cst (.bool false))) .nil)) (.nil)) .nil)))
   (.cons (.for (.nm 22) (.seq (.lst (.cons (.cst .none) (.cons (.cst (.str (Str.ofString "up"))) (.cons (.lst (.cons (.cst (.str (Str.ofString "up"))) .nil)) (.cons (.cst (.int 0)) .nil)))))) (
    (.cons (.ite (.ex (.cmp .IsNot (.call a11 (.cons (.var 3) (.cons (.var 5) (.cons (.var 7) (.cons (.var 22) .nil))))) (.cst (.bool false)))) (
     (.cons (.ret (.cst (.bool false))) .nil)) (.nil)) .nil))) .nil)))))))))))))))))))))))
  (.cons (.ret (.cst (.bool true))) .nil)))
def n_law_k05 : List Str := [Str.ofString "script", Str.ofString "draws", Str.ofString "turn", Str.ofString "box", Str.ofString "size", Str.ofString "state", Str.ofString "steps_v", Str.ofString "here", Str.ofString "names", Str.ofString "more", Str.ofString "name", Str.ofString "there", Str.ofString "drawn", Str.ofString "k", Str.ofString "end", Str.ofString "ends", Str.ofString "own", Str.ofString "goal", Str.ofString "far", Str.ofString "tile", Str.ofString "a", Str.ofString "b", Str.ofString "bad"]
abbrev f_law_k05 (a0 a1 a2 a3 a4 a5 a6 a7 a8 a9 a10 a11 a12 a13 a14 x0 : Nat) : Fn := ⟨23, [false], b_law_k05 a0 a1 a2 a3 a4 a5 a6 a7 a8 a9 a10 a11 a12 a13 a14 x0⟩

end Lb
namespace P05
open PySem L2 E2 Lb
def prg : Prg := ⟨[f_is_whole,
  (f_is_exchange 0 0),
  (f_look_at_exchange 1 1),
  (f_rings 2),
  (f_sign 5),
  (f_swaps_of 3),
  (f_between 1),
  (f_is_box 0 1),
  (f_is_state_2 1 7),
  (f_look_at_state 8 1),
  (f_solved 7 1),
  (f_moves 9 12),
  (f_steps_2 13),
  f_swapped,
  (f_made 9 12 2),
  (f_is_way_2 9 14 2),
  (f_colour 9 4 6 10),
  (f_least_moves 9),
  f__law_draws,
  f__law_draw,
  (f__law_same 20),
  (f__law_shuffled 19),
  f__law_steps,
  f__law_colour,
  (f__law_bad_2 1),
  (f_law_k05 18 19 21 10 8 7 22 20 23 16 11 15 14 17 24 2)],
  [(.int 64), (.int 36)],
  [[], [], []],
  [[0], [1, 0], [2, 0]]⟩
-- 0 is_whole
-- 1 is_exchange
-- 2 look_at_exchange
-- 3 rings
-- 4 sign
-- 5 swaps_of
-- 6 between
-- 7 is_box
-- 8 is_state_2
-- 9 look_at_state
-- 10 solved
-- 11 moves
-- 12 steps_2
-- 13 swapped
-- 14 made
-- 15 is_way_2
-- 16 colour
-- 17 least_moves
-- 18 _law_draws
-- 19 _law_draw
-- 20 _law_same
-- 21 _law_shuffled
-- 22 _law_steps
-- 23 _law_colour
-- 24 _law_bad_2
-- 25 law_k05
-- errors 0 PuzzleError 1 BadState 2 BadMove
-- constants 0 MOST_PLACES_exchanges 1 MOST_PLACES_boxes
theorem BX : BxOk prg 0 1 2 0 1 7 1 8 9 12 13 := ⟨⟨rfl, rfl, rfl, rfl, rfl⟩, rfl, rfl, rfl, rfl, rfl, rfl⟩
theorem sames {d : D} {m : Nat} (n : Nat) (h : okD m d = true) (hm : m ≤ 10) : run prg (n + 19) 20 [.val d, .val d] = .ok false (.bool true) [] := by
  have := same_ok (P := prg) (k := 20) rfl m d (n + 18 - m) h
  rw [show n + 18 - m + m + 1 = n + 19 by omega] at this
  exact this
def badBoxes : List D := [.none, .tuple [.int 1, .int 1], .tuple [.int 0, .int 4], .tuple [.int 7, .int 6], .list [.int 2, .int 2], .tuple [.int 2], .tuple [.bool true, .int 4], .tuple [.str (Str.ofString "2"), .int 2]]
theorem badBoxes_bad (n : Nat) : ∀ d ∈ badBoxes, run prg (n + 2) 7 [.val d] = .ok false (.bool false) [] := by
  intro d hd
  unfold badBoxes at hd
  simp only [List.mem_cons, List.not_mem_nil, or_false] at hd
  rcases hd with rfl | rfl | rfl | rfl | rfl | rfl | rfl | rfl <;> rfl
end P05

set_option Elab.async false
set_option linter.all false
set_option maxRecDepth 100000
set_option maxHeartbeats 4000000
namespace P05
open PySem L2 E2 Lb
abbrev lawB : CSs := b_law_k05 18 19 21 10 8 7 22 20 23 16 11 15 14 17 24 2
def loopBody : CSs → CSs
  | .cons _ (.cons (.for _ _ b) _) => b
  | _ => .nil
def TI (s : Option Sv) (r : En) : Prop := ∃ d j2 j3 j4 j5 j6 j7 j8 j9 j10 j11 j12 j13 j14 j15 j16 j17 j18 j19 j20 j21 j22, Dr d ∧ r = [s, some (.dat true (d)), j2, j3, j4, j5, j6, j7, j8, j9, j10, j11, j12, j13, j14, j15, j16, j17, j18, j19, j20, j21, j22]
abbrev Good1 : Pt := RetP fun o d => o = false ∧ d = .bool true
theorem le_ok {h w : Nat} (b : Bx h w) : h ≤ 36 ∧ w ≤ 36 := by
  have h1 := b.m
  have h2 := Nat.le_mul_of_pos_right h (show 0 < w by have := b.w1; omega)
  have h3 := Nat.le_mul_of_pos_left w (show 0 < h by have := b.h1; omega)
  omega
theorem eq_none {xs : List Nat} : eqD .none (tn xs) = some false := by
  have e1 := shaped_dns xs
  have e2 : SeqAt.shaped PyData.none = true := by decide
  show (if SeqAt.shaped PyData.none = true ∧ SeqAt.shaped (.tuple (xs.map dn)) = true then some (PyData.eqv .none (.tuple (xs.map dn))) else none) = _
  rw [if_pos ⟨e2, e1⟩]
  simp [PyData.eqv]
theorem nil_eq (L : List (List Nat)) : eqD (.list (L.map tn)) (.list []) = some (decide (L = [])) := eqD_l (α := List Nat) (by decide) L []
def optD : Option (List Nat) → D
  | some q => tn q
  | none => .none
def ends (h w : Nat) (q : List Nat) (a : _root_.Fin 5) : List (List Nat) := ((stepsL h w q).filter fun s => decide (s.1 = a)).map (·.2)
theorem ends_D (h w : Nat) (q : List Nat) (a : _root_.Fin 5) : ((stepsL h w q).filter fun s => decide (s.1 = a)).map (fun s => tn s.2) = (ends h w q a).map tn := by unfold ends; rw [List.map_map]; rfl

theorem turn_ok (n : Nat) (s : Option Sv) (r : En) (h : TI s r) : (evSs (prg.gs (run prg (n + 19))) (loopBody lawB) r).w ⟨TI s, Good1.rt, Good1.ex, fun _ => False, TI s⟩ := by
  obtain ⟨d, j2, j3, j4, j5, j6, j7, j8, j9, j10, j11, j12, j13, j14, j15, j16, j17, j18, j19, j20, j21, j22, hd, rfl⟩ := h
  have s4 := @sig_at prg 4 _ rfl
  have s7 := @sig_at prg 7 _ rfl
  have s8 := @sig_at prg 8 _ rfl
  have s9 := @sig_at prg 9 _ rfl
  have s10 := @sig_at prg 10 _ rfl
  have s11 := @sig_at prg 11 _ rfl
  have s12 := @sig_at prg 12 _ rfl
  have s14 := @sig_at prg 14 _ rfl
  have s15 := @sig_at prg 15 _ rfl
  have s16 := @sig_at prg 16 _ rfl
  have s17 := @sig_at prg 17 _ rfl
  have s19 := @sig_at prg 19 _ rfl
  have s20 := @sig_at prg 20 _ rfl
  have s21 := @sig_at prg 21 _ rfl
  have s22 := @sig_at prg 22 _ rfl
  have s23 := @sig_at prg 23 _ rfl
  have s24 := @sig_at prg 24 _ rfl
  obtain ⟨v1, d1, e1, hv1, hd1⟩ := draw_ok (P := prg) (k := 19) (n := n + 18) rfl (l := 3) hd (by decide) (by decide)
  obtain ⟨v2, d2, e2, hv2, hd2⟩ := draw_ok (P := prg) (k := 19) (n := n + 18) rfl (l := 3) hd1 (by decide) (by decide)
  have e1 : run prg (n + 19) 19 [.rf d, .val (.int 3)] = .ok false (.int v1) [d1] := e1
  have e2 : run prg (n + 19) 19 [.rf d1, .val (.int 3)] = .ok false (.int v2) [d2] := e2
  obtain ⟨h, hh⟩ : ∃ h : Nat, h = 1 + v1 := ⟨_, rfl⟩
  obtain ⟨w, hw⟩ : ∃ w : Nat, w = 2 + v2 := ⟨_, rfl⟩
  have eh : (1 : Int) + (v1 : Int) = (h : Int) := by omega
  have ew : (2 : Int) + (v2 : Int) = (w : Int) := by omega
  have b : Bx h w := ⟨by omega, by omega, Nat.le_trans (Nat.mul_le_mul (show h ≤ 3 by omega) (show w ≤ 4 by omega)) (by decide)⟩
  obtain ⟨m, hm⟩ : ∃ m, m = h * w := ⟨_, rfl⟩
  have hm2 : 2 ≤ m := by rw [hm]; exact b.pos
  have hm36 : m ≤ 36 := by rw [hm]; exact b.m
  have hm24 : m ≤ 16777216 := by omega
  have em : binD .Mult (.int (h : Nat)) (.int (w : Nat)) = some (false, .int (m : Nat)) := by
    rw [mul_small ⟨by omega, by omega⟩, hm]; simp
  obtain ⟨ys, d3, e3, hp, hd3⟩ := shuffled_okL (P := prg) (k := 21) (kd := 19) (n := n + 17) rfl rfl (xs := (List.range m).map dn) hd2 (by simp; omega)
  obtain ⟨p, rfl, hP⟩ := perm_of_maps hp
  clear hp
  have e3 : run prg (n + 19) 21 [.rf d2, .val (.list ((List.range m).map dn))] = .ok false (tn p) [d3] := e3
  have hPb : Perm (h * w) p := hm ▸ hP
  have h0 : 0 < h * w := by omega
  have pl : p.length = m := hP.len
  refine cutS (fun r => r = [s, some (.dat true (d2)), j2, some (.dat false (bx h w)), j4, j5, j6, j7, j8, j9, j10, j11, j12, j13, j14, j15, j16, j17, j18, j19, j20, j21, j22]) (by
    simp [s19, e1, e2, eh, ew]) ?_
  rintro _ rfl
  refine cutS (fun r => r = [s, some (.dat true (d2)), j2, some (.dat false (bx h w)), some (.dat false (dn m)), j5, j6, j7, j8, j9, j10, j11, j12, j13, j14, j15, j16, j17, j18, j19, j20, j21, j22]) (by
    simp [em]) ?_
  rintro _ rfl
  refine cutS (fun r => r = [s, some (.dat true (d3)), j2, some (.dat false (bx h w)), some (.dat false (dn m)), some (.dat false (tn p)), j6, j7, j8, j9, j10, j11, j12, j13, j14, j15, j16, j17, j18, j19, j20, j21, j22]) (by
    simp [s21, e3, hm24]) ?_
  rintro _ rfl
  have f7 : run prg (n + 19) 7 [.val (bx h w)] = .ok false (.bool true) [] := isbox_ok BX b (n + 17)
  have f8 : run prg (n + 19) 8 [.val (bx h w), .val (tn p)] = .ok false (.bool true) [] := isst_ok BX b hPb (n + 16)
  have f10 : run prg (n + 19) 10 [.val (bx h w)] = .ok false (tn (dueL m)) [] := by
    rw [hm]
    exact solved_ok BX (k := 10) rfl b (n + 16)
  have er := rngD_1 (b := m) hm24
  have erf := rngFew_1 (b := m) hm24
  have edu : binD .Add (.tuple ((List.range' 1 (m - 1)).map dn)) (.tuple [.int 0]) = some (false, tn (dueL m)) := by
    rw [bin_tt (by simp; omega)]
    unfold dueL tn
    rw [List.map_append]; rfl
  refine cutS (fun r => r = [s, some (.dat true (d3)), j2, some (.dat false (bx h w)), some (.dat false (dn m)), some (.dat false (tn p)), j6, j7, j8, j9, j10, j11, j12, j13, j14, j15, j16, j17, j18, j19, j20, j21, j22]) (by
    simp [s7, s8, s10, f7, f8, f10, er, erf, edu]) ?_
  rintro _ rfl
  have lst : ∀ q, Perm (h * w) q → run prg (n + 19) 22 [.val (bx h w), .val (tn q)] = .ok true (.list ((stepsL h w q).map eS)) [] := fun q hq => lsteps_okS (P := prg) (k := 22) rfl b hq (n + 18)
  have f22 := lst p hPb
  refine cutS (fun r => r = [s, some (.dat true (d3)), j2, some (.dat false (bx h w)), some (.dat false (dn m)), some (.dat false (tn p)), some (.dat true (.list ((stepsL h w p).map eS))), j7, j8, j9, j10, j11, j12, j13, j14, j15, j16, j17, j18, j19, j20, j21, j22]) (by
    simp [s22, f22]) ?_
  rintro _ rfl
  have f11 : run prg (n + 19) 11 [.val (bx h w), .val (tn p)] = .ok false (.tuple ((stepsL h w p).map eS)) [] := moves_ok BX (k := 11) rfl b hPb (n + 14)
  have col : ∀ q, Perm (h * w) q → run prg (n + 19) 16 [.val (bx h w), .val (tn q)] = .ok false (.int (colI h w q)) [] := fun q hq => colour_ok BX (kr := 3) (kq := 5) (ki := 4) (kz := 6) (ky := 10) (k := 16) rfl rfl rfl rfl rfl rfl b hq (n + 12)
  have f16 := col p hPb
  have f23 : run prg (n + 19) 23 [.val (bx h w), .val (tn p)] = .ok false (.int (colI h w p)) [] := lcolour_ok (P := prg) (k := 23) rfl b hPb (n + 18)
  have f20a := sames n (okD_steps (h := h) (w := w) (p := p) (by omega)) (by decide)
  have f20b := sames (d := .int (colI h w p)) (m := 0) n rfl (by decide)
  refine cutS (fun r => r = [s, some (.dat true (d3)), j2, some (.dat false (bx h w)), some (.dat false (dn m)), some (.dat false (tn p)), some (.dat true (.list ((stepsL h w p).map eS))), j7, j8, j9, j10, j11, j12, j13, j14, j15, j16, j17, j18, j19, j20, j21, j22]) (by
    simp [s11, s16, s20, s23, f11, f16, f20a, f20b, f23]) ?_
  rintro _ rfl
  refine cutS (fun r => r = [s, some (.dat true (d3)), j2, some (.dat false (bx h w)), some (.dat false (dn m)), some (.dat false (tn p)), some (.dat true (.list ((stepsL h w p).map eS))), some (.dat false (tn p)), some (.dat false (.tuple [])), j9, j10, j11, j12, j13, j14, j15, j16, j17, j18, j19, j20, j21, j22]) (by
    simp []) ?_
  rintro _ rfl
  obtain ⟨c, d4, e4, hc, hd4⟩ := draw_ok (P := prg) (k := 19) (n := n + 18) rfl (l := 12) hd3 (by decide) (by decide)
  have e4 : run prg (n + 19) 19 [.rf d3, .val (.int 12)] = .ok false (.int c) [d4] := e4
  have hc24 : c ≤ 16777216 := by omega
  refine cutS (Ih fun r => ∃ dk q ws k9 k10 k11, Dr dk ∧ walkL h w p ws = some q ∧ ws.length = c ∧ r = [s, some (.dat true (dk)), j2, some (.dat false (bx h w)), some (.dat false (dn m)), some (.dat false (tn p)), some (.dat true (.list ((stepsL h w p).map eS))), some (.dat false (tn q)), some (.dat false ((.tuple (ws.map fun k => PyData.str (wd k))))), k9, k10, k11, j12, j13, j14, j15, j16, j17, j18, j19, j20, j21, j22]) (by
    simp [s19, e4, hc24]
    refine for_w dn (fun rem => Ih fun r => ∃ dk q ws k9 k10 k11, Dr dk ∧ walkL h w p ws = some q ∧ ws.length + rem.length = c ∧ r = [s, some (.dat true (dk)), j2, some (.dat false (bx h w)), some (.dat false (dn m)), some (.dat false (tn p)), some (.dat true (.list ((stepsL h w p).map eS))), some (.dat false (tn q)), some (.dat false ((.tuple (ws.map fun k => PyData.str (wd k))))), k9, k10, k11, j12, j13, j14, j15, j16, j17, j18, j19, j20, j21, j22]) ?_ ?_ _ _ ⟨d4, p, [], j9, j10, j11, hd4, rfl, by simp, rfl⟩
    · rintro a as _ ⟨dk, q, ws, k9, k10, k11, hdk, hwk, hlen, rfl⟩
      refine ⟨_, rfl, ?_⟩
      have hq := (go_keeps hPb h0 hwk).1
      have fl := lst q hq
      have hpos := steps_pos hq h0 b.w1
      have hfew := steps_few h w q
      obtain ⟨v, dk1, ev, hv, hdk1⟩ := draw_ok (P := prg) (k := 19) (n := n + 18) rfl (l := (stepsL h w q).length) hdk hpos (by omega)
      have ev : run prg (n + 19) 19 [.rf dk, .val (.int (stepsL h w q).length)] = .ok false (.int v) [dk1] := ev
      have hsv : (stepsL h w q)[v]? = some (stepsL h w q)[v] := List.getElem?_eq_getElem hv
      have hgo := go_mem (List.getElem_mem hv)
      generalize (stepsL h w q)[v] = st at hsv hgo
      have hadd : binD .Add (.tuple (ws.map fun k => PyData.str (wd k))) (.tuple [.str (wd st.1)]) = some (false, .tuple ((ws ++ [st.1]).map fun k => PyData.str (wd k))) := by
        rw [bin_tt (by simp at hlen ⊢; omega), List.map_append]; rfl
      simp [s22, fl, s19, ev, hsv, eS, hadd]
      refine ⟨dk1, st.2, ws ++ [st.1], some (.dat false (dn a)), some (.dat false (.str (wd st.1))), some (.dat false (tn st.2)), hdk1, ?_, ?_, ?_⟩
      · rw [walk_snoc, hwk]; exact hgo
      · simp at hlen ⊢; omega
      · simp
    · rintro r ⟨dk, q, ws, k9, k10, k11, hdk, hwk, hlen, rfl⟩
      exact ⟨dk, q, ws, k9, k10, k11, hdk, hwk, by simp at hlen; omega, rfl⟩) ?_
  rintro _ ⟨dk, q, ws, k9, k10, k11, hdk, hwk, hwl, rfl⟩
  obtain ⟨hQb, hcol, hfar⟩ := go_keeps hPb h0 hwk
  have hQ : Perm m q := hm ▸ hQb
  have f14 : run prg (n + 19) 14 [.val (bx h w), .val (tn p), .val (.tuple (ws.map fun k => PyData.str (wd k)))] = .ok false (tn q) [] := by
    rcases made_ok BX (k := 14) (x2 := 2) rfl rfl b hPb ws (n + 14) with ⟨r, g1, g2⟩ | ⟨g1, g2⟩
    · rw [hwk] at g1
      cases g1
      exact g2
    · rw [hwk] at g1; cases g1
  have way : ∀ q us, Perm (h * w) q → run prg (n + 19) 15 [.val (bx h w), .val (tn p), .val (tn q), .val (.tuple (us.map fun k => PyData.str (wd k)))] = .ok false (.bool (decide (walkL h w p us = some q))) [] := fun q us hq => isway_ok BX (km := 14) (k := 15) (x2 := 2) rfl rfl rfl rfl b hPb hq us (n + 13)
  have f15 := way q ws hQb
  rw [decide_eq_true hwk] at f15
  have f16q := col q hQb
  have hcI : colI h w q = colI h w p := by unfold colI; rw [hcol]
  rw [hcI] at f16q
  have eqq := eqD_tt (xs := q) (ys := q)
  simp only [decide_true] at eqq
  refine cutS (fun r => r = [s, some (.dat true (dk)), j2, some (.dat false (bx h w)), some (.dat false (dn m)), some (.dat false (tn p)), some (.dat true (.list ((stepsL h w p).map eS))), some (.dat false (tn q)), some (.dat false ((.tuple (ws.map fun k => PyData.str (wd k))))), k9, k10, k11, j12, j13, j14, j15, j16, j17, j18, j19, j20, j21, j22]) (by
    simp [s14, s15, s16, f14, f15, f16, f16q, eqq]) ?_
  rintro _ rfl
  obtain ⟨c2, d5, e5, hc2, hd5⟩ := draw_ok (P := prg) (k := 19) (n := n + 18) rfl (l := 5) hdk (by decide) (by decide)
  have e5 : run prg (n + 19) 19 [.rf dk, .val (.int 5)] = .ok false (.int c2) [d5] := e5
  have hc224 : c2 ≤ 16777216 := by omega
  refine cutS (Ih fun r => ∃ (dl : D) (us : List (_root_.Fin 5)), Dr dl ∧ us.length ≤ c2 ∧ r = [s, some (.dat true (dl)), j2, some (.dat false (bx h w)), some (.dat false (dn m)), some (.dat false (tn p)), some (.dat true (.list ((stepsL h w p).map eS))), some (.dat false (tn q)), some (.dat false ((.tuple (ws.map fun k => PyData.str (wd k))))), k9, k10, k11, some (.dat false ((.tuple (us.map fun k => PyData.str (wd k))))), j13, j14, j15, j16, j17, j18, j19, j20, j21, j22]) (by
    simp
    refine lcI_w [s, some (.dat true (d5)), j2, some (.dat false (bx h w)), some (.dat false (dn m)), some (.dat false (tn p)), some (.dat true (.list ((stepsL h w p).map eS))), some (.dat false (tn q)), some (.dat false ((.tuple (ws.map fun k => PyData.str (wd k))))), k9, k10, k11, j12, j13, j14, j15, j16, j17, j18, j19, j20, j21, j22] dn (List.range c2) (fun acc rem r => ∃ (dl : D) (us : List (_root_.Fin 5)) (z : Option Sv), Dr dl ∧ us.length + rem.length = c2 ∧ acc = us.map (fun k => PyData.str (wd k)) ∧ r = [s, some (.dat true (dl)), j2, some (.dat false (bx h w)), some (.dat false (dn m)), some (.dat false (tn p)), some (.dat true (.list ((stepsL h w p).map eS))), some (.dat false (tn q)), some (.dat false ((.tuple (ws.map fun k => PyData.str (wd k))))), k9, k10, k11, j12, z, j14, j15, j16, j17, j18, j19, j20, j21, j22]) (by simp [s19, e5, hc224]) (by simpa using hc224) ⟨d5, [], j13, hd5, by simp, rfl, rfl⟩ ?_ ?_
    · rintro a rem acc r ⟨dl, us, z, hdl, hul, rfl, rfl⟩
      obtain ⟨v, dl1, ev, hv, hdl1⟩ := draw_ok (P := prg) (k := 19) (n := n + 18) rfl (l := 5) hdl (by decide) (by decide)
      have ev : run prg (n + 19) 19 [.rf dl, .val (.int 5)] = .ok false (.int v) [dl1] := ev
      have hwd : ([PyData.str (Str.ofString "down"), .str (Str.ofString "left"), .str (Str.ofString "right"), .str (Str.ofString "up"), .str (Str.ofString "go")] : List D)[v]? = some (.str (wd ⟨v, hv⟩)) := by
        rcases (show v = 0 ∨ v = 1 ∨ v = 2 ∨ v = 3 ∨ v = 4 by omega) with rfl | rfl | rfl | rfl | rfl <;> rfl
      refine ⟨_, rfl, ?_⟩
      simp [s19, ev, hwd]
      exact ⟨_, _, ⟨rfl, rfl⟩, dl1, hdl1, us ++ [⟨v, hv⟩], by simp at hul ⊢; omega, by simp, _, rfl⟩
    · rintro ys r ⟨dl, us, z, hdl, hul, rfl, rfl⟩
      have hul : us.length = c2 := by simpa using hul
      simp
      exact ⟨dl, us, hdl, by omega, rfl⟩) ?_
  rintro _ ⟨dl, us, hdl, hul, rfl⟩
  refine cutS (fun r => r = [s, some (.dat true (dl)), j2, some (.dat false (bx h w)), some (.dat false (dn m)), some (.dat false (tn p)), some (.dat true (.list ((stepsL h w p).map eS))), some (.dat false (tn q)), some (.dat false ((.tuple (ws.map fun k => PyData.str (wd k))))), k9, k10, k11, some (.dat false ((.tuple (us.map fun k => PyData.str (wd k))))), j13, some (.dat false (tn p)), j15, j16, j17, j18, j19, j20, j21, j22]) (by
    simp []) ?_
  rintro _ rfl
  refine cutS (Ih fun r => ∃ k10 k15, r = [s, some (.dat true (dl)), j2, some (.dat false (bx h w)), some (.dat false (dn m)), some (.dat false (tn p)), some (.dat true (.list ((stepsL h w p).map eS))), some (.dat false (tn q)), some (.dat false ((.tuple (ws.map fun k => PyData.str (wd k))))), k9, k10, k11, some (.dat false ((.tuple (us.map fun k => PyData.str (wd k))))), j13, some (.dat false (optD (walkL h w p us))), k15, j16, j17, j18, j19, j20, j21, j22]) (by
    simp
    refine for_w (fun k => PyData.str (wd k)) (fun rem => Ih fun r => ∃ ud k10 k15, us = ud ++ rem ∧ r = [s, some (.dat true (dl)), j2, some (.dat false (bx h w)), some (.dat false (dn m)), some (.dat false (tn p)), some (.dat true (.list ((stepsL h w p).map eS))), some (.dat false (tn q)), some (.dat false ((.tuple (ws.map fun k => PyData.str (wd k))))), k9, k10, k11, some (.dat false ((.tuple (us.map fun k => PyData.str (wd k))))), j13, some (.dat false (optD (walkL h w p ud))), k15, j16, j17, j18, j19, j20, j21, j22]) ?_ ?_ _ _ ⟨[], k10, j15, rfl, rfl⟩
    · rintro a as _ ⟨ud, k10, k15, hu, rfl⟩
      refine ⟨_, (by simp; rfl), ?_⟩
      have hnx : walkL h w p (ud ++ [a]) = (walkL h w p ud).bind fun q => goL h w q a := walk_snoc h w p a ud
      have hu2 : us = (ud ++ [a]) ++ as := by rw [hu]; simp
      cases hwd : walkL h w p ud with
      | none =>
        have hz : walkL h w p (ud ++ [a]) = none := by rw [hnx, hwd]; rfl
        have en : eqD (.list []) (.list []) = some true := nil_eq []
        simp [optD, is_nn, en]
        exact ⟨ud ++ [a], some (.dat false (.str (wd a))), some (.dat true (.list [])), hu2, by rw [hz]⟩
      | some q1 =>
        have hq1 := (go_keeps hPb h0 hwd).1
        have fl := lst q1 hq1
        have hit : isD (tn q1) .none = some false := rfl
        simp [optD, hit]
        refine lc_w eS (fun s => decide (s.1 = a)) (fun s => tn s.2) (stepsL h w q1) ?_ ?_ ?_ ?_
        · simp [s22, fl]
        · have := steps_few h w q1
          omega
        · intro st hst
          refine ⟨_, (by simp [eS]; rfl), ?_⟩
          simp [eq_wd]
        · rw [ends_D]
          have hgo : goL h w q1 a = (ends h w q1 a).head? := rfl
          rw [hwd, Option.bind_some, hgo] at hnx
          have en := nil_eq (ends h w q1 a)
          generalize ends h w q1 a = L at hnx en
          cases L with
          | nil =>
            simp at en
            simp [en]
            exact ⟨ud ++ [a], some (.dat false (.str (wd a))), some (.dat true (.list [])), hu2, by rw [hnx]; rfl⟩
          | cons q2 L =>
            simp at en
            simp [en]
            exact ⟨ud ++ [a], some (.dat false (.str (wd a))), some (.dat true (.list (tn q2 :: L.map tn))), hu2, by rw [hnx]; rfl⟩
    · rintro r ⟨ud, k10, k15, hu, rfl⟩
      have : us = ud := by simpa using hu
      exact ⟨k10, k15, this ▸ rfl⟩) ?_
  rintro _ ⟨k10, k15, rfl⟩
  have hUb : ∀ q, walkL h w p us = some q → Perm (h * w) q := fun q hq => (go_keeps hPb h0 hq).1
  refine cutS (fun r => r = [s, some (.dat true (dl)), j2, some (.dat false (bx h w)), some (.dat false (dn m)), some (.dat false (tn p)), some (.dat true (.list ((stepsL h w p).map eS))), some (.dat false (tn q)), some (.dat false ((.tuple (ws.map fun k => PyData.str (wd k))))), k9, k10, k11, some (.dat false ((.tuple (us.map fun k => PyData.str (wd k))))), j13, some (.dat false (optD (walkL h w p us))), k15, j16, j17, j18, j19, j20, j21, j22]) (by
    rcases made_ok BX (k := 14) (x2 := 2) rfl rfl b hPb us (n + 14) with ⟨q1, g1, g2⟩ | ⟨g1, g2⟩
    · have g2 : run prg (n + 19) 14 _ = _ := g2
      have eq1 := eqD_tt (xs := q1) (ys := q1)
      simp only [decide_true] at eq1
      rw [g1]
      simp [optD, s14, g2, eq1]
    · have g2 : run prg (n + 19) 14 _ = _ := g2
      have hsub : ∀ c, (prg.gs c).sub 2 2 = some true := fun c => rfl
      rw [g1]
      simp [optD, s14, g2, hsub, is_nn]) ?_
  rintro _ rfl
  refine cutS (Ih fun r => ∃ dm qg, Dr dm ∧ Perm (h * w) qg ∧ r = [s, some (.dat true (dm)), j2, some (.dat false (bx h w)), some (.dat false (dn m)), some (.dat false (tn p)), some (.dat true (.list ((stepsL h w p).map eS))), some (.dat false (tn q)), some (.dat false ((.tuple (ws.map fun k => PyData.str (wd k))))), k9, k10, k11, some (.dat false ((.tuple (us.map fun k => PyData.str (wd k))))), j13, some (.dat false (optD (walkL h w p us))), k15, j16, some (.dat false (tn qg)), j18, j19, j20, j21, j22]) (by
    obtain ⟨v, dm, ev, hv, hdm⟩ := draw_ok (P := prg) (k := 19) (n := n + 18) rfl (l := 2) hdl (by decide) (by decide)
    have ev : run prg (n + 19) 19 [.rf dl, .val (.int 2)] = .ok false (.int v) [dm] := ev
    cases hwd : walkL h w p us with
    | none =>
      simp [optD, is_nn]
      exact ⟨dl, q, hdl, hQb, rfl⟩
    | some q1 =>
      have hit : isD (tn q1) .none = some false := rfl
      simp [optD, hit, s19, ev]
      exact ⟨fun _ => ⟨dm, q1, hdm, hUb q1 hwd, rfl⟩, fun _ => ⟨dm, q, hdm, hQb, rfl⟩⟩) ?_
  rintro _ ⟨dm, qg, hdm, hG, rfl⟩
  refine cutS (fun r => r = [s, some (.dat true (dm)), j2, some (.dat false (bx h w)), some (.dat false (dn m)), some (.dat false (tn p)), some (.dat true (.list ((stepsL h w p).map eS))), some (.dat false (tn q)), some (.dat false ((.tuple (ws.map fun k => PyData.str (wd k))))), k9, k10, k11, some (.dat false ((.tuple (us.map fun k => PyData.str (wd k))))), j13, some (.dat false (optD (walkL h w p us))), k15, j16, some (.dat false (tn qg)), j18, j19, j20, j21, j22]) (by
    have fw := way qg us hG
    cases hwd : walkL h w p us with
    | none =>
      rw [hwd] at fw
      have hd : decide ((none : Option (List Nat)) = some qg) = false := rfl
      rw [hd] at fw
      have en := eq_none (xs := qg)
      have fs := sames (d := .bool false) (m := 0) n rfl (by decide)
      simp [optD, s15, s20, fw, en, fs]
    | some q1 =>
      rw [hwd] at fw
      have hd : decide (some q1 = some qg) = decide (q1 = qg) := by simp
      rw [hd] at fw
      have en := eqD_tt (xs := q1) (ys := qg)
      have fs := sames (d := .bool (decide (q1 = qg))) (m := 0) n rfl (by decide)
      simp [optD, s15, s20, fw, en, fs]) ?_
  rintro _ rfl
  refine cutS (fun r => r = [s, some (.dat true (dm)), j2, some (.dat false (bx h w)), some (.dat false (dn m)), some (.dat false (tn p)), some (.dat true (.list ((stepsL h w p).map eS))), some (.dat false (tn q)), some (.dat false ((.tuple (ws.map fun k => PyData.str (wd k))))), k9, k10, k11, some (.dat false ((.tuple (us.map fun k => PyData.str (wd k))))), j13, some (.dat false (optD (walkL h w p us))), k15, j16, some (.dat false (tn qg)), some (.dat false (.int 0)), j19, j20, j21, j22]) (by
    simp []) ?_
  rintro _ rfl
  have hw36 := (le_ok b).2
  have c1 : (0 : Int) < w := by have := b.w1; omega
  have c2' : (w : Int) < 1073741824 := by omega
  have d1' : ∀ a : Nat, binD .FloorDiv (.int (a : Nat)) (.int (w : Nat)) = some (false, .int ((a / w : Nat) : Int)) := fun a => bin_div ⟨c1, c2'⟩
  have d2' : ∀ a : Nat, binD .Mod (.int (a : Nat)) (.int (w : Nat)) = some (false, .int ((a % w : Nat) : Int)) := fun a => bin_mod c1
  refine cutS (Ih fun r => ∃ k19 k20 k21, r = [s, some (.dat true (dm)), j2, some (.dat false (bx h w)), some (.dat false (dn m)), some (.dat false (tn p)), some (.dat true (.list ((stepsL h w p).map eS))), some (.dat false (tn q)), some (.dat false ((.tuple (ws.map fun k => PyData.str (wd k))))), k9, k10, k11, some (.dat false ((.tuple (us.map fun k => PyData.str (wd k))))), j13, some (.dat false (optD (walkL h w p us))), k15, j16, some (.dat false (tn qg)), some (.dat false (dn (farS w m p q))), k19, k20, k21, j22]) (by
    simp [er]
    refine for_w dn (fun rem => Ih fun r => ∃ td k19 k20 k21, List.range' 1 (m - 1) = td ++ rem ∧ r = [s, some (.dat true (dm)), j2, some (.dat false (bx h w)), some (.dat false (dn m)), some (.dat false (tn p)), some (.dat true (.list ((stepsL h w p).map eS))), some (.dat false (tn q)), some (.dat false ((.tuple (ws.map fun k => PyData.str (wd k))))), k9, k10, k11, some (.dat false ((.tuple (us.map fun k => PyData.str (wd k))))), j13, some (.dat false (optD (walkL h w p us))), k15, j16, some (.dat false (tn qg)), some (.dat false (dn ((td.map fun t => dst w (p.idxOf t) (q.idxOf t)).sum))), k19, k20, k21, j22]) ?_ ?_ _ _ ⟨[], j19, j20, j21, rfl, rfl⟩
    · rintro a as _ ⟨td, k19, k20, k21, ht, rfl⟩
      refine ⟨_, (by simp; rfl), ?_⟩
      have ha : a < m := by
        have : a ∈ List.range' 1 (m - 1) := by rw [ht]; simp
        have := List.mem_range'_1.mp this
        omega
      have i1 := index_tn (perm_mem hP ha)
      have i2 := index_tn (perm_mem hQ ha)
      simp [i1, i2, d1', d2']
      refine ⟨td ++ [a], some (.dat false (dn a)), some (.dat false (dn (p.idxOf a))), some (.dat false (dn (q.idxOf a))), by rw [ht]; simp, ?_⟩
      simp [dst, Int.add_assoc]
    · rintro r ⟨td, k19, k20, k21, ht, rfl⟩
      have : td = List.range' 1 (m - 1) := by simpa using ht.symm
      subst this
      exact ⟨k19, k20, k21, rfl⟩) ?_
  rintro _ ⟨k19, k20, k21, rfl⟩
  have f17 : run prg (n + 19) 17 [.val (bx h w), .val (tn p), .val (tn q)] = .ok false (.int (farS w m p q)) [] := by
    rw [hm]
    exact least_ok BX (k := 17) rfl b hPb hQb (n + 14)
  have f20c := sames (d := .int (farS w m p q)) (m := 0) n rfl (by decide)
  have hfl : farS w m p q ≤ ws.length := by
    have h1 := hfar p
    rw [← hm, far_self] at h1
    omega
  have hfl' : ¬ ((ws.length : Nat) : Int) < ((farS w m p q : Nat) : Int) := by omega
  refine cutS (fun r => r = [s, some (.dat true (dm)), j2, some (.dat false (bx h w)), some (.dat false (dn m)), some (.dat false (tn p)), some (.dat true (.list ((stepsL h w p).map eS))), some (.dat false (tn q)), some (.dat false ((.tuple (ws.map fun k => PyData.str (wd k))))), k9, k10, k11, some (.dat false ((.tuple (us.map fun k => PyData.str (wd k))))), j13, some (.dat false (optD (walkL h w p us))), k15, j16, some (.dat false (tn qg)), some (.dat false (dn (farS w m p q))), k19, k20, k21, j22]) (by
    simp [s17, s20, f17, f20c]
    omega) ?_
  rintro _ rfl
  
  have hsl : sliD (tn p) (some 1) none = some (false, tn p.tail) := by
    show some (false, PyData.tuple (cutD (p.map dn) (some 1) none)) = _
    unfold cutD HT.sIx
    simp only [List.length_map, pl]
    rw [if_neg (by omega), show min (Int.toNat 1) m = 1 by omega, List.take_of_length_le (by simp; omega), ← List.map_drop, List.drop_one]
  have hsl2 : sliD (tn p) none (some ((m : Int) - 1)) = some (false, tn (p.take (m - 1))) := by
    show some (false, PyData.tuple (cutD (p.map dn) none (some ((m : Int) - 1)))) = _
    unfold cutD HT.sIx
    simp only [List.length_map, pl]
    rw [if_neg (by omega), show min (Int.toNat ((m : Int) - 1)) m = m - 1 by omega, List.drop_zero, Nat.sub_zero, ← List.map_take]
  have ha1 : binD .Add (tn (p.tail)) (.tuple [.int m]) = some (false, tn (p.tail ++ [m])) := by
    rw [bin_tt (by simp; omega)]
    show some (false, PyData.tuple ((p.tail).map dn ++ [dn m])) = some (false, PyData.tuple ((p.tail ++ [m]).map dn))
    rw [List.map_append]; rfl
  have ha2 : binD .Add (tn (p.take (m - 1))) (.tuple [.bool true]) = some (false, .tuple ((p.map dn).take (m - 1) ++ [.bool true])) := by
    rw [← List.map_take]
    exact bin_tt (by simp; omega)
  have ha3 : binD .Mult (.tuple [.int 0]) (.int m) = some (false, tn (List.replicate m 0)) := by
    have e : (List.replicate m [PyData.int 0]).flatten = (List.replicate m 0).map dn := by simp
    show (if _ then some (false, PyData.tuple (List.replicate ((m : Int)).toNat [PyData.int 0]).flatten) else none) = _
    rw [if_pos ⟨by simp, by omega, by omega, by simp⟩, Int.toNat_natCast, e]
  have bst := badStates_bad hP hm2 (by omega)
  refine cutS (Ih fun r => ∃ k22, r = [s, some (.dat true (dm)), j2, some (.dat false (bx h w)), some (.dat false (dn m)), some (.dat false (tn p)), some (.dat true (.list ((stepsL h w p).map eS))), some (.dat false (tn q)), some (.dat false ((.tuple (ws.map fun k => PyData.str (wd k))))), k9, k10, k11, some (.dat false ((.tuple (us.map fun k => PyData.str (wd k))))), j13, some (.dat false (optD (walkL h w p us))), k15, j16, some (.dat false (tn qg)), some (.dat false (dn (farS w m p q))), k19, k20, k21, k22]) (by
    simp [hsl, hsl2, ha1, ha2, ha3]
    refine forD_w (fun rem => Ih fun r => (∀ d ∈ rem, BadSt m d) ∧ ∃ k22, r = [s, some (.dat true (dm)), j2, some (.dat false (bx h w)), some (.dat false (dn m)), some (.dat false (tn p)), some (.dat true (.list ((stepsL h w p).map eS))), some (.dat false (tn q)), some (.dat false ((.tuple (ws.map fun k => PyData.str (wd k))))), k9, k10, k11, some (.dat false ((.tuple (us.map fun k => PyData.str (wd k))))), j13, some (.dat false (optD (walkL h w p us))), k15, j16, some (.dat false (tn qg)), some (.dat false (dn (farS w m p q))), k19, k20, k21, k22]) ?_ ?_ (badStates m p) _ ⟨bst, j22, rfl⟩
    · rintro a as _ ⟨hb, k22, rfl⟩
      refine ⟨_, (by simp; rfl), ?_⟩
      have ha := hb a List.mem_cons_self
      rw [hm] at ha
      have g8 : run prg (n + 19) 8 [.val (bx h w), .val a] = .ok false (.bool false) [] := isst_bad BX b ha (n + 16)
      have g11 : run prg (n + 18) 11 [.val (bx h w), .val a] = .exc ⟨1, []⟩ [] := moves_bad BX (k := 11) rfl (look_stbad BX b ha (n + 13))
      have g16 : run prg (n + 18) 16 [.val (bx h w), .val a] = .exc ⟨1, []⟩ [] := colour_bad BX (k := 16) rfl (look_stbad BX b ha (n + 13))
      have g24a : run prg (n + 19) 24 [.fn 11, .val (bx h w), .val a] = .ok false (.bool true) [] := badS_ok (P := prg) (x := 1) (k := 24) (kf := 11) rfl rfl (n + 17) (fun c => rfl) g11
      have g24b : run prg (n + 19) 24 [.fn 16, .val (bx h w), .val a] = .ok false (.bool true) [] := badS_ok (P := prg) (x := 1) (k := 24) (kf := 16) rfl rfl (n + 17) (fun c => rfl) g16
      simp [s8, s24, g8, g24a, g24b]
      exact ⟨fun d hd => hb d (List.mem_cons_of_mem _ hd), some (.dat false a), rfl⟩
    · rintro r ⟨_, k22, rfl⟩
      exact ⟨k22, rfl⟩) ?_
  rintro _ ⟨k22, rfl⟩
  refine cutS (Ih fun r => ∃ l22, r = [s, some (.dat true (dm)), j2, some (.dat false (bx h w)), some (.dat false (dn m)), some (.dat false (tn p)), some (.dat true (.list ((stepsL h w p).map eS))), some (.dat false (tn q)), some (.dat false ((.tuple (ws.map fun k => PyData.str (wd k))))), k9, k10, k11, some (.dat false ((.tuple (us.map fun k => PyData.str (wd k))))), j13, some (.dat false (optD (walkL h w p us))), k15, j16, some (.dat false (tn qg)), some (.dat false (dn (farS w m p q))), k19, k20, k21, l22]) (by
    simp
    refine forD_w (fun rem => Ih fun r => (∀ d ∈ rem, run prg (n + 13 + 2) 7 [.val d] = .ok false (.bool false) [] ∧ run prg (n + 16 + 2) 7 [.val d] = .ok false (.bool false) [] ∧ run prg (n + 17 + 2) 7 [.val d] = .ok false (.bool false) []) ∧ ∃ l22, r = [s, some (.dat true (dm)), j2, some (.dat false (bx h w)), some (.dat false (dn m)), some (.dat false (tn p)), some (.dat true (.list ((stepsL h w p).map eS))), some (.dat false (tn q)), some (.dat false ((.tuple (ws.map fun k => PyData.str (wd k))))), k9, k10, k11, some (.dat false ((.tuple (us.map fun k => PyData.str (wd k))))), j13, some (.dat false (optD (walkL h w p us))), k15, j16, some (.dat false (tn qg)), some (.dat false (dn (farS w m p q))), k19, k20, k21, l22]) ?_ ?_ badBoxes _ ⟨fun d hd => ⟨badBoxes_bad (n + 13) d hd, badBoxes_bad (n + 16) d hd, badBoxes_bad (n + 17) d hd⟩, k22, rfl⟩
    · rintro a as _ ⟨hb, l22, rfl⟩
      refine ⟨_, (by simp; rfl), ?_⟩
      obtain ⟨ha, ha2, ha3⟩ := hb a List.mem_cons_self
      have g7 : run prg (n + 19) 7 [.val a] = .ok false (.bool false) [] := ha3
      have g8 : run prg (n + 19) 8 [.val a, .val (tn p)] = .ok false (.bool false) [] := isst_nobox BX (n := n + 16) ha2
      have g11 : run prg (n + 18) 11 [.val a, .val (tn p)] = .exc ⟨1, []⟩ [] := moves_bad BX (k := 11) rfl (look_nobox BX (n := n + 13) ha)
      have g24a : run prg (n + 19) 24 [.fn 11, .val a, .val (tn p)] = .ok false (.bool true) [] := badS_ok (P := prg) (x := 1) (k := 24) (kf := 11) rfl rfl (n + 17) (fun c => rfl) g11
      simp [s7, s8, s24, g7, g8, g24a]
      exact ⟨fun d hd => hb d (List.mem_cons_of_mem _ hd), some (.dat false a), rfl⟩
    · rintro r ⟨_, l22, rfl⟩
      exact ⟨l22, rfl⟩) ?_
  rintro _ ⟨l22, rfl⟩
  have bw : ∀ d, isTyD d "tuple" = some false → run prg (n + 19) 15 [.val (bx h w), .val (tn p), .val (tn q), .val d] = .ok false (.bool false) [] := fun d hd => isway_bad BX (km := 14) (k := 15) (x2 := 2) rfl b hPb hQb hd (n + 13)
  refine cutS (Ih fun r => ∃ m22, r = [s, some (.dat true (dm)), j2, some (.dat false (bx h w)), some (.dat false (dn m)), some (.dat false (tn p)), some (.dat true (.list ((stepsL h w p).map eS))), some (.dat false (tn q)), some (.dat false ((.tuple (ws.map fun k => PyData.str (wd k))))), k9, k10, k11, some (.dat false ((.tuple (us.map fun k => PyData.str (wd k))))), j13, some (.dat false (optD (walkL h w p us))), k15, j16, some (.dat false (tn qg)), some (.dat false (dn (farS w m p q))), k19, k20, k21, m22]) (by
    simp
    refine forD_w (fun rem => Ih fun r => (∀ d ∈ rem, isTyD d "tuple" = some false) ∧ ∃ m22, r = [s, some (.dat true (dm)), j2, some (.dat false (bx h w)), some (.dat false (dn m)), some (.dat false (tn p)), some (.dat true (.list ((stepsL h w p).map eS))), some (.dat false (tn q)), some (.dat false ((.tuple (ws.map fun k => PyData.str (wd k))))), k9, k10, k11, some (.dat false ((.tuple (us.map fun k => PyData.str (wd k))))), j13, some (.dat false (optD (walkL h w p us))), k15, j16, some (.dat false (tn qg)), some (.dat false (dn (farS w m p q))), k19, k20, k21, m22]) ?_ ?_ [.none, .str (Str.ofString "up"), .list [.str (Str.ofString "up")], .int 0] _ ⟨(by simp), l22, rfl⟩
    · rintro a as _ ⟨hb, m22, rfl⟩
      refine ⟨_, (by simp; rfl), ?_⟩
      have g15 := bw a (hb a List.mem_cons_self)
      simp [s15, g15]
      exact ⟨fun d hd => hb d (List.mem_cons_of_mem _ hd), some (.dat false a), rfl⟩
    · rintro r ⟨_, m22, rfl⟩
      exact ⟨m22, rfl⟩) ?_
  rintro _ ⟨m22, rfl⟩
  simp
  exact ⟨dm, j2, _, _, _, _, _, _, _, _, _, _, _, _, _, _, _, _, _, _, _, _, hdm, rfl⟩
end P05

set_option Elab.async false
set_option linter.all false
set_option maxRecDepth 100000
set_option maxHeartbeats 4000000
namespace P05
open PySem L2 E2 Lb
theorem law_n (n : Nat) (ns : List Int) : ∃ o, run prg (n + 20) 25 [.val (.list (ns.map .int))] = .ok o (.bool true) [] := by
  refine ⟨false, ?_⟩
  rw [show n + 20 = (n + 19) + 1 from rfl, run_at (P := prg) (k := 25) (f := f_law_k05 18 19 21 10 8 7 22 20 23 16 11 15 14 17 24 2) rfl]
  refine runF_is rfl rfl ?_
  obtain ⟨hD, e0⟩ := draws_ok (P := prg) (k := 18) (n := n + 18) rfl ns
  have e0 : run prg (n + 19) 18 [.val (.list (ns.map .int))] = .ok true (.list [.list (ns.map .int), .int 0, .int 0, .int 1]) [] := e0
  have s18 := @sig_at prg 18 _ rfl
  generalize hD0 : PyData.list [.list (ns.map .int), .int 0, .int 0, .int 1] = D0 at hD e0
  refine cutS (fun r => r = [some (.dat false (.list (ns.map .int))), some (.dat true D0), none, none, none, none, none, none, none, none, none, none, none, none, none, none, none, none, none, none, none, none, none]) ?_ ?_
  · simp [startA, s18, e0]
  · rintro _ rfl
    refine cutS (TI (some (.dat false (.list (ns.map .int))))) ?_ ?_
    · have hr5 : rngD [.int 5] = some ((List.range 5).map dn) := rngD_one (n := 5) (by decide)
      simp [hr5]
      refine for_w dn (fun rem => TI (some (.dat false (.list (ns.map .int))))) ?_ ?_ _ _ ⟨D0, none, none, none, none, none, none, none, none, none, none, none, none, none, none, none, none, none, none, none, none, none, hD, rfl⟩
      · rintro a as r hr
        obtain ⟨d, j2, j3, j4, j5, j6, j7, j8, j9, j10, j11, j12, j13, j14, j15, j16, j17, j18, j19, j20, j21, j22, hd, rfl⟩ := hr
        refine ⟨_, rfl, ?_⟩
        have ht := turn_ok n (some (.dat false (.list (ns.map .int)))) _ ⟨d, some (.dat false (dn a)), j3, j4, j5, j6, j7, j8, j9, j10, j11, j12, j13, j14, j15, j16, j17, j18, j19, j20, j21, j22, hd, rfl⟩
        exact So.w.imp ht (fun _ h => h) (fun _ _ h => h) (fun _ _ h => h) (fun _ h => h.elim) (fun _ h => h)
      · exact fun r h => h
    · rintro _ ⟨d, j2, j3, j4, j5, j6, j7, j8, j9, j10, j11, j12, j13, j14, j15, j16, j17, j18, j19, j20, j21, j22, hd, rfl⟩
      simp
theorem law_true : LawTrue prg 100 25 := fun ns _ => law_n 80 ns
end P05

namespace P05
open PySem L2 E2 Lb
instance tbs0 : E2.Tbs := ⟨[]⟩
def top (i : Nat) : Stmt := PySem.Challenge.pw_movedtiles_k05_whole_boxes_and_moves.main.body.getD i (.Pass ⟨0, 0, 0, 0⟩)
def L : LP := ⟨[
  ⟨"is_whole", f_is_whole, n_is_whole, ["value"], top 6⟩,
  ⟨"is_exchange", f_is_exchange 0 0, n_is_exchange, ["value"], top 7⟩,
  ⟨"look_at_exchange", f_look_at_exchange 1 1, n_look_at_exchange, ["value"], top 8⟩,
  ⟨"rings", f_rings 2, n_rings, ["row"], top 9⟩,
  ⟨"sign", f_sign 5, n_sign, ["row"], top 10⟩,
  ⟨"swaps_of", f_swaps_of 3, n_swaps_of, ["row"], top 11⟩,
  ⟨"between", f_between 1, n_between, ["first", "other"], top 12⟩,
  ⟨"is_box", f_is_box 0 1, n_is_box, ["value"], top 15⟩,
  ⟨"is_state", f_is_state_2 1 7, n_is_state_2, ["box", "value"], top 16⟩,
  ⟨"look_at_state", f_look_at_state 8 1, n_look_at_state, ["box", "value"], top 17⟩,
  ⟨"solved", f_solved 7 1, n_solved, ["box"], top 18⟩,
  ⟨"moves", f_moves 9 12, n_moves, ["box", "state"], top 19⟩,
  ⟨"steps", f_steps_2 13, n_steps_2, ["box", "state"], top 20⟩,
  ⟨"swapped", f_swapped, n_swapped, ["state", "one", "two"], top 21⟩,
  ⟨"made", f_made 9 12 2, n_made, ["box", "state", "names"], top 22⟩,
  ⟨"is_way", f_is_way_2 9 14 2, n_is_way_2, ["box", "state", "goal", "value"], top 23⟩,
  ⟨"colour", f_colour 9 4 6 10, n_colour, ["box", "state"], top 24⟩,
  ⟨"least_moves", f_least_moves 9, n_least_moves, ["box", "state", "goal"], top 25⟩,
  ⟨"_law_draws", f__law_draws, n__law_draws, ["script"], top 27⟩,
  ⟨"_law_draw", f__law_draw, n__law_draw, ["draws", "limit"], top 28⟩,
  ⟨"_law_same", f__law_same 20, n__law_same, ["actual", "expected"], top 29⟩,
  ⟨"_law_shuffled", f__law_shuffled 19, n__law_shuffled, ["draws", "items"], top 30⟩,
  ⟨"_law_steps", f__law_steps, n__law_steps, ["box", "state"], top 31⟩,
  ⟨"_law_colour", f__law_colour, n__law_colour, ["box", "state"], top 32⟩,
  ⟨"_law_bad", f__law_bad_2 1, n__law_bad_2, ["call", "one", "two"], top 33⟩,
  ⟨"law", f_law_k05 18 19 21 10 8 7 22 20 23 16 11 15 14 17 24 2, n_law_k05, ["script"], top 34⟩],
  [("MOST_PLACES_exchanges", 64), ("MOST_PLACES_boxes", 36)],
  ["PuzzleError", "BadState", "BadMove"],
  [[0], [1, 0], [2, 0]]⟩
theorem law_trueL : LawTrue L.pr 100 25 := law_true
theorem ok : L.ds.all L.okD = true := by decide +kernel
theorem bd : BdAll L.ds := ⟨fun _ _ _ _ _ _ us hl => match us, hl with | [_], _ => rfl, fun _ _ _ _ _ _ us hl => match us, hl with | [_], _ => rfl, fun _ _ _ _ _ _ us hl => match us, hl with | [_], _ => rfl, fun _ _ _ _ _ _ us hl => match us, hl with | [_], _ => rfl, fun _ _ _ _ _ _ us hl => match us, hl with | [_], _ => rfl, fun _ _ _ _ _ _ us hl => match us, hl with | [_], _ => rfl, fun _ _ _ _ _ _ us hl => match us, hl with | [_, _], _ => rfl, fun _ _ _ _ _ _ us hl => match us, hl with | [_], _ => rfl, fun _ _ _ _ _ _ us hl => match us, hl with | [_, _], _ => rfl, fun _ _ _ _ _ _ us hl => match us, hl with | [_, _], _ => rfl, fun _ _ _ _ _ _ us hl => match us, hl with | [_], _ => rfl, fun _ _ _ _ _ _ us hl => match us, hl with | [_, _], _ => rfl, fun _ _ _ _ _ _ us hl => match us, hl with | [_, _], _ => rfl, fun _ _ _ _ _ _ us hl => match us, hl with | [_, _, _], _ => rfl, fun _ _ _ _ _ _ us hl => match us, hl with | [_, _, _], _ => rfl, fun _ _ _ _ _ _ us hl => match us, hl with | [_, _, _, _], _ => rfl, fun _ _ _ _ _ _ us hl => match us, hl with | [_, _], _ => rfl, fun _ _ _ _ _ _ us hl => match us, hl with | [_, _, _], _ => rfl, fun _ _ _ _ _ _ us hl => match us, hl with | [_], _ => rfl, fun _ _ _ _ _ _ us hl => match us, hl with | [_, _], _ => rfl, fun _ _ _ _ _ _ us hl => match us, hl with | [_, _], _ => rfl, fun _ _ _ _ _ _ us hl => match us, hl with | [_, _], _ => rfl, fun _ _ _ _ _ _ us hl => match us, hl with | [_, _], _ => rfl, fun _ _ _ _ _ _ us hl => match us, hl with | [_, _], _ => rfl, fun _ _ _ _ _ _ us hl => match us, hl with | [_, _, _], _ => rfl, fun _ _ _ _ _ _ us hl => match us, hl with | [_], _ => rfl, trivial⟩
abbrev R : PySem.W.OpenRow := PySem.W.OpenLaw.row PySem.Challenge.rw_movedtiles_k05_whole_boxes_and_moves
def loose : List PySem.Str := ["__name__", "PuzzleError", "BadState", "BadMove", "MOST_PLACES_exchanges", "is_whole", "is_exchange", "look_at_exchange", "rings", "sign", "swaps_of", "between", "MOST_PLACES_boxes", "is_box", "is_state", "look_at_state", "solved", "moves", "steps", "swapped", "made", "is_way", "colour", "least_moves", "_law_draws", "_law_draw", "_law_same", "_law_shuffled", "_law_steps", "_law_colour", "_law_bad"]
abbrev hk : PySem.W.Hook := He.hookD 4 L.fa L.fn
def ob (s : PySem.W.SharedT) : He.AlD := He.obsDG 4 L.fa L.fn (HandSHeadRun.getT s)
theorem ob_eq (s : PySem.W.SharedT) : ob s = hk.obs s.abs := He.obsDG_eq (HandSHeadRun.getT_eq s)
theorem run (w : World) : HandSHeadRun.RunEq R (PySem.W.view R.prog [34]) hk ob 2500 loose w := by
  intro os
  kernel_rfl
end P05
open PySem PySem.W PySem.Calls PyProof.Rows
theorem PySem.Challenge.cw_movedtiles_k05_whole_boxes_and_moves_holds : PySem.Challenge.rw_movedtiles_k05_whole_boxes_and_moves.Holds := by
  w_on; o_law
  refine HandSHeadRun.head_any (r := OpenLaw.row PySem.Challenge.rw_movedtiles_k05_whole_boxes_and_moves) (q := view (OpenLaw.row PySem.Challenge.rw_movedtiles_k05_whole_boxes_and_moves).prog [34]) (H := P05.hk) (ob := P05.ob) (M := 2500) (loose := P05.loose) (d := HandSHeadRun.topDef (OpenLaw.row PySem.Challenge.rw_movedtiles_k05_whole_boxes_and_moves).prog 34) (kwd := []) P05.ob_eq
    (by kernel_rfl) (fun s => by kernel_rfl) P05.run (by kernel_rfl) (by kernel_rfl) (by kernel_rfl) (by rfl) (by first | assumption | decide +kernel) (by decide +kernel) ⟨rfl, rfl, rfl, rfl, rfl, by decide +kernel⟩ ?hw ?hc
  case hw => w_witness2
  case hc =>
    refine E2.walkL (l := PySem.Challenge.rw_movedtiles_k05_whole_boxes_and_moves) (n := 100) (x := "script") (by rfl) rfl (by kernel_rfl) ⟨rfl, by decide, by decide⟩ ?F
    intro w mg fa h Y G hmg0
    obtain ⟨K, KX, c⟩ := Y
    have hmg : mg ("law" : PySem.Str) = some (.ref fa) := by
      have e : (HandSHeadRun.topDef (OpenLaw.row PySem.Challenge.rw_movedtiles_k05_whole_boxes_and_moves).prog 34).name = ("law" : PySem.Str) := by kernel_rfl
      rw [← e]
      exact hmg0
    exact ⟨K, KX, E2.lp_law (L := P05.L) (K := ⟨K, w⟩) (k := 25) (f := Lb.f_law_k05 18 19 21 10 8 7 22 20 23 16 11 15 14 17 24 2) rfl KX G hmg c P05.ok P05.bd rfl rfl rfl P05.law_trueL⟩

