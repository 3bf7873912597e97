import PyProof.Rows.All
import Wide.All
import OpenK.AllK
import Wide.FinOn
import HandS.ForMost
import HandS.TupMul
import HandS.IsInst
import KE.SortData
import KE.DataMinMax
import HandS.ExcOwn
import HandS.TryMany
import HandS.TryOnly
import KE.KDictKeyed
import HandS.Lambda
import HandS.Flow
import HandS.TupAny
import HandS.Conv
import HandS.Deep
import HandS.Style
import HandS.CallLocal
import KE.KIndexOf
import HandS.Sort
import HandS.Strs
import HandS.Nested
import PyProof.DictTable
import PyProof.DictFindH
import HandS.Walk
import HandS.Zip
import KE.GoesMore
import HandS.Comp
import HandS.DictComp
import HandS.WordsExc
import HandS.Ends
import HandS.EndTab
import HandS.Defaults
import HandS.Head0
import HandS.Head1
import HandS.Head2
import HandS.HeadEnd
import HandS.HeadHook1
import HandS.HeadHook2
import HandS.HeadHook4
import KE.Datum
import KE.KEqDeep
import HandS.TupSets
import PySem.Challenge.RW_movedtiles_k14_whole_leaps_and_their_kin
set_option Elab.async false
set_option linter.all false
set_option maxRecDepth 100000
namespace E2
open PySem L2

abbrev D := PySem.PyData

/-! ## the pure side: values, environments, results -/
structure Ex where
  cls : Nat
  fs : List (Str × D)

inductive Sv where
  | dat (own : Bool) (d : D)
  | fn (k : Nat) (ds : List D)
  | exn (x : Ex)
abbrev En := List (Option Sv)

inductive R where
  | val (own : Bool) (d : D)
  | sl (i : Nat)
  | fn (k : Nat) (ds : List D)

inductive Rs (α : Type) where
  | ok (a : α) (r : En)
  | exc (x : Ex) (r : En)
  | stuck

def Rs.bind {α β : Type} : Rs α → (α → En → Rs β) → Rs β
  | .ok a r, f => f a r
  | .exc x r, _ => .exc x r
  | .stuck, _ => .stuck

inductive Ag where
  | val (d : D)
  | rf (d : D)
  | fn (k : Nat) (ds : List D)

inductive Cr where
  | ok (own : Bool) (d : D) (refs : List D)
  | fn (k : Nat) (ds : List D) (refs : List D)
  | exc (x : Ex) (refs : List D)
  | stuck

/-- what a name gives -/
def nameR (r : En) (i : Nat) : Option R :=
  match r[i]? with
  | some (some (.dat false d)) => some (.val false d)
  | some (some (.dat true _)) => some (.sl i)
  | some (some (.fn k ds)) => some (.fn k ds)
  | _ => none

/-- the data that a result stands for now -/
def dref (r : En) : R → Option D
  | .val _ d => some d
  | .sl i => match r[i]? with
    | some (some (.dat _ d)) => some d
    | _ => none
  | .fn _ _ => none

/-- the data, kept for good: an owned slot is frozen -/
def take (r : En) : R → Option (D × En)
  | .val _ d => some (d, r)
  | .sl i => match r[i]? with
    | some (some (.dat _ d)) => some (d, r.set i (some (.dat false d)))
    | _ => none
  | .fn _ _ => none

def takes (r : En) : List R → Option (List D × En)
  | [] => some ([], r)
  | x :: xs => match take r x with
    | some (d, r1) => match takes r1 xs with
      | some (ds, r2) => some (d :: ds, r2)
      | none => none
    | none => none

def drefs (r : En) : List R → Option (List D)
  | [] => some []
  | x :: xs => match dref r x, drefs r xs with
    | some d, some ds => some (d :: ds)
    | _, _ => none
end E2

set_option Elab.async false
set_option linter.all false
set_option maxRecDepth 100000
namespace E2
open PySem L2

/-! ## the code -/
inductive Blt where
  | len | tuple | list | sorted | sum | all | any | min | max | min2 | max2 | int | str | abs
inductive Meth where
  | index | get | get2
inductive MMeth where
  | append | pop | popAt | insert | extend
inductive Tg where
  | nm (i : Nat)
  | tup (ts : List Tg)

/-- an argument of a call that gets lambdas: a slot, a constant, a def, a lambda with its captured slots -/
inductive LA where
  | v (i : Nat)
  | c (d : D)
  | g (g : Nat)
  | f (k : Nat)
  | l (k : Nat) (caps : List Nat)
mutual
inductive CE where
  | var (i : Nat)
  | cst (d : D)
  | gc (g : Nat)
  | fnv (k : Nat)
  | tup (es : CEs)
  | lst (es : CEs)
  | dic0
  | dic1 (k v : CE)
  | bin (op : Operator) (a b : CE)
  | rep (a b : CE)
  | neg (a : CE)
  | cmp (op : CmpOp) (a b : CE)
  | chn (op1 op2 : CmpOp) (a b c : CE)
  | and (a b : CE)
  | or (a b : CE)
  | not (a : CE)
  | ife (c : CT) (a b : CE)
  | idx (a i : CE)
  | sli (a : CE) (lo hi : CEo)
  | call (k : Nat) (es : CEs)
  | callv (i : Nat) (es : CEs)
  | callL (k : Nat) (as : List LA)
  | blt (b : Blt) (es : CEs)
  | rng (tup : Bool) (es : CEs)
  | isin (a : CE) (t : String)
  | attr (i : Nat) (f : Str)
  | meth (m : Meth) (o : CE) (es : CEs)
  | mut (m : MMeth) (i : Nat) (es : CEs)
  | lc (own : List (Str × Nat)) (tg : Tg) (it : CI) (cond : CTo) (elt : CE)
  | lc2 (own : List (Str × Nat)) (vs1 : List Nat) (tg : Tg) (it : CI) (cond : CTo) (tg1 : Tg) (it1 : CI) (cond1 : CTo) (elt : CE)
  | dc (own : List (Str × Nat)) (tg : Tg) (it : CI) (cond : CTo) (k v : CE)
inductive CEs where
  | nil
  | cons (e : CE) (es : CEs)
inductive CEo where
  | non
  | som (e : CE)
inductive CT where
  | ex (e : CE)
  | and (a b : CT)
  | or (a b : CT)
  | not (a : CT)
inductive CTo where
  | non
  | som (t : CT)
inductive CI where
  | seq (e : CE)
  | rng (es : CEs)
  | enum (es : CEs)
  | zip (es : CEs)
end

/-! ## operations on data -/
def mulOk (i j : Int) : Bool := decide (-(2 ^ 64) < i ∧ i < 2 ^ 64) || decide (-(2 ^ 64) < j ∧ j < 2 ^ 64)
def binD : Operator → D → D → Option (Bool × D)
  | .Add, .int i, .int j => some (false, .int (i + j))
  | .Sub, .int i, .int j => some (false, .int (i - j))
  | .Mult, .int i, .int j => if mulOk i j = true then some (false, .int (i * j)) else none
  | .FloorDiv, .int i, .int j => if 0 < j ∧ j < 1073741824 then some (false, .int (i / j)) else none
  | .Mod, .int i, .int j => if 0 < j then some (false, .int (i % j)) else none
  | .Pow, .int i, .int j => if 0 ≤ j ∧ j ≤ 1000000 ∧ i.natAbs < 2 ^ 64 then some (false, .int (i ^ j.toNat)) else none
  | .LShift, .int i, .int j => if 0 ≤ j ∧ j ≤ 1000000 ∧ i.natAbs < 2 ^ 64 then some (false, .int (i * 2 ^ j.toNat)) else none
  | .RShift, .int i, .int j => if 0 ≤ j then some (false, .int (i / 2 ^ j.toNat)) else none
  | .BitAnd, .int i, .int j => some (false, .int (Builtin.bitAnd i j))
  | .BitOr, .int i, .int j => some (false, .int (Builtin.bitOr i j))
  | .BitXor, .int i, .int j => some (false, .int (Builtin.bitXor i j))
  | .Add, .str x, .str y => if x.length + y.length ≤ sizeLine then some (false, .str (x ++ y)) else none
  | .Add, .list x, .list y => if x.length + y.length ≤ sizeLine then some (true, .list (x ++ y)) else none
  | .Add, .tuple x, .tuple y => if x.length + y.length ≤ sizeLine then some (false, .tuple (x ++ y)) else none
  | .Mult, .tuple x, .int k => if 0 < x.length ∧ 2 ≤ k ∧ k ≤ 1000 ∧ x.length ≤ 1000 then some (false, .tuple (List.replicate k.toNat x).flatten) else none
  | _, _, _ => none

/-- == -/
def eqD (a b : D) : Option Bool :=
  match a, b with
  | .int i, .int j => some (decide (i = j))
  | _, _ => if SeqAt.shaped a = true ∧ SeqAt.shaped b = true then some (PyData.eqv a b) else none
def dGet (kvs : List (D × D)) (k : D) : Option D := (kvs.find? fun p => PyData.eqv p.1 k).map (·.2)
def dPut (kvs : List (D × D)) (k v : D) : List (D × D) :=
  if kvs.any (fun p => PyData.eqv p.1 k) then kvs.map fun p => if PyData.eqv p.1 k then (p.1, v) else p else kvs ++ [(k, v)]
/-- all keys of one kind: ints and texts, or tuples of such -/
def flatK : D → Bool
  | .int _ => true
  | .str _ => true
  | _ => false
def nestN : Nat → D → Bool
  | _, .none => true
  | _, .int _ => true
  | _, .str _ => true
  | n + 1, .tuple ds => ds.all (nestN n)
  | _, _ => false
def tupK : D → Bool
  | .tuple ds => ds.all (nestN 7)
  | _ => false
def likeKeys (kvs : List (D × D)) (k : D) : Bool := (kvs.all (fun p => flatK p.1) && flatK k) || (kvs.all (fun p => tupK p.1) && tupK k)

def inD (a b : D) : Option Bool :=
  match b with
  | .list ds => if SeqAt.shaped a = true ∧ SeqAt.shaped (.list ds) = true then some (ds.any fun x => PyData.eqv x a) else none
  | .tuple ds => if SeqAt.shaped a = true ∧ SeqAt.shaped (.tuple ds) = true then some (ds.any fun x => PyData.eqv x a) else none
  | .dict kvs => if likeKeys kvs a = true then some (dGet kvs a).isSome else none
  | .str y => match a with
    | .str x => some (!(Builtin.Str.occurrences y x 0 y.length 1).isEmpty)
    | _ => none
  | _ => none

def isD (a b : D) : Option Bool :=
  match a, b with
  | .none, .none => some true
  | _, .none => some false
  | .bool x, .bool y => some (decide (x = y))
  | _, _ => none

/-- < of rows: place by place -/
def ltOk (a b : D) : Bool := PySem.W.alike a b && PySem.W.alike a a && PySem.W.alike b b && decide (a.depth ≤ 60)
def cmpD : CmpOp → D → D → Option Bool
  | .Eq, a, b => eqD a b
  | .NotEq, a, b => (eqD a b).map (!·)
  | .Lt, .int i, .int j => some (decide (i < j))
  | .Lt, .tuple x, .tuple y => if ltOk (.tuple x) (.tuple y) = true then some (PySem.W.dataLt (.tuple x) (.tuple y)) else none
  | .Lt, .list x, .list y => if ltOk (.list x) (.list y) = true then some (PySem.W.dataLt (.list x) (.list y)) else none
  | .LtE, .int i, .int j => some (decide (i ≤ j))
  | .Gt, .int i, .int j => some (decide (j < i))
  | .GtE, .int i, .int j => some (decide (j ≤ i))
  | .In, a, b => inD a b
  | .NotIn, a, b => (inD a b).map (!·)
  | .Is, a, b => isD a b
  | .IsNot, a, b => (isD a b).map (!·)
  | _, _, _ => none

def truD : D → Option Bool
  | .none => some false
  | .bool b => some b
  | .int i => some (i != 0)
  | .str y => if y.length ≤ sizeLine then some ((y.length : Int) != 0) else none
  | .list xs => some (!xs.isEmpty)
  | .tuple xs => some (!xs.isEmpty)
  | .dict _ => none

def atD (xs : List D) (i : Int) : Option D := atI xs i
def idxD : D → D → Option D
  | .list xs, .int i => atD xs i
  | .tuple xs, .int i => atD xs i
  | .str z, .int i => if z.length ≤ sizeLine then (atI z.cps.toList i).map fun c => .str ⟨#[c]⟩ else none
  | .dict kvs, k => if likeKeys kvs k = true then dGet kvs k else none
  | _, _ => none

def cutD (xs : List D) (lo hi : Option Int) : List D := (xs.drop (HT.sIx xs.length 0 lo)).take (HT.sIx xs.length xs.length hi - HT.sIx xs.length 0 lo)
def sliD : D → Option Int → Option Int → Option (Bool × D)
  | .list xs, lo, hi => some (true, .list (cutD xs lo hi))
  | .tuple xs, lo, hi => some (false, .tuple (cutD xs lo hi))
  | _, _, _ => none

def intsOf : List D → Option (List Int)
  | [] => some []
  | .int i :: r => (intsOf r).map (i :: ·)
  | _ :: _ => none
def boolsOf : List D → Option (List Bool)
  | [] => some []
  | .bool i :: r => (boolsOf r).map (i :: ·)
  | _ :: _ => none

/-- may be sorted: all alike, in depth bounded -/
def sortOk (ds : List D) : Bool := (ds.all fun d => ds.all fun e => PySem.W.alike d e) && ((ds.all fun d => match d with | .tuple (_ :: _) => true | _ => false) || (ds.all fun d => match d with | .none => false | .tuple _ => false | _ => true)) && (ds.all fun d => decide (d.depth ≤ 60)) && decide (ds.length ≤ sizeLine)
def sortOkL (ds : List D) : Bool := sortOk ds || decide (ds.length ≤ 1)
def maxI : List Int → Option Int
  | [] => none
  | x :: xs => some (xs.foldl (fun m y => if y > m then y else m) x)
def minI : List Int → Option Int
  | [] => none
  | x :: xs => some (xs.foldl (fun m y => if y < m then y else m) x)
/-- the least of alike data -/
def minG : List D → Option D
  | [] => none
  | x :: xs => if ((x :: xs).all fun d => (x :: xs).all fun e => PySem.W.alike d e) && ((x :: xs).all fun d => match d with | .none => false | _ => true) && decide (PyData.depthAll (x :: xs) ≤ 60) then some (PySem.W.minD x xs) else none
def minL (xs : List D) : Option D := match intsOf xs with
  | some ns => (minI ns).map .int
  | none => minG xs

def bltD : Blt → List D → Option (Bool × D)
  | .len, [.list xs] => some (false, .int xs.length)
  | .len, [.tuple xs] => some (false, .int xs.length)
  | .len, [.str z] => if z.length ≤ sizeLine then some (false, .int z.length) else none
  | .len, [.dict kvs] => if kvs.all (fun p => flatK p.1) = true then some (false, .int kvs.length) else none
  | .tuple, [.list xs] => some (false, .tuple xs)
  | .tuple, [.tuple xs] => some (false, .tuple xs)
  | .list, [.list xs] => some (true, .list xs)
  | .list, [.tuple xs] => some (true, .list xs)
  | .sorted, [.list xs] => if sortOkL xs = true then some (true, .list (xs.mergeSort (PySem.W.dataLe false id))) else none
  | .sorted, [.tuple xs] => if sortOk xs = true then some (true, .list (xs.mergeSort (PySem.W.dataLe false id))) else none
  | .sum, [.list xs] => (intsOf xs).map fun ns => (false, .int ns.sum)
  | .all, [.list xs] => (boolsOf xs).map fun bs => (false, .bool (bs.all id))
  | .any, [.list xs] => (boolsOf xs).map fun bs => (false, .bool (bs.any id))
  | .max, [.list xs] => ((intsOf xs).bind maxI).map fun m => (false, .int m)
  | .min, [.list xs] => (minL xs).map fun m => (false, m)
  | .max2, [.int i, .int j] => some (false, .int (if j > i then j else i))
  | .min2, [.int i, .int j] => some (false, .int (if j < i then j else i))
  | .int, [.int i] => some (false, .int i)
  | .int, [.bool b] => some (false, .int (if b then 1 else 0))
  | .str, [.int i] => if i.natAbs.log2 < 1920 then some (false, .str (toString i)) else none
  | .abs, [.int i] => some (false, .int (if i < 0 then -i else i))
  | _, _ => none

def rngI (a b : Int) : List D := (List.range (b - a).toNat).map fun i => .int (a + (i : Nat))
def rngOk (a b : Int) : Bool := decide (-(2 ^ 62) ≤ a ∧ a < 2 ^ 62 ∧ -(2 ^ 62) ≤ b ∧ b < 2 ^ 62)
def rngD : List D → Option (List D)
  | [.int n] => if rngOk 0 n = true then some (rngI 0 n) else none
  | [.int a, .int b] => if rngOk a b = true then some (rngI a b) else none
  | _ => none
def rngFew : List D → Bool
  | [.int n] => decide (n.toNat ≤ 2 ^ 24)
  | [.int a, .int b] => decide ((b - a).toNat ≤ 2 ^ 24)
  | _ => false

def tyName : D → String
  | .none => "NoneType"
  | .bool _ => "bool"
  | .int _ => "int"
  | .str _ => "str"
  | .list _ => "list"
  | .tuple _ => "tuple"
  | .dict _ => "dict"

def indexD (x : D) : List D → Nat → Option Nat
  | [], _ => none
  | y :: ys, n => if PyData.eqv y x = true then some n else indexD x ys (n + 1)

/-- isinstance -/
def isTyD (d : D) (t : String) : Option Bool :=
  match d with
  | .dict _ => none
  | _ => kitB (tyName d) t
def methT : Meth → D → String
  | .index, .list _ => "list"
  | .index, .tuple _ => "tuple"
  | .get, .dict _ => "dict"
  | .get2, .dict _ => "dict"
  | _, _ => ""
/-- never a list, never a dict -/
def frzD : D → Bool
  | .list _ => false
  | .dict _ => false
  | _ => true
def methD : Meth → D → List D → Option (Bool × D)
  | .index, .list xs, [y] => if SeqAt.shaped (.list xs) = true ∧ SeqAt.shaped y = true then (indexD y xs 0).map fun n => (false, .int (n : Nat)) else none
  | .index, .tuple xs, [y] => if SeqAt.shaped (.list xs) = true ∧ SeqAt.shaped y = true then (indexD y xs 0).map fun n => (false, .int (n : Nat)) else none
  | .get, .dict kvs, [k] => if likeKeys kvs k = true then some (false, (dGet kvs k).getD .none) else none
  | .get2, .dict kvs, [k, x] => if likeKeys kvs k = true ∧ frzD x = true then some (false, (dGet kvs k).getD x) else none
  | _, _, _ => none

/-- (value, the new content) -/
def mutD : MMeth → D → List D → Option (D × D)
  | .append, .list xs, [y] => if xs.length < sizeLine then some (.none, .list (xs ++ [y])) else none
  | .pop, .list xs, [] => match xs[xs.length - 1]? with
    | some y => some (y, .list xs.dropLast)
    | none => none
  | .popAt, .list xs, [.int i] => if 0 ≤ i ∧ i < 2 ^ 63 then match xs[i.toNat]? with
    | some y => some (y, .list (xs.eraseIdx i.toNat))
    | none => none else none
  | _, _, _ => none

/-- x[i] = v -/
def setD : D → D → D → Option D
  | .list xs, .int i, v => (ixN xs.length i).map fun j => .list (xs.set j v)
  | .dict kvs, k, v => if likeKeys kvs k = true ∧ kvs.length < sizeLine then some (.dict (dPut kvs k v)) else none
  | _, _, _ => none

/-! ## running -/
structure Gs where
  call : Nat → List Ag → Cr
  sig : Nat → List Bool
  gcs : Nat → Option D
  exf : Nat → Option (List Str)
  sub : Nat → Nat → Option Bool
  fuel : Nat

def passA (r : En) (used : List Nat) : List Bool → List R → Option (List Ag × List Nat × En)
  | [], [] => some ([], [], r)
  | false :: bs, .fn k ds :: xs => match passA r used bs xs with
    | some (ags, sls, r1) => some (.fn k ds :: ags, sls, r1)
    | none => none
  | false :: bs, .val _ d :: xs => match passA r used bs xs with
    | some (ags, sls, r1) => some (.val d :: ags, sls, r1)
    | none => none
  | false :: bs, .sl i :: xs => if i ∈ used then none else match take r (.sl i) with
    | some (d, r1) => match passA r1 used bs xs with
      | some (ags, sls, r2) => some (.val d :: ags, sls, r2)
      | none => none
    | none => none
  | true :: bs, .sl i :: xs => if i ∈ used then none else match r[i]? with
    | some (some (.dat true d)) => match passA r (i :: used) bs xs with
      | some (ags, sls, r1) => some (.rf d :: ags, i :: sls, r1)
      | none => none
    | _ => none
  | _, _ => none

/-- the captured slots' data -/
def capsD (r : En) : List Nat → Option (List D)
  | [] => some []
  | i :: is => match r[i]? with
    | some (some (.dat false d)) => (capsD r is).map (d :: ·)
    | _ => none
def laV (G : Gs) (r : En) : LA → Option Ag
  | .v i => match r[i]? with
    | some (some (.dat false d)) => some (.val d)
    | some (some (.fn k ds)) => some (.fn k ds)
    | _ => none
  | .c d => some (.val d)
  | .g g => (G.gcs g).map .val
  | .f k => some (.fn k [])
  | .l k caps => (capsD r caps).map (.fn k ·)
def laVs (G : Gs) (r : En) : List LA → Option (List Ag)
  | [] => some []
  | a :: as => match laV G r a with
    | some x => (laVs G r as).map (x :: ·)
    | none => none
def putRefs (r : En) : List Nat → List D → Option En
  | [], [] => some r
  | i :: is, d :: ds => putRefs (r.set i (some (.dat true d))) is ds
  | _, _ => none

def callR (G : Gs) (k : Nat) (rs : List R) (r : En) : Rs R :=
  match passA r [] (G.sig k) rs with
  | none => .stuck
  | some (ags, slots, r1) => match G.call k ags with
    | .ok own d refs => match putRefs r1 slots refs with
      | some r2 => .ok (.val own d) r2
      | none => .stuck
    | .fn k' l refs => match putRefs r1 slots refs with
      | some r2 => .ok (.fn k' l) r2
      | none => .stuck
    | .exc x refs => match putRefs r1 slots refs with
      | some r2 => .exc x r2
      | none => .stuck
    | .stuck => .stuck

def optR (r : En) : Option (Bool × D) → Rs R
  | some (o, d) => .ok (.val o d) r
  | none => .stuck
def optB (r : En) : Option Bool → Rs Bool
  | some b => .ok b r
  | none => .stuck

-- targets
mutual
def bindT (d : D) (r : En) : Tg → Option En
  | .nm i => if i < r.length then some (r.set i (some (.dat false d))) else none
  | .tup ts => match d with
    | .tuple ds => bindTs ds r ts
    | _ => none
def bindTs (ds : List D) (r : En) : List Tg → Option En
  | [] => match ds with
    | [] => some r
    | _ => none
  | t :: ts => match ds with
    | d :: ds => match bindT d r t with
      | some r1 => bindTs ds r1 ts
      | none => none
    | [] => none
end

def wipeE (r : En) : List Nat → En
  | [] => r
  | v :: vs => (wipeE r vs).set v none
/-- the slots of a block as they were ahead of it -/
def backE (r0 r : En) : List Nat → En
  | [] => r
  | v :: vs => (backE r0 r vs).set v ((r0[v]?).getD none)

def lcGo (vs : List Nat) (bind : D → En → Option En) (cond : En → Rs Bool) (elt : En → Rs R) : List D → List D → En → Rs (List D)
  | [], acc, r => .ok acc r
  | d :: ds, acc, r => match bind d (wipeE r vs) with
    | none => .stuck
    | some r1 => match cond r1 with
      | .ok true r2 => match elt r2 with
        | .ok x r3 => match take r3 x with
          | some (y, r4) => if acc.length < sizeLine then lcGo vs bind cond elt ds (acc ++ [y]) (wipeE r4 vs) else .stuck
          | none => .stuck
        | _ => .stuck
      | .ok false r2 => lcGo vs bind cond elt ds acc (wipeE r2 vs)
      | _ => .stuck

def dcGo (vs : List Nat) (bind : D → En → Option En) (cond : En → Rs Bool) (ek ev : En → Rs R) : List D → List (D × D) → En → Rs (List (D × D))
  | [], acc, r => .ok acc r
  | d :: ds, acc, r => match bind d (wipeE r vs) with
    | none => .stuck
    | some r1 => match cond r1 with
      | .ok true r2 => match ek r2 with
        | .ok x r3 => match ev r3 with
          | .ok y r4 => match takes r4 [x, y] with
            | some ([k, v], r6) => if (acc.all (fun p => flatK p.1) && flatK k) = true ∧ acc.length < sizeLine then dcGo vs bind cond ek ev ds (dPut acc k v) (wipeE r6 vs) else .stuck
            | _ => .stuck
          | _ => .stuck
        | _ => .stuck
      | .ok false r2 => dcGo vs bind cond ek ev ds acc (wipeE r2 vs)
      | _ => .stuck

/-- two clauses: for each item of the outer one the inner list is walked -/
def lc2Go (vs vs1 : List Nat) (bind : D → En → Option En) (cond : En → Rs Bool) (it1 : En → Rs (List D)) (bind1 : D → En → Option En) (cond1 : En → Rs Bool) (elt : En → Rs R) : List D → List D → En → Rs (List D)
  | [], acc, r => .ok acc r
  | d :: ds, acc, r => match bind d (wipeE r vs) with
    | none => .stuck
    | some r1 => match cond r1 with
      | .ok true r2 => match it1 r2 with
        | .ok xs r3 => match lcGo vs1 bind1 cond1 elt xs acc r3 with
          | .ok acc1 r4 => lc2Go vs vs1 bind cond it1 bind1 cond1 elt ds acc1 (wipeE r4 vs)
          | _ => .stuck
        | _ => .stuck
      | .ok false r2 => lc2Go vs vs1 bind cond it1 bind1 cond1 elt ds acc (wipeE r2 vs)
      | _ => .stuck

def zipT : List D → List D → List D
  | x :: xs, y :: ys => .tuple [x, y] :: zipT xs ys
  | _, _ => []
def zipD : D → D → Option (List D)
  | .list xs, .list ys => some (zipT xs ys)
  | .tuple xs, .tuple ys => some (zipT xs ys)
  | _, _ => none
def enumT : Nat → List D → List D
  | _, [] => []
  | n, x :: xs => .tuple [.int (n : Nat), x] :: enumT (n + 1) xs
def seqOf : D → Option (List D)
  | .list xs => some xs
  | .tuple xs => some xs
  | _ => none

/-- the list in slot i gets what a fresh list holds -/
def extR (i : Nat) (zs : List D) (r1 : En) : Rs R :=
  match r1[i]? with
  | some (some (.dat true (.list ys))) => if ys.length + zs.length ≤ sizeLine then .ok (.val false .none) (r1.set i (some (.dat true (.list (ys ++ zs))))) else .stuck
  | _ => .stuck
def mutF (m : MMeth) (i : Nat) (xs : List R) (r1 : En) : Rs R :=
  match takes r1 xs with
  | some (ds, r2) => match r2[i]? with
    | some (some (.dat true d)) => match mutD m d ds with
      | some (v, d') => .ok (.val false v) (r2.set i (some (.dat true d')))
      | none => .stuck
    | _ => .stuck
  | none => .stuck
def mutR : MMeth → Nat → List R → En → Rs R
  | .extend, i, [.val true (.list zs)], r1 => extR i zs r1
  | .extend, _, _, _ => .stuck
  | .append, i, xs, r1 => mutF .append i xs r1
  | .pop, i, xs, r1 => mutF .pop i xs r1
  | .popAt, i, xs, r1 => mutF .popAt i xs r1
  | .insert, i, xs, r1 => mutF .insert i xs r1
section
variable (G : Gs)
mutual
def evE : CE → En → Rs R
  | .var i, r => match nameR r i with
    | some x => .ok x r
    | none => .stuck
  | .cst d, r => .ok (.val false d) r
  | .gc g, r => match G.gcs g with
    | some d => .ok (.val false d) r
    | none => .stuck
  | .fnv k, r => .ok (.fn k []) r
  | .tup es, r => (evEs es r).bind fun xs r1 => match takes r1 xs with
    | some (ds, r2) => if ds.length ≤ sizeLine then .ok (.val false (.tuple ds)) r2 else .stuck
    | none => .stuck
  | .lst es, r => (evEs es r).bind fun xs r1 => match takes r1 xs with
    | some (ds, r2) => if ds.length ≤ sizeLine then .ok (.val true (.list ds)) r2 else .stuck
    | none => .stuck
  | .dic0, r => .ok (.val true (.dict [])) r
  | .dic1 k v, r => (evE k r).bind fun x r1 => (evE v r1).bind fun y r2 => match takes r2 [x, y] with
    | some ([kk, vv], r3) => if (flatK kk || tupK kk) = true then .ok (.val true (.dict [(kk, vv)])) r3 else .stuck
    | _ => .stuck
  | .bin op a b, r => (evE a r).bind fun x r1 => (evE b r1).bind fun y r2 => match dref r2 x, dref r2 y with
    | some d, some e => optR r2 (binD op d e)
    | _, _ => .stuck
  | .rep a b, r => (evE a r).bind fun x r1 => (evE b r1).bind fun y r2 => match x, y with
    | .val true (.list xs), .val false (.int k) => if k < 2 ^ 63 ∧ -(2 ^ 63) ≤ k ∧ xs.length * k.toNat ≤ sizeLine then .ok (.val true (.list (List.replicate k.toNat xs).flatten)) r2 else .stuck
    | _, _ => .stuck
  | .neg a, r => (evE a r).bind fun x r1 => match x with
    | .val _ (.int i) => .ok (.val false (.int (-i))) r1
    | _ => .stuck
  | .cmp op a b, r => (evE a r).bind fun x r1 => (evE b r1).bind fun y r2 => match dref r2 x, dref r2 y with
    | some d, some e => match cmpD op d e with
      | some k => .ok (.val false (.bool k)) r2
      | none => .stuck
    | _, _ => .stuck
  | .chn op1 op2 a b c, r => (evE a r).bind fun x r1 => (evE b r1).bind fun y r2 => match dref r2 x, dref r2 y with
    | some d, some e => match cmpD op1 d e with
      | some true => (evE c r2).bind fun z r3 => match dref r3 y, dref r3 z with
        | some e', some f => match cmpD op2 e' f with
          | some k => .ok (.val false (.bool k)) r3
          | none => .stuck
        | _, _ => .stuck
      | some false => .ok (.val false (.bool false)) r2
      | none => .stuck
    | _, _ => .stuck
  | .and a b, r => (evE a r).bind fun x r1 => match (dref r1 x).bind truD with
    | some true => evE b r1
    | some false => .ok x r1
    | none => .stuck
  | .or a b, r => (evE a r).bind fun x r1 => match (dref r1 x).bind truD with
    | some true => .ok x r1
    | some false => evE b r1
    | none => .stuck
  | .not a, r => (evE a r).bind fun x r1 => match (dref r1 x).bind truD with
    | some k => .ok (.val false (.bool (!k))) r1
    | none => .stuck
  | .ife c a b, r => (evT c r).bind fun k r1 => match k with
    | true => evE a r1
    | false => evE b r1
  | .idx a i, r => (evE a r).bind fun x r1 => (evE i r1).bind fun y r2 => match dref r2 x, dref r2 y with
    | some d, some e => match idxD d e with
      | some v => .ok (.val false v) r2
      | none => .stuck
    | _, _ => .stuck
  | .sli a lo hi, r => (evE a r).bind fun x r1 => (evO lo r1).bind fun l r2 => (evO hi r2).bind fun h r3 => match dref r3 x with
    | some d => optR r3 (sliD d l h)
    | none => .stuck
  | .call k es, r => (evEs es r).bind fun xs r1 => callR G k xs r1
  | .callv i es, r => match r[i]? with
    | some (some (.fn k ds)) => if (G.sig k).all (!·) = true ∧ G.sig k ≠ [] then (evEs es r).bind fun xs r1 => match ds with
      | [] => callR G k xs r1
      | _ :: _ => match takes r1 xs with
        | some (dd, r2) => match G.call k ((dd ++ ds).map .val) with
          | .ok o d _ => .ok (.val o d) r2
          | _ => .stuck
        | none => .stuck
      else .stuck
    | _ => .stuck
  | .callL k as, r => if (G.sig k).all (!·) = true ∧ as.length = (G.sig k).length then match laVs G r as with
    | some ags => match G.call k ags with
      | .ok own d _ => .ok (.val own d) r
      | _ => .stuck
    | none => .stuck
    else .stuck
  | .blt b es, r => (evEs es r).bind fun xs r1 => match drefs r1 xs with
    | some ds => optR r1 (bltD b ds)
    | none => .stuck
  | .rng t es, r => (evEs es r).bind fun xs r1 => match drefs r1 xs with
    | some ds => match rngD ds with
      | some is => if rngFew ds = true then (if t then .ok (.val false (.tuple is)) r1 else .ok (.val true (.list is)) r1) else .stuck
      | none => .stuck
    | none => .stuck
  | .isin a t, r => (evE a r).bind fun x r1 => match dref r1 x with
    | some d => match isTyD d t with
      | some k => .ok (.val false (.bool k)) r1
      | none => .stuck
    | none => .stuck
  | .attr i f, r => match r[i]? with
    | some (some (.exn x)) => match x.fs.lookup f with
      | some d => .ok (.val false d) r
      | none => .stuck
    | _ => .stuck
  | .meth m o es, r => (evE o r).bind fun x r1 => match dref r1 x with
    | some d0 => if methT m d0 = "" then .stuck else (evEs es r1).bind fun xs r2 => match dref r2 x, drefs r2 xs with
      | some d, some ds => if tyName d0 = tyName d then optR r2 (methD m d ds) else .stuck
      | _, _ => .stuck
    | none => .stuck
  | .mut m i es, r => match r[i]? with
    | some (some (.dat true (.list _))) => (evEs es r).bind fun xs r1 => mutR m i xs r1
    | _ => .stuck
  | .lc own tg it cond elt, r => (evI it r).bind fun xs r1 => (lcGo (own.map (·.2)) (fun d r => bindT d r tg) (evC cond) (evE elt) xs [] r1).bind fun ys r2 => .ok (.val true (.list ys)) (backE r1 r2 (own.map (·.2)))
  | .lc2 own vs1 tg it cond tg1 it1 cond1 elt, r => (evI it r).bind fun xs r1 =>
    (lc2Go (own.map (·.2)) vs1 (fun d r => bindT d r tg) (evC cond) (evI it1) (fun d r => bindT d r tg1) (evC cond1) (evE elt) xs [] r1).bind fun ys r2 => .ok (.val true (.list ys)) (backE r1 r2 (own.map (·.2)))
  | .dc own tg it cond k v, r => (evI it r).bind fun xs r1 => (dcGo (own.map (·.2)) (fun d r => bindT d r tg) (evC cond) (evE k) (evE v) xs [] r1).bind fun ys r2 => .ok (.val true (.dict ys)) (backE r1 r2 (own.map (·.2)))
def evEs : CEs → En → Rs (List R)
  | .nil, r => .ok [] r
  | .cons e es, r => (evE e r).bind fun x r1 => (evEs es r1).bind fun xs r2 => .ok (x :: xs) r2
def evO : CEo → En → Rs (Option Int)
  | .non, r => .ok none r
  | .som e, r => (evE e r).bind fun x r1 => match x with
    | .val _ (.int i) => .ok (some i) r1
    | _ => .stuck
def evC : CTo → En → Rs Bool
  | .non, r => .ok true r
  | .som e, r => evT e r
/-- as a test -/
def evT : CT → En → Rs Bool
  | .and a b, r => (evT a r).bind fun k r1 => match k with
    | true => evT b r1
    | false => .ok false r1
  | .or a b, r => (evT a r).bind fun k r1 => match k with
    | true => .ok true r1
    | false => evT b r1
  | .not a, r => (evT a r).bind fun k r1 => .ok (!k) r1
  | .ex e, r => (evE e r).bind fun x r1 => match (dref r1 x).bind truD with
    | some k => .ok k r1
    | none => .stuck
/-- what is walked: the items, a slot's list frozen -/
def evI : CI → En → Rs (List D)
  | .seq e, r => (evE e r).bind fun x r1 => match take r1 x with
    | some (d, r2) => match seqOf d with
      | some xs => .ok xs r2
      | none => .stuck
    | none => .stuck
  | .rng es, r => (evEs es r).bind fun xs r1 => match drefs r1 xs with
    | some ds => match rngD ds with
      | some is => .ok is r1
      | none => .stuck
    | none => .stuck
  | .enum es, r => (evEs es r).bind fun xs r1 => match takes r1 xs with
    | some ([d], r2) => match seqOf d with
      | some xs => .ok (enumT 0 xs) r2
      | none => .stuck
    | _ => .stuck
  | .zip es, r => (evEs es r).bind fun xs r1 => match takes r1 xs with
    | some ([d, e], r2) => match zipD d e with
      | some zs => .ok zs r2
      | none => .stuck
    | _ => .stuck
end
end
end E2

set_option Elab.async false
set_option linter.all false
set_option maxRecDepth 100000
namespace E2
open PySem L2

mutual
inductive CS where
  | ret (e : CE)
  | retN
  | retL (k : Nat) (caps : List Nat)
  | ex (e : CE)
  | set (i : Nat) (e : CE)
  | par (is : List Nat) (es : CEs)
  | asg (t : TX) (e : CE)
  | aug (i : Nat) (op : Operator) (e : CE)
  | augi (i : Nat) (ix : CE) (op : Operator) (e : CE)
  | ite (t : CT) (a b : CSs)
  | whl (t : CT) (b : CSs)
  | for (tg : Tg) (it : CI) (b : CSs)
  | pass
  | brk
  | cont
  | rais (c : Nat) (es : CEs)
  | try_ (b : CSs) (hs : Hds)
  | unk
inductive CSs where
  | nil
  | cons (s : CS) (ss : CSs)
inductive TX where
  | nm (i : Nat)
  | sub (i : Nat) (ix : CE)
  | tup (ts : TXs)
inductive TXs where
  | nil
  | cons (t : TX) (ts : TXs)
inductive Hds where
  | nil
  | cons (c : Nat) (as_ : Option Nat) (b : CSs) (hs : Hds)
end

inductive So where
  | nx (r : En)
  | ret (x : R) (r : En)
  | brk (r : En)
  | cont (r : En)
  | exc (x : Ex) (r : En)
  | stuck

def Rs.so {α : Type} : Rs α → (α → En → So) → So
  | .ok a r, f => f a r
  | .exc x r, _ => .exc x r
  | .stuck, _ => .stuck
def So.then : So → (En → So) → So
  | .nx r, f => f r
  | .ret x r, _ => .ret x r
  | .brk r, _ => .brk r
  | .cont r, _ => .cont r
  | .exc x r, _ => .exc x r
  | .stuck, _ => .stuck

def whileF (t : En → Rs Bool) (b : En → So) : Nat → En → So
  | 0, _ => .stuck
  | n + 1, r => (t r).so fun k r1 => match k with
    | true => match b r1 with
      | .nx r2 => whileF t b n r2
      | .cont r2 => whileF t b n r2
      | .brk r2 => .nx r2
      | .ret x r2 => .ret x r2
      | .exc x r2 => .exc x r2
      | .stuck => .stuck
    | false => .nx r1

def forF (bind : D → En → Option En) (b : En → So) : List D → En → So
  | [], r => .nx r
  | d :: ds, r => match bind d r with
    | none => .stuck
    | some r1 => match b r1 with
      | .nx r2 => forF bind b ds r2
      | .cont r2 => forF bind b ds r2
      | .brk r2 => .nx r2
      | .ret x r2 => .ret x r2
      | .exc x r2 => .exc x r2
      | .stuck => .stuck

/-- a value into a slot -/
def putSlot (i : Nat) (x : R) (r : En) : Option En :=
  if i < r.length then match x with
    | .val own d => some (r.set i (some (.dat own d)))
    | .fn k ds => some (r.set i (some (.fn k ds)))
    | .sl j => match r[j]? with
      | some (some (.dat _ d)) => some ((r.set j (some (.dat false d))).set i (some (.dat false d)))
      | _ => none
  else none
def putAll : List Nat → List D → En → Option En
  | [], [], r => some r
  | i :: is, d :: ds, r => if i < r.length then putAll is ds (r.set i (some (.dat false d))) else none
  | _, _, _ => none
def putPar : List Nat → List R → En → Option En
  | [], [], r => some r
  | i :: is, x :: xs, r => match x with
    | .val own d => if i < r.length then putPar is xs (r.set i (some (.dat own d))) else none
    | _ => none
  | _, _, _ => none
/-- results made plain: an owned slot's list is frozen -/
def settle (r : En) : List R → Option (List R × En)
  | [] => some ([], r)
  | .val o d :: xs => match settle r xs with
    | some (ys, r1) => some (.val o d :: ys, r1)
    | none => none
  | .sl i :: xs => match take r (.sl i) with
    | some (d, r1) => match settle r1 xs with
      | some (ys, r2) => some (.val false d :: ys, r2)
      | none => none
    | none => none
  | .fn _ _ :: _ => none

def lenTX : TXs → Nat
  | .nil => 0
  | .cons _ ts => lenTX ts + 1
section
variable (G : Gs)
mutual
def evX : TX → D → En → Rs Unit
  | .nm i, d, r => if i < r.length then .ok () (r.set i (some (.dat false d))) else .stuck
  | .sub i ix, d, r => match r[i]? with
    | some (some (.dat true _)) => (evE G ix r).bind fun x r1 => match dref r1 x with
      | some k => match r1[i]? with
        | some (some (.dat true c)) => match setD c k d with
          | some c' => .ok () (r1.set i (some (.dat true c')))
          | none => .stuck
        | _ => .stuck
      | none => .stuck
    | _ => .stuck
  | .tup ts, d, r => match d with
    | .tuple ds => if ds.length = lenTX ts then evXs ts ds r else .stuck
    | _ => .stuck
def evXs : TXs → List D → En → Rs Unit
  | .nil, ds, r => match ds with
    | [] => .ok () r
    | _ => .stuck
  | .cons t ts, ds, r => match ds with
    | d :: ds => (evX t d r).bind fun _ r1 => evXs ts ds r1
    | [] => .stuck
end

mutual
def evS : CS → En → So
  | .ret e, r => (evE G e r).so fun x r1 => .ret x r1
  | .retN, r => .ret (.val false .none) r
  | .retL k caps, r => match capsD r caps with
    | some ds => .ret (.fn k ds) r
    | none => .stuck
  | .ex e, r => (evE G e r).so fun _ r1 => .nx r1
  | .set i e, r => (evE G e r).so fun x r1 => match putSlot i x r1 with
    | some r2 => .nx r2
    | none => .stuck
  | .par is es, r => (evEs G es r).so fun xs r1 => match settle r1 xs with
    | some (ys, r2) => match putPar is ys r2 with
      | some r3 => .nx r3
      | none => .stuck
    | none => .stuck
  | .asg t e, r => (evE G e r).so fun x r1 => match take r1 x with
    | some (d, r2) => (evX G t d r2).so fun _ r3 => .nx r3
    | none => .stuck
  | .aug i op e, r => match r[i]? with
    | some (some (.dat false d)) => (evE G e r).so fun y r1 => match dref r1 y with
      | some f => match d, f with
        | .int a, .int b => match binD op (.int a) (.int b) with
          | some (_, v) => if i < r1.length then .nx (r1.set i (some (.dat false v))) else .stuck
          | none => .stuck
        | _, _ => .stuck
      | none => .stuck
    | _ => .stuck
  | .augi i ix op e, r => match r[i]? with
    | some (some (.dat true _)) => (evE G ix r).so fun x r1 => match dref r1 x with
      | some k => match r1[i]? with
        | some (some (.dat true c)) => match idxD c k with
          | some (.int a) => (evE G e r1).so fun y r2 => match dref r2 y with
            | some (.int b) => match binD op (.int a) (.int b) with
              | some (_, v) => match r2[i]? with
                | some (some (.dat true c2)) => match setD c2 k v with
                  | some c3 => .nx (r2.set i (some (.dat true c3)))
                  | none => .stuck
                | _ => .stuck
              | none => .stuck
            | _ => .stuck
          | _ => .stuck
        | _ => .stuck
      | none => .stuck
    | _ => .stuck
  | .ite t a b, r => (evT G t r).so fun k r1 => match k with
    | true => evSs a r1
    | false => evSs b r1
  | .whl t b, r => whileF (evT G t) (evSs b) G.fuel r
  | .for tg it b, r => (evI G it r).so fun xs r1 => forF (fun d r => bindT d r tg) (evSs b) xs r1
  | .pass, r => .nx r
  | .brk, r => .brk r
  | .cont, r => .cont r
  | .rais c es, r => (evEs G es r).so fun xs r1 => match takes r1 xs with
    | some (ds, r2) => match G.exf c with
      | some fs => .exc ⟨c, fs.zip ds⟩ r2
      | none => .stuck
    | none => .stuck
  | .unk, _ => .stuck
  | .try_ b hs, r => match evSs b r with
    | .exc x r1 => evH hs x r1
    | o => o
def evSs : CSs → En → So
  | .nil, r => .nx r
  | .cons s ss, r => (evS s r).then fun r1 => evSs ss r1
def evH : Hds → Ex → En → So
  | .nil, x, r => .exc x r
  | .cons c as_ b hs, x, r => match G.sub x.cls c with
    | some true => match as_ with
      | none => match evSs b r with
        | .exc _ _ => .stuck
        | o => o
      | some _ => .stuck
    | some false => evH hs x r
    | none => .stuck
end
end

structure Fn where
  n : Nat
  sig : List Bool
  body : CSs

def startA : List Ag → En
  | [] => []
  | .val d :: r => some (.dat false d) :: startA r
  | .rf d :: r => some (.dat true d) :: startA r
  | .fn k ds :: r => some (.fn k ds) :: startA r
def refSlots : Nat → List Bool → List Nat
  | _, [] => []
  | i, true :: bs => i :: refSlots (i + 1) bs
  | i, false :: bs => refSlots (i + 1) bs
def refsOf (r : En) : List Nat → Option (List D)
  | [] => some []
  | i :: is => match r[i]? with
    | some (some (.dat true d)) => (refsOf r is).map (d :: ·)
    | _ => none
def okSig : List Bool → List Ag → Bool
  | [], [] => true
  | true :: bs, .rf _ :: xs => okSig bs xs
  | false :: bs, .val _ :: xs => okSig bs xs
  | false :: bs, .fn _ _ :: xs => okSig bs xs
  | _, _ => false

def finR (f : Fn) (x : R) (r : En) : Cr :=
  match refsOf r (refSlots 0 f.sig) with
  | none => .stuck
  | some ds => match x with
    | .val own d => .ok own d ds
    | .sl i => if i ∈ refSlots 0 f.sig then .stuck else match r[i]? with
      | some (some (.dat own d)) => .ok own d ds
      | _ => .stuck
    | .fn k l => .fn k l ds

def runF (G : Gs) (f : Fn) (ags : List Ag) : Cr :=
  if okSig f.sig ags = true then
    match evSs G f.body (startA ags ++ List.replicate (f.n - ags.length) none) with
    | .nx r => finR f (.val false .none) r
    | .ret x r => finR f x r
    | .exc x r => match refsOf r (refSlots 0 f.sig) with
      | some ds => .exc x ds
      | none => .stuck
    | _ => .stuck
  else .stuck

structure Prg where
  fns : List Fn
  gcs : List D
  exf : List (List Str)
  sub : List (List Nat)

def Prg.gs (P : Prg) (call : Nat → List Ag → Cr) : Gs where
  call := call
  sig := fun k => ((P.fns[k]?).map (·.sig)).getD []
  gcs := fun g => P.gcs[g]?
  exf := fun c => P.exf[c]?
  sub := fun a b => match P.sub[a]? with
    | some l => if b < P.sub.length then some (l.contains b) else none
    | none => none
  fuel := 1000000

def run (P : Prg) : Nat → Nat → List Ag → Cr
  | 0, _, _ => .stuck
  | n + 1, k, ags => match P.fns[k]? with
    | some f => runF (P.gs (run P n)) f ags
    | none => .stuck
end E2

set_option Elab.async false
set_option linter.all false
set_option maxRecDepth 100000
namespace E2
open PySem PySem.Spec PyProof.Rows L2

abbrev NS := Addr → Prop
/-- the tables of code objects that makers of lambdas write: each with the one name that it tells -/
class Tbs where
  T : List (Addr × Str)
  /-- the lambdas among the pure defs -/
  isL : Nat → Bool
  /-- a lambda's own words -/
  fit : Nat → Arguments → Expr → Scope → Prop
  /-- the names that it captures -/
  fr : Nat → List Str
variable [Tbs]
def kD : Key → D
  | .inl i => .int i
  | .inr x => .str x

/-- the program's fragment of constant objects, and the world -/
structure Kw where
  fr : PySem.W.Frag
  w : World
abbrev _root_.L2.Cx.kw (X : Cx) : Kw := ⟨X.K, X.w⟩
/-- a tuple whose object is known to bear no dict of its own -/
def Tp (K : Kw) (H : Hp) (a : Addr) (xs : List V) : Prop :=
  (∃ o, H a = some (.frz o (.tup xs)) ∧ o.cls = .type "tuple" ∧ o.dict = none) ∨ ∃ (o : Obj) (its : Array Value) (n : Nat), K.fr.lookup a = some o ∧ o.dict = none ∧ o.cls = .type "tuple" ∧ o.data = .seq its n ∧ its.size ≤ sizeLine ∧ Vals xs its.toList
theorem Tp.sq {K : Kw} {H : Hp} {a : Addr} {xs : List V} (h : Tp K H a xs) : SqT K.fr H a xs := by
  rcases h with ⟨o, h, _⟩ | ⟨o, its, n, h1, _, h2, h3⟩
  · exact .inl (.inr ⟨o, h⟩)
  · exact .inr ⟨o, its, n, h1, h2, h3⟩
/-- an entry of a dict whose keys are tuples -/
def entN (w : World) (x : NestedKey × Addr × Value) : DictEntry := ⟨x.1.hash w, .ref x.2.1, x.2.2⟩
def DObj (K : Kw) (a : Addr) (o : Obj) (xs : List (NestedKey × Addr × Value)) : Prop :=
  xs ≠ [] ∧ (a == sysModules) = false ∧ xs.length ≤ sizeLine ∧ o.ExactDict ∧ (xs.map (·.1)).Nodup ∧ ∃ es ep, o.data = .dict es ep ∧ es.toList = xs.map (entN K.w)
abbrev isO (a : Addr) (o : Obj) : HO := .ext fun h => h.get? a = some o
/-- a list of the module itself: never changes -/
def KLst (K : Kw) (a : Addr) (xs : List V) : Prop :=
  ∃ (o : Obj) (its : Array Value) (n : Nat), K.fr.lookup a = some o ∧ o.cls = .type "list" ∧ o.dict = none ∧ o.data = .seq its n ∧ its.size ≤ sizeLine ∧ Vals xs its.toList
def LsR (K : Kw) (N : NS) (H : Hp) (a : Addr) (xs : List V) : Prop := (Rd H a (.lst xs) ∧ ¬ N a) ∨ KLst K a xs
theorem LsR.sq {K : Kw} {N : NS} {H : Hp} {a : Addr} {xs : List V} (h : LsR K N H a xs) : SqL K.fr H a xs := h.elim (fun h => .inl h.1) .inr

/-- the tables, and the code objects that they tell, which nobody owns -/
def TabO (N : NS) (H : Hp) : Prop := ∀ p ∈ Tbs.T, ∃ ps : Array Value, H p.1 = some (.tbl ps) ∧ TriplesOk ps.toList ∧ ∀ (pos : Pos) (cv : Value), codeAmong pos ps.toList = some cv → ∃ c, cv = .ref c ∧ H c = some (LamX.CodeO c p.2) ∧ ¬ N c
theorem TabO.tabs {N : NS} {H : Hp} (h : TabO N H) : LamX.Tabs Tbs.T H := fun p hp => by
  obtain ⟨ps, h1, h2, h3⟩ := h p hp
  exact ⟨ps, h1, h2, fun pos cv hc => let ⟨c, e1, e2, _⟩ := h3 pos cv hc; ⟨c, e1, e2⟩⟩
theorem TabO.ext {N N' : NS} {H H' : Hp} (h : TabO N H) (e : ∀ b o, H b = some o → ¬ N b ∨ (∃ ps, o = .tbl ps) → H' b = some o) (n : ∀ b, N' b → N b ∨ H b = none) : TabO N' H' := fun p hp => by
  obtain ⟨ps, h1, h2, h3⟩ := h p hp
  refine ⟨ps, e _ _ h1 (.inr ⟨ps, rfl⟩), h2, fun pos cv hc => ?_⟩
  obtain ⟨c, e1, e2, e3⟩ := h3 pos cv hc
  exact ⟨c, e1, e _ _ e2 (.inl e3), fun z => (n c z).elim e3 fun q => by rw [e2] at q; cases q⟩
/-- no table of code objects -/
def NTb (o : HO) : Prop := ∀ ps, o ≠ .tbl ps
/-- what is tracked, not owned and no table stays so -/
def Fz (N : NS) (H : Hp) (N' : NS) (H' : Hp) : Prop := ∀ b o, H b = some o → ¬ N b → NTb o → H' b = some o ∧ ¬ N' b
mutual
/-- v stands for the data d, all lists and dicts of it frozen (not in N, the owned ones) -/
inductive Rp (K : Kw) (N : NS) (H : Hp) : V → D → Prop
  | non : Rp K N H .non .none
  | bl (b : Bool) : Rp K N H (.bl b) (.bool b)
  | int (i : Int) : Rp K N H (.int i) (.int i)
  | str (x : Str) : Rp K N H (.str x) (.str x)
  | lst {a : Addr} {xs : List V} {ds : List D} : LsR K N H a xs → RpA K N H xs ds → Rp K N H (.ref a) (.list ds)
  | tup {a : Addr} {xs : List V} {ds : List D} : Tp K H a xs → RpA K N H xs ds → Rp K N H (.ref a) (.tuple ds)
  | dk {a : Addr} {kvs : List (Key × V)} {ds : List (D × D)} : H a = some (.dK kvs) → ¬ N a → RpK K N H kvs ds → Rp K N H (.ref a) (.dict ds)
  | dt {a : Addr} {o : Obj} {kvs : List (NestedKey × Addr × Value)} {ds : List (D × D)} : H a = some (isO a o) → ¬ N a → DObj K a o kvs → RpT K N H kvs ds → Rp K N H (.ref a) (.dict ds)
inductive RpA (K : Kw) (N : NS) (H : Hp) : List V → List D → Prop
  | nil : RpA K N H [] []
  | cons {v : V} {vs : List V} {d : D} {ds : List D} : Rp K N H v d → RpA K N H vs ds → RpA K N H (v :: vs) (d :: ds)
inductive RpK (K : Kw) (N : NS) (H : Hp) : List (Key × V) → List (D × D) → Prop
  | nil : RpK K N H [] []
  | cons {k : Key} {v : V} {r : List (Key × V)} {d : D} {s : List (D × D)} : Rp K N H v d → RpK K N H r s → RpK K N H ((k, v) :: r) ((kD k, d) :: s)
inductive RpT (K : Kw) (N : NS) (H : Hp) : List (NestedKey × Addr × Value) → List (D × D) → Prop
  | nil : RpT K N H [] []
  | cons {k : NestedKey} {b : Addr} {v : V} {u : Value} {r : List (NestedKey × Addr × Value)} {d : D} {s : List (D × D)} : k.depth ≤ 8 → Rp K N H (.ref b) k.data → RelV v u → Rp K N H v d → RpT K N H r s → RpT K N H ((k, b, u) :: r) ((k.data, d) :: s)
end

section
variable {K : Kw} {N N' : NS} {H H' : Hp}
mutual
theorem Rp.keep (hs : Fz N H N' H') (ht : ∀ b, N b → Mut (H b)) : ∀ {v : V} {d : D}, Rp K N H v d → Rp K N' H' v d
  | _, _, .non => .non
  | _, _, .bl b => .bl b
  | _, _, .int i => .int i
  | _, _, .str x => .str x
  | _, _, .lst h ha => .lst (by
      rcases h with ⟨h, n⟩ | h
      · rcases h with h | ⟨o, h⟩
        · exact .inl ⟨.inl (hs _ _ h n (by intro _ z; cases z)).1, (hs _ _ h n (by intro _ z; cases z)).2⟩
        · exact .inl ⟨.inr ⟨o, (hs _ _ h n (by intro _ z; cases z)).1⟩, (hs _ _ h n (by intro _ z; cases z)).2⟩
      · exact .inr h) (RpA.keep hs ht ha)
  | _, _, .tup (a := a) h ha => .tup (by
      rcases h with ⟨o, h, c⟩ | h
      · exact .inl ⟨o, (hs _ _ h (fun z => by have := ht a z; rw [h] at this; exact this) (by intro _ z; cases z)).1, c⟩
      · exact .inr h) (RpA.keep hs ht ha)
  | _, _, .dk h n ha => .dk (hs _ _ h n (by intro _ z; cases z)).1 (hs _ _ h n (by intro _ z; cases z)).2 (RpK.keep hs ht ha)
  | _, _, .dt h n o ha => .dt (hs _ _ h n (by intro _ z; cases z)).1 (hs _ _ h n (by intro _ z; cases z)).2 o (RpT.keep hs ht ha)
theorem RpA.keep (hs : Fz N H N' H') (ht : ∀ b, N b → Mut (H b)) : ∀ {v : List V} {d : List D}, RpA K N H v d → RpA K N' H' v d
  | _, _, .nil => .nil
  | _, _, .cons h t => .cons (Rp.keep hs ht h) (RpA.keep hs ht t)
theorem RpK.keep (hs : Fz N H N' H') (ht : ∀ b, N b → Mut (H b)) : ∀ {v : List (Key × V)} {d : List (D × D)}, RpK K N H v d → RpK K N' H' v d
  | _, _, .nil => .nil
  | _, _, .cons h t => .cons (Rp.keep hs ht h) (RpK.keep hs ht t)
theorem RpT.keep (hs : Fz N H N' H') (ht : ∀ b, N b → Mut (H b)) : ∀ {v : List (NestedKey × Addr × Value)} {d : List (D × D)}, RpT K N H v d → RpT K N' H' v d
  | _, _, .nil => .nil
  | _, _, .cons k b r h t => .cons k (Rp.keep hs ht b) r (Rp.keep hs ht h) (RpT.keep hs ht t)
end
theorem RpA.length : ∀ {v : List V} {d : List D}, RpA K N H v d → v.length = d.length
  | _, _, .nil => rfl
  | _, _, .cons _ t => congrArg (· + 1) t.length
theorem RpK.length : ∀ {v : List (Key × V)} {d : List (D × D)}, RpK K N H v d → v.length = d.length
  | _, _, .nil => rfl
  | _, _, .cons _ t => congrArg (· + 1) t.length
theorem RpA.append : ∀ {v v' : List V} {d d' : List D}, RpA K N H v d → RpA K N H v' d' → RpA K N H (v ++ v') (d ++ d')
  | _, _, _, _, .nil, s => s
  | _, _, _, _, .cons h t, s => .cons h (RpA.append t s)
theorem RpA.get : ∀ {v : List V} {d : List D} {i : Nat} {x : D}, RpA K N H v d → d[i]? = some x → ∃ y, v[i]? = some y ∧ Rp K N H y x
  | _, _, 0, _, .cons h _, e => by
    have e' := Option.some.inj e
    subst e'
    exact ⟨_, rfl, h⟩
  | _, _, i + 1, x, .cons _ t, e => RpA.get (i := i) t (by simpa using e)
theorem RpA.get' : ∀ {v : List V} {d : List D} {i : Nat} {y : V}, RpA K N H v d → v[i]? = some y → ∃ x, d[i]? = some x ∧ Rp K N H y x
  | _, _, 0, _, .cons h _, e => by
    have e' := Option.some.inj e
    subst e'
    exact ⟨_, rfl, h⟩
  | _, _, i + 1, x, .cons _ t, e => RpA.get' (i := i) t (by simpa using e)
theorem RpA.take : ∀ {v : List V} {d : List D} (n : Nat), RpA K N H v d → RpA K N H (v.take n) (d.take n)
  | _, _, 0, _ => .nil
  | _, _, _ + 1, .nil => .nil
  | _, _, n + 1, .cons h t => .cons h (RpA.take n t)
theorem RpA.drop : ∀ {v : List V} {d : List D} (n : Nat), RpA K N H v d → RpA K N H (v.drop n) (d.drop n)
  | _, _, 0, r => r
  | _, _, _ + 1, .nil => .nil
  | _, _, n + 1, .cons _ t => RpA.drop n t
theorem RpA.set {x : V} {y : D} (h : Rp K N H x y) : ∀ {v : List V} {d : List D} (i : Nat), RpA K N H v d → RpA K N H (v.set i x) (d.set i y)
  | _, _, _, .nil => .nil
  | _, _, 0, .cons _ t => .cons h t
  | _, _, i + 1, .cons q t => .cons q (RpA.set h i t)
theorem RpA.eraseIdx : ∀ {v : List V} {d : List D} (i : Nat), RpA K N H v d → RpA K N H (v.eraseIdx i) (d.eraseIdx i)
  | _, _, _, .nil => by simpa using RpA.nil
  | _, _, 0, .cons _ t => t
  | _, _, i + 1, .cons q t => .cons q (RpA.eraseIdx i t)
theorem RpA.dropLast {v : List V} {d : List D} (h : RpA K N H v d) : RpA K N H v.dropLast d.dropLast := by
  rw [List.dropLast_eq_take, List.dropLast_eq_take, h.length]
  exact h.take _
theorem RpA.rep {v : List V} {d : List D} (h : RpA K N H v d) : ∀ k : Nat, RpA K N H (List.replicate k v).flatten (List.replicate k d).flatten
  | 0 => .nil
  | k + 1 => by
    rw [List.replicate_succ, List.replicate_succ, List.flatten_cons, List.flatten_cons]
    exact h.append (RpA.rep h k)
theorem RpA.ints : ∀ {v : List V} {d : List D} {ns : List Int}, RpA K N H v d → intsOf d = some ns → v = ns.map V.int ∧ d = ns.map .int
  | _, _, _, .nil, e => by
    cases e
    exact ⟨rfl, rfl⟩
  | _, d :: ds, ns, .cons h t, e => by
    cases d with
    | int i =>
      cases h
      simp only [intsOf] at e
      cases q : intsOf ds with
      | none => rw [q] at e; cases e
      | some ms =>
        rw [q] at e
        cases e
        obtain ⟨h1, h2⟩ := RpA.ints t q
        rw [h1, h2]
        exact ⟨rfl, rfl⟩
    | _ => simp [intsOf] at e
theorem RpA.bools : ∀ {v : List V} {d : List D} {ns : List Bool}, RpA K N H v d → boolsOf d = some ns → v = ns.map V.bl ∧ d = ns.map .bool
  | _, _, _, .nil, e => by
    cases e
    exact ⟨rfl, rfl⟩
  | _, d :: ds, ns, .cons h t, e => by
    cases d with
    | bool i =>
      cases h
      simp only [boolsOf] at e
      cases q : boolsOf ds with
      | none => rw [q] at e; cases e
      | some ms =>
        rw [q] at e
        cases e
        obtain ⟨h1, h2⟩ := RpA.bools t q
        rw [h1, h2]
        exact ⟨rfl, rfl⟩
    | _ => simp [boolsOf] at e
theorem RpA.ofInts : ∀ (ns : List Int), RpA K N H (ns.map V.int) (ns.map .int)
  | [] => .nil
  | n :: ns => .cons (.int n) (RpA.ofInts ns)

/-! ### lambdas -/
/-- a captured cell: what it holds stays -/
abbrev CellO (o : Obj) : HO := .frz o (.own 0)
/-- the object at f is the lambda of these words, over the cells cl -/
def LamO (f : Addr) (q : Str) (params : Arguments) (body : Expr) (scope : Scope) (cl : List (Str × Addr)) (c : Addr) : HO :=
  .ext fun h => ∃ pm ctv : Value, h.get? f = some (PySem.W.kla_obj "<lambda>" q params body scope cl pm c ctv)
def ClA (K : Kw) (N : NS) (H : Hp) (cl : List (Str × Addr)) : List Str → List D → Prop
  | [], [] => True
  | y :: ys, d :: ds => (∃ (c : Addr) (o : Obj) (u : Value) (w : V), cl.lookup y = some c ∧ H c = some (CellO o) ∧ o.data = .cell (some u) ∧ RelV w u ∧ Rp K N H w d) ∧ ClA K N H cl ys ds
  | _, _ => False
/-- the cells of the captured names hold the data ds -/
structure ClR (K : Kw) (N : NS) (H : Hp) (cl : List (Str × Addr)) (fr : List Str) (ds : List D) : Prop where
  inj : ∀ x y c, cl.lookup x = some c → cl.lookup y = some c → x = y
  all : ∀ y c, cl.lookup y = some c → ∃ (o : Obj) (u : Value), H c = some (CellO o) ∧ o.data = .cell (some u) ∧ ¬ N c
  has : ClA K N H cl fr ds
structure CloR (K : Kw) (N : NS) (H : Hp) (v : V) (k : Nat) (ds : List D) : Prop where
  ex : ∃ (q : Str) (params : Arguments) (body : Expr) (scope : Scope) (f c : Addr) (cl : List (Str × Addr)), ds ≠ [] ∧ Tbs.isL k = true ∧ Tbs.fit k params body scope ∧ v = .ref f ∧ H f = some (LamO f q params body scope cl c) ∧ ¬ N f ∧ H c = some (LamX.CodeO c q) ∧ ¬ N c ∧ ClR K N H cl (Tbs.fr k) ds
def FnR (K : Kw) (Fa : Nat → Addr) (N : NS) (H : Hp) (v : V) (k : Nat) (ds : List D) : Prop := (Tbs.isL k = false ∧ ds = [] ∧ v = .ref (Fa k)) ∨ CloR K N H v k ds
theorem ClA.keep {cl : List (Str × Addr)} (hs : Fz N H N' H') (ht : ∀ b, N b → Mut (H b)) (hn : ∀ y c, cl.lookup y = some c → ¬ N c) : ∀ {fr : List Str} {ds : List D}, ClA K N H cl fr ds → ClA K N' H' cl fr ds
  | [], [], _ => trivial
  | y :: ys, d :: ds, h => by
    obtain ⟨⟨c, o, u, w, q1, q2, q3, q4, q5⟩, t⟩ := h
    exact ⟨⟨c, o, u, w, q1, (hs _ _ q2 (hn y c q1) (by intro _ z; cases z)).1, q3, q4, q5.keep hs ht⟩, ClA.keep hs ht hn t⟩
  | [], _ :: _, h => h.elim
  | _ :: _, [], h => h.elim
theorem ClR.keep {cl : List (Str × Addr)} {fr : List Str} {ds : List D} (h : ClR K N H cl fr ds) (hs : Fz N H N' H') (ht : ∀ b, N b → Mut (H b)) : ClR K N' H' cl fr ds := by
  refine ⟨h.inj, fun y c e => ?_, ClA.keep hs ht (fun y c e => let ⟨_, _, _, _, z⟩ := h.all y c e; z) h.has⟩
  obtain ⟨o, u, e1, e2, e3⟩ := h.all y c e
  obtain ⟨q1, q2⟩ := hs _ _ e1 e3 (by intro _ z; cases z)
  exact ⟨o, u, q1, e2, q2⟩
theorem FnR.keep {Fa : Nat → Addr} {v : V} {k : Nat} {ds : List D} (h : FnR K Fa N H v k ds) (hs : Fz N H N' H') (ht : ∀ b, N b → Mut (H b)) : FnR K Fa N' H' v k ds := by
  rcases h with h | ⟨q, params, body, scope, f, c, cl, h00, h0, h1, h2, h3, h4, h5, h6, h7⟩
  · exact .inl h
  · obtain ⟨p1, p2⟩ := hs _ _ h3 h4 (by intro _ z; cases z)
    obtain ⟨p3, p4⟩ := hs _ _ h5 h6 LamX.codeO_ne
    exact .inr ⟨q, params, body, scope, f, c, cl, h00, h0, h1, h2, p1, p2, p3, p4, h7.keep hs ht⟩
/-- an owned list or dict at a -/
def RpM (K : Kw) (N : NS) (H : Hp) (a : Addr) : D → Prop
  | .list ds => ∃ xs, H a = some (.lst xs) ∧ RpA K N H xs ds
  | .dict ds => (∃ kvs, H a = some (.dK kvs) ∧ RpK K N H kvs ds) ∨ ∃ o kvs, H a = some (isO a o) ∧ DObj K a o kvs ∧ RpT K N H kvs ds
  | _ => False
/-- data as it is looked at: frozen, or owned -/
def DR (K : Kw) (N : NS) (H : Hp) (v : V) (d : D) : Prop := Rp K N H v d ∨ ∃ a, v = .ref a ∧ N a ∧ RpM K N H a d
end

/-- from (N, H) to (N', H'): only what is in O has changed -/
structure Ext (O N : NS) (H : Hp) (N' : NS) (H' : Hp) : Prop where
  keep : ∀ b o, H b = some o → ¬ O b → NTb o → H' b = some o
  tab : TabO N H → TabO N' H'
  new : ∀ b, N' b → N b ∨ H b = none
  stay : ∀ b, N b → ¬ O b → N' b
  sub : ∀ b, O b → N b
  there : ∀ b, H b ≠ none → H' b ≠ none
section
variable {K : Kw} {O O1 N N' N1 : NS} {H H' H1 : Hp} {v : V} {d : D} {a : Addr}
theorem Ext.rps (E : Ext O N H N' H') : Fz N H N' H' := fun b o h n t =>
  ⟨E.keep b o h (fun z => n (E.sub b z)) t, fun z => (E.new b z).elim n fun q => by rw [h] at q; cases q⟩
theorem Rp.ext (h : Rp K N H v d) (E : Ext O N H N' H') (t : ∀ b, N b → Mut (H b)) : Rp K N' H' v d := h.keep E.rps t
theorem RpA.ext {xs : List V} {ds : List D} (h : RpA K N H xs ds) (E : Ext O N H N' H') (t : ∀ b, N b → Mut (H b)) : RpA K N' H' xs ds := h.keep E.rps t
theorem RpM.ext (h : RpM K N H a d) (E : Ext O N H N' H') (t : ∀ b, N b → Mut (H b)) (n : ¬ O a) : RpM K N' H' a d := by
  cases d with
  | list ds =>
    obtain ⟨xs, h1, h2⟩ := h
    exact ⟨xs, E.keep _ _ h1 n (by intro _ z; cases z), h2.ext E t⟩
  | dict ds =>
    rcases h with ⟨xs, h1, h2⟩ | ⟨xs, kvs, h1, h0, h2⟩
    · exact .inl ⟨xs, E.keep _ _ h1 n (by intro _ z; cases z), h2.keep E.rps t⟩
    · exact .inr ⟨xs, kvs, E.keep _ _ h1 n (by intro _ z; cases z), h0, h2.keep E.rps t⟩
  | _ => exact h
theorem Ext.refl (h : ∀ b, O b → N b) : Ext O N H N H := ⟨fun _ _ e _ _ => e, fun h => h, fun _ h => .inl h, fun _ h _ => h, h, fun _ h => h⟩
theorem Ext.trans (E : Ext O N H N1 H1) (F : Ext O1 N1 H1 N' H') (s : ∀ b, O1 b → O b ∨ H b = none) (t : ∀ b, N b → H b ≠ none) : Ext O N H N' H' where
  keep := fun b o h n t => F.keep b o (E.keep b o h n t) (fun z => (s b z).elim n fun q => by rw [h] at q; cases q) t
  tab := fun h => F.tab (E.tab h)
  new := fun b z => by
    rcases F.new b z with z | z
    · exact E.new b z
    · refine .inr ?_
      cases q : H b with
      | none => rfl
      | some o => exact absurd z (E.there b (by rw [q]; simp))
  stay := fun b z n => F.stay b (E.stay b z n) fun q => (s b q).elim n (t b z)
  sub := E.sub
  there := fun b h => F.there b (E.there b h)
end

/-! ## slots -/
section
variable (K : Kw) (Fa : Nat → Addr)
def own (r : En) (σ : L2.St) (b : Addr) : Prop := ∃ (i : Nat) (d : D), r[i]? = some (some (.dat true d)) ∧ σ[i]? = some (some (.ref b))
def SvR (N : NS) (H : Hp) (v : V) : Sv → Prop
  | .dat false d => Rp K N H v d
  | .dat true d => ∃ a, v = .ref a ∧ N a ∧ RpM K N H a d
  | .fn k ds => FnR K Fa N H v k ds
  | .exn _ => True
structure Good (pr : List (Nat × Addr)) (r : En) (σ : L2.St) (N : NS) (H : Hp) : Prop where
  len : r.length = σ.length
  slot : ∀ (i : Nat) (s : Sv), r[i]? = some (some s) → ∃ v, σ[i]? = some (some v) ∧ SvR K Fa N H v s
  inj : ∀ (i j : Nat) (d e : D) (a : Addr), r[i]? = some (some (.dat true d)) → r[j]? = some (some (.dat true e)) → σ[i]? = some (some (.ref a)) → σ[j]? = some (some (.ref a)) → i = j
  trk : ∀ b, N b → Mut (H b)
  prs : ∀ p ∈ pr, σ[p.1]? = some (some (.ref p.2))
  tab : TabO N H
def RR (r : En) (σ : L2.St) (N : NS) (H : Hp) (v : V) : R → Prop
  | .val false d => Rp K N H v d
  | .val true d => ∃ a, v = .ref a ∧ N a ∧ RpM K N H a d ∧ ¬ own r σ a
  | .sl i => σ[i]? = some (some v) ∧ ∃ (o : Bool) (d : D), r[i]? = some (some (.dat o d))
  | .fn k ds => FnR K Fa N H v k ds
structure Stp (r : En) (σ : L2.St) (N : NS) (H : Hp) (r' : En) (N' : NS) (H' : Hp) : Prop where
  ext : Ext (own r σ) N H N' H'
  own : ∀ b, own r' σ b → own r σ b
  dat : ∀ i : Nat, (∃ (o : Bool) (d : D), r[i]? = some (some (.dat o d))) → ∃ (o : Bool) (d : D), r'[i]? = some (some (.dat o d))
end
section
variable {K : Kw} {Fa : Nat → Addr} {pr : List (Nat × Addr)} {r r1 r' : En} {σ : L2.St} {N N1 N' : NS} {H H1 H' : Hp} {v : V} {d : D} {a : Addr}
theorem mutSome {o : Option HO} (h : Mut o) : o ≠ none := by
  cases o with
  | none => exact h.elim
  | some _ => simp
theorem Good.ownN (g : Good K Fa pr r σ N H) : ∀ b, own r σ b → N b := fun b ⟨i, d, h1, h2⟩ => by
  obtain ⟨v, h3, a, h4, h5, _⟩ := g.slot i _ h1
  rw [h2] at h3
  cases h3
  cases h4
  exact h5
theorem Stp.refl (g : Good K Fa pr r σ N H) : Stp r σ N H r N H := ⟨Ext.refl g.ownN, fun _ h => h, fun _ h => h⟩
theorem Stp.trans (g : Good K Fa pr r σ N H) (s : Stp r σ N H r1 N1 H1) (t : Stp r1 σ N1 H1 r' N' H') : Stp r σ N H r' N' H' :=
  ⟨s.ext.trans t.ext (fun b h => .inl (s.own b h)) fun b h => mutSome (g.trk b h), fun b h => s.own b (t.own b h), fun i h => t.dat i (s.dat i h)⟩
theorem RR.stp {x : R} (h : RR K Fa r σ N H v x) (s : Stp r σ N H r' N' H') (g : Good K Fa pr r σ N H) : RR K Fa r' σ N' H' v x := by
  cases x with
  | val o d =>
    cases o with
    | false => exact Rp.ext h s.ext g.trk
    | true =>
      obtain ⟨a, h1, h2, h3, h4⟩ := h
      exact ⟨a, h1, s.ext.stay a h2 h4, h3.ext s.ext g.trk h4, fun z => h4 (s.own a z)⟩
  | sl i => exact ⟨h.1, s.dat i h.2⟩
  | fn k ds => exact FnR.keep h s.ext.rps g.trk
theorem RR.look {x : R} (h : RR K Fa r σ N H v x) (g : Good K Fa pr r σ N H) (e : dref r x = some d) : DR K N H v d := by
  cases x with
  | val o d' =>
    cases e
    cases o with
    | false => exact .inl h
    | true =>
      obtain ⟨a, h1, h2, h3, _⟩ := h
      exact .inr ⟨a, h1, h2, h3⟩
  | sl i =>
    obtain ⟨h1, o, d', h2⟩ := h
    simp only [dref, h2] at e
    cases e
    obtain ⟨v', h3, h4⟩ := g.slot i _ h2
    rw [h1] at h3
    cases h3
    cases o with
    | false => exact .inl h4
    | true => exact .inr h4
  | fn k ds => cases e
/-! what is seen of data that is looked at -/
theorem DR.int {i : Int} (h : DR K N H v (.int i)) : v = .int i := by
  rcases h with h | ⟨_, _, _, h⟩
  · cases h; rfl
  · exact h.elim
theorem DR.bool {i : Bool} (h : DR K N H v (.bool i)) : v = .bl i := by
  rcases h with h | ⟨_, _, _, h⟩
  · cases h; rfl
  · exact h.elim
theorem DR.str {i : Str} (h : DR K N H v (.str i)) : v = .str i := by
  rcases h with h | ⟨_, _, _, h⟩
  · cases h; rfl
  · exact h.elim
theorem DR.non (h : DR K N H v .none) : v = .non := by
  rcases h with h | ⟨_, _, _, h⟩
  · cases h; rfl
  · exact h.elim
theorem DR.lst {ds : List D} (h : DR K N H v (.list ds)) : ∃ a xs, v = .ref a ∧ SqL K.fr H a xs ∧ RpA K N H xs ds := by
  rcases h with h | ⟨a, h1, _, xs, h2, h3⟩
  · cases h with
    | lst h ha => exact ⟨_, _, rfl, h.sq, ha⟩
  · exact ⟨a, xs, h1, .inl (.inl h2), h3⟩
theorem DR.tup {ds : List D} (h : DR K N H v (.tuple ds)) : ∃ a xs, v = .ref a ∧ Tp K H a xs ∧ RpA K N H xs ds := by
  rcases h with h | ⟨_, _, _, h⟩
  · cases h with
    | tup h ha => exact ⟨_, _, rfl, h, ha⟩
  · exact h.elim
theorem DR.dic {ds : List (D × D)} (h : DR K N H v (.dict ds)) : ∃ a, v = .ref a ∧ ((∃ kvs, H a = some (.dK kvs) ∧ RpK K N H kvs ds) ∨ ∃ o kvs, H a = some (isO a o) ∧ DObj K a o kvs ∧ RpT K N H kvs ds) := by
  rcases h with h | ⟨a, h1, _, h2⟩
  · cases h with
    | dk h n ha => exact ⟨_, rfl, .inl ⟨_, h, ha⟩⟩
    | dt h n o ha => exact ⟨_, rfl, .inr ⟨_, _, h, o, ha⟩⟩
  · rcases h2 with ⟨kvs, h2, h3⟩ | ⟨o, kvs, h2, h3, h4⟩
    · exact ⟨a, h1, .inl ⟨kvs, h2, h3⟩⟩
    · exact ⟨a, h1, .inr ⟨o, kvs, h2, h3, h4⟩⟩
end
end E2

set_option Elab.async false
set_option linter.all false
set_option maxRecDepth 100000
namespace E2
variable [Tbs]
open PySem PySem.Spec PyProof.Rows L2

section
variable (K : Kw) (Fa Ca : Nat → Addr)
/-- an exception, as it lies -/
def XR (x : Ex) (cls : Value) (d : Option Addr) (H : Hp) : Prop := cls = Value.ref (Ca x.cls) ∧ (x.fs ≠ [] → ∃ dd fs, d = some dd ∧ H dd = some (.xd fs) ∧ ∀ f u, x.fs.lookup f = some u → ∃ v, fs.lookup f = some v ∧ ∀ (N : NS), Rp K N H v u)
variable (pr : List (Nat × Addr)) (W : WX)
/-- a result against what runs: y the pure result, started at r and N, now at r', N', H'; v the model's -/
abbrev Rel (α β : Type) := α → En → NS → En → L2.St → NS → Hp → β → Prop
def PostG {α β : Type} (rel : Rel α β) (r : En) (σ : L2.St) (N : NS) (H : Hp) (Q : β → Hp → Prop) : Rs α → Prop
  | .ok y r' => ∀ v H' N', Stp r σ N H r' N' H' → Good K Fa pr r' σ N' H' → rel y r N r' σ N' H' v → Q v H'
  | .exc x r' => ∀ cls d H' N', Stp r σ N H r' N' H' → Good K Fa pr r' σ N' H' → XR K Ca x cls d H' → W cls d σ H'
  | .stuck => False
def tG {α β : Type} (rel : Rel α β) (f : En → Rs α) : L2.St → Hp → (β → Hp → Prop) → Prop := fun σ H Q =>
  ∃ r N, Good K Fa pr r σ N H ∧ PostG K Fa Ca pr W rel r σ N H Q (f r)
/-- a new list's address was not owned by others at the start -/
def Fsh (r : En) (σ : L2.St) (N : NS) (v : V) : R → Prop
  | .val true _ => ∀ a, v = .ref a → N a → own r σ a
  | _ => True
def RF (r0 : En) (N0 : NS) (r : En) (σ : L2.St) (N : NS) (H : Hp) (v : V) (y : R) : Prop := RR K Fa r σ N H v y ∧ Fsh r0 σ N0 v y
def relE : Rel R V := fun y r0 N0 r σ N H v => RF K Fa r0 N0 r σ N H v y
def relB : Rel Bool Bool := fun y _ _ _ _ _ _ b => b = y
def relO : Rel (Option Int) (Option Int) := fun y _ _ _ _ _ _ b => b = y
abbrev tE (f : En → Rs R) : TE := tG K Fa Ca pr W (relE K Fa) f
abbrev tB (f : En → Rs Bool) : TT := tG K Fa Ca pr W relB f
abbrev tOp (f : En → Rs (Option Int)) : TO := tG K Fa Ca pr W relO f
end
section
variable {K : Kw} {Fa Ca : Nat → Addr} {pr : List (Nat × Addr)} {W : WX} {r r1 r' : En} {σ : L2.St} {N N1 N' : NS} {H H1 H' : Hp} {v : V} {d : D} {a : Addr} {α β γ δ : Type}
/-- one part, then the rest; r0 N0 H0 is where the whole began -/
theorem tG_bind {rel : Rel α β} {rel2 : Rel γ δ} {f : En → Rs α} {k : α → En → Rs γ} {Q : δ → Hp → Prop} {r0 : En} {N0 : NS} {H0 : Hp} (g0 : Good K Fa pr r0 σ N0 H0) (s : Stp r0 σ N0 H0 r N H) (g : Good K Fa pr r σ N H)
    (h : PostG K Fa Ca pr W rel2 r0 σ N0 H0 Q ((f r).bind k)) :
    tG K Fa Ca pr W rel f σ H (fun v H1 => ∃ y r1 N1, Stp r σ N H r1 N1 H1 ∧ Stp r0 σ N0 H0 r1 N1 H1 ∧ Good K Fa pr r1 σ N1 H1 ∧ rel y r N r1 σ N1 H1 v ∧ PostG K Fa Ca pr W rel2 r0 σ N0 H0 Q (k y r1)) := by
  refine ⟨r, N, g, ?_⟩
  cases e : f r with
  | ok y r' =>
    rw [e] at h
    exact fun v H' N' s' g' q => ⟨y, r', N', s', s.trans g0 s', g', q, h⟩
  | exc x r' =>
    rw [e] at h
    exact fun c d H' N' s' g' q => h c d H' N' (s.trans g0 s') g' q
  | stuck =>
    rw [e] at h
    exact h
theorem PostG.val {Q : V → Hp → Prop} {d : D} {v : V} {r0 : En} {N0 : NS} {H0 : Hp} (h : PostG K Fa Ca pr W (relE K Fa) r0 σ N0 H0 Q (.ok (.val false d) r)) (s : Stp r0 σ N0 H0 r N H) (g : Good K Fa pr r σ N H) (q : Rp K N H v d) : Q v H := h v H N s g ⟨q, trivial⟩
theorem PE.imp {X : Cx} {e : Expr} {t t' : TE} (h : PE X e t) (i : ∀ σ H Q, t' σ H Q → t σ H Q) : PE X e t' := ⟨fun pins s σ H Q I q => h.run pins s σ H Q I (i σ H Q q)⟩
theorem PT.imp {X : Cx} {e : Expr} {t t' : TT} (h : PT X e t) (i : ∀ σ H Q, t' σ H Q → t σ H Q) : PT X e t' := ⟨fun pins s σ H Q I q => h.run pins s σ H Q I (i σ H Q q)⟩
theorem PW.imp {X : Cx} {e : Expr} {t t' : TT} (h : PW X e t) (i : ∀ σ H Q, t' σ H Q → t σ H Q) : PW X e t' := ⟨fun wh pins s σ H Q I q => h.run wh pins s σ H Q I (i σ H Q q)⟩
theorem PA.imp {X : Cx} {e : List Expr} {t t' : TA} (h : PA X e t) (i : ∀ σ H Q, t' σ H Q → t σ H Q) : PA X e t' := ⟨fun pos pins s σ H Q I q => h.run pos pins s σ H Q I (i σ H Q q)⟩
theorem PO.imp {X : Cx} {e : Option Expr} {t t' : TO} (h : PO X e t) (i : ∀ σ H Q, t' σ H Q → t σ H Q) : PO X e t' := ⟨fun pins s σ H Q I q => h.run pins s σ H Q I (i σ H Q q)⟩

/-! ### new objects -/
theorem upd_keep {p : Addr} {o : HO} (hp : H p = none) : ∀ b u, H b = some u → upd H p o b = some u := fun b u e => by rw [upd_ne (ne_of_none e hp)]; exact e
theorem tabs_mut {N : NS} {H : Hp} {a : Addr} {o : HO} (n : N a) (m : Mut (H a)) (h : TabO N H) : TabO N (upd H a o) := h.ext (fun b u e k => by
  have : b ≠ a := fun z => by
    subst z
    rcases k with k | ⟨ps, rfl⟩
    · exact k n
    · rw [e] at m; exact m
  rw [upd_ne this]; exact e) fun _ z => .inl z
theorem ext_newT {O : NS} {p : Addr} {o : HO} (hp : H p = none) (s : ∀ b, O b → N b) : Ext O N H N (upd H p o) :=
  ⟨fun b u e _ _ => upd_keep hp b u e, fun h => h.ext (fun b u e _ => upd_keep hp b u e) (fun _ z => .inl z), fun _ h => .inl h, fun _ h _ => h, s, fun b h => by
    cases e : H b with
    | none => exact absurd e h
    | some u => rw [upd_keep hp b u e]; simp⟩
theorem ext_newL {O : NS} {p : Addr} {o : HO} (hp : H p = none) (s : ∀ b, O b → N b) : Ext O N H (fun b => N b ∨ b = p) (upd H p o) :=
  ⟨fun b u e _ _ => upd_keep hp b u e, fun h => h.ext (fun b u e _ => upd_keep hp b u e) (fun _ z => z.elim .inl fun e => .inr (e ▸ hp)), fun b h => h.elim .inl fun e => .inr (e ▸ hp), fun _ h _ => .inl h, s, fun b h => by
    cases e : H b with
    | none => exact absurd e h
    | some u => rw [upd_keep hp b u e]; simp⟩
theorem trk_newT {p : Addr} {o : HO} (hp : H p = none) (t : ∀ b, N b → Mut (H b)) : ∀ b, N b → Mut (upd H p o b) := fun b h => by
  have q := t b h
  cases e : H b with
  | none => rw [e] at q; exact q.elim
  | some u => rw [upd_keep hp b u e]; rw [e] at q; exact q
theorem trk_newL {p : Addr} {o : HO} (hp : H p = none) (mo : Mut (some o)) (t : ∀ b, N b → Mut (H b)) : ∀ b, (N b ∨ b = p) → Mut (upd H p o b) := fun b h => by
  rcases h with h | h
  · exact trk_newT hp t b h
  · rw [h, upd_same]; exact mo
theorem SvR.ext {O : NS} {s : Sv} (h : SvR K Fa N H v s) (E : Ext O N H N' H') (t : ∀ b, N b → Mut (H b)) (no : ∀ a d, s = .dat true d → v = .ref a → ¬ O a) : SvR K Fa N' H' v s := by
  cases s with
  | dat o d =>
    cases o with
    | false => exact Rp.ext h E t
    | true =>
      obtain ⟨a, h1, h2, h3⟩ := h
      exact ⟨a, h1, E.stay a h2 (no a d rfl h1), h3.ext E t (no a d rfl h1)⟩
  | fn k ds => exact FnR.keep h E.rps t
  | exn x => trivial
/-- nothing of what stood has changed -/
theorem Good.ext0 (g : Good K Fa pr r σ N H) (E : Ext (fun _ => False) N H N' H') (t : ∀ b, N' b → Mut (H' b)) : Good K Fa pr r σ N' H' :=
  ⟨g.len, fun i s e => let ⟨v, h1, h2⟩ := g.slot i s e; ⟨v, h1, h2.ext E g.trk fun _ _ _ _ z => z⟩, g.inj, t, g.prs, E.tab g.tab⟩
theorem Ext.widen {O : NS} (E : Ext (fun _ => False) N H N' H') (s : ∀ b, O b → N b) : Ext O N H N' H' :=
  ⟨fun b o e _ t => E.keep b o e (fun z => z) t, E.tab, E.new, fun b h _ => E.stay b h (fun z => z), s, E.there⟩
theorem Good.stp0 (g : Good K Fa pr r σ N H) (E : Ext (fun _ => False) N H N' H') : Stp r σ N H r N' H' := ⟨E.widen g.ownN, fun _ h => h, fun _ h => h⟩
/-- a new tuple is the value -/
theorem PostG.newT {Q : V → Hp → Prop} {xs : List V} {ds : List D} {p : Addr} {ob : Obj} {r0 : En} {N0 : NS} {H0 : Hp} (h : PostG K Fa Ca pr W (relE K Fa) r0 σ N0 H0 Q (.ok (.val false (.tuple ds)) r)) (g0 : Good K Fa pr r0 σ N0 H0) (s : Stp r0 σ N0 H0 r N H) (g : Good K Fa pr r σ N H) (hp : H p = none) (oc : ob.cls = .type "tuple") (od : ob.dict = none) (ra : RpA K N H xs ds) :
    Q (.ref p) (upd H p (.frz ob (.tup xs))) := by
  have E : Ext (fun _ => False) N H N (upd H p (.frz ob (.tup xs))) := ext_newT hp fun _ z => z.elim
  exact h _ _ N (s.trans g0 (g.stp0 E)) (g.ext0 E (trk_newT hp g.trk)) ⟨.tup (.inl ⟨ob, upd_same, oc, od⟩) (ra.ext E g.trk), trivial⟩
theorem Good.noOwn (g : Good K Fa pr r σ N H) {p : Addr} (hp : H p = none) : ¬ own r σ p := fun z => mutSome (g.trk p (g.ownN p z)) hp
theorem Good.noN0 {r0 : En} {N0 : NS} {H0 : Hp} (g0 : Good K Fa pr r0 σ N0 H0) (s : Stp r0 σ N0 H0 r N H) {p : Addr} (hp : H p = none) : ¬ N0 p := fun z => s.ext.there p (mutSome (g0.trk p z)) hp
/-- a new list is the value -/
theorem PostG.newM {Q : V → Hp → Prop} {o : HO} {d : D} {p : Addr} {r0 : En} {N0 : NS} {H0 : Hp} (h : PostG K Fa Ca pr W (relE K Fa) r0 σ N0 H0 Q (.ok (.val true d) r)) (g0 : Good K Fa pr r0 σ N0 H0) (s : Stp r0 σ N0 H0 r N H) (g : Good K Fa pr r σ N H) (hp : H p = none)
    (mo : Mut (some o)) (ra : ∀ N', Ext (fun _ => False) N H N' (upd H p o) → RpM K N' (upd H p o) p d) : Q (.ref p) (upd H p o) := by
  have E : Ext (fun _ => False) N H (fun b => N b ∨ b = p) (upd H p o) := ext_newL hp fun _ z => z.elim
  refine h _ _ _ (s.trans g0 (g.stp0 E)) (g.ext0 E (trk_newL hp mo g.trk)) ⟨⟨p, rfl, .inr rfl, ra _ E, g.noOwn hp⟩, fun a e z => ?_⟩
  cases e
  exact absurd z (g0.noN0 s hp)
theorem PostG.newL {Q : V → Hp → Prop} {xs : List V} {ds : List D} {p : Addr} {r0 : En} {N0 : NS} {H0 : Hp} (h : PostG K Fa Ca pr W (relE K Fa) r0 σ N0 H0 Q (.ok (.val true (.list ds)) r)) (g0 : Good K Fa pr r0 σ N0 H0) (s : Stp r0 σ N0 H0 r N H) (g : Good K Fa pr r σ N H) (hp : H p = none) (ra : RpA K N H xs ds) :
    Q (.ref p) (upd H p (.lst xs)) := h.newM g0 s g hp trivial fun N' E => ⟨xs, upd_same, ra.ext E g.trk⟩

/-! ### names and constants -/
theorem fe_var {X : Cx} {i : Nat} {x : Str} {pos : Pos} {G : Gs} (hN : X.N[i]? = some x) (hv : Vis X.env.scope x) (hd : (x == ("__debug__" : Str)) = false) (hcd : (x == ("__classdict__" : Str)) = false) :
    PE X (.Name x pos) (tE K Fa Ca pr W (evE G (.var i))) := by
  refine PE.imp (pe_var hN hv hd hcd) fun σ H Q h => ?_
  obtain ⟨r, N, g, h⟩ := h
  simp only [evE, nameR] at h
  split at h
  · rename_i x' e
    split at e
    · rename_i d ei
      cases e
      obtain ⟨v, h1, h2⟩ := g.slot i _ ei
      exact ⟨v, h1, h.val (Stp.refl g) g h2⟩
    · rename_i d ei
      cases e
      obtain ⟨v, h1, h2⟩ := g.slot i _ ei
      exact ⟨v, h1, h v H N (Stp.refl g) g ⟨⟨h1, true, d, ei⟩, trivial⟩⟩
    · rename_i k ei
      cases e
      obtain ⟨v, h1, h2⟩ := g.slot i _ ei
      exact ⟨v, h1, h v H N (Stp.refl g) g ⟨h2, trivial⟩⟩
    · cases e
  · exact h.elim
/-- constants -/
inductive CRel : Const → D → Prop
  | non : CRel .none .none
  | bl (b : Bool) : CRel (.bool b) (.bool b)
  | int (i : Int) : CRel (.int i) (.int i)
  | str (x : Str) : CRel (.str x) (.str x)
theorem fe_cst {X : Cx} {c : Const} {d : D} {j : Nat} {pos : Pos} {G : Gs} (hc : CRel c d) : PE X (.Constant c j pos) (tE K Fa Ca pr W (evE G (.cst d))) := by
  cases hc with
  | non => exact PE.imp pe_non fun σ H Q ⟨r, N, g, h⟩ => PostG.val (v := V.non) (by simpa only [evE] using h) (Stp.refl g) g Rp.non
  | bl b => exact PE.imp pe_bl fun σ H Q ⟨r, N, g, h⟩ => PostG.val (v := V.bl b) (by simpa only [evE] using h) (Stp.refl g) g (Rp.bl b)
  | int b => exact PE.imp pe_int fun σ H Q ⟨r, N, g, h⟩ => PostG.val (v := V.int b) (by simpa only [evE] using h) (Stp.refl g) g (Rp.int b)
  | str b => exact PE.imp pe_str fun σ H Q ⟨r, N, g, h⟩ => PostG.val (v := V.str b) (by simpa only [evE] using h) (Stp.refl g) g (Rp.str b)

theorem tG_mono {rel : Rel α β} {f : En → Rs α} {Q Q' : β → Hp → Prop} (h : tG K Fa Ca pr W rel f σ H Q) (m : ∀ v H', Q v H' → Q' v H') : tG K Fa Ca pr W rel f σ H Q' := by
  obtain ⟨r, N, g, h⟩ := h
  refine ⟨r, N, g, ?_⟩
  cases e : f r with
  | ok y r' =>
    rw [e] at h
    exact fun v H' N' s' g' q' => m _ _ (h v H' N' s' g' q')
  | exc x r' =>
    rw [e] at h
    exact h
  | stuck =>
    rw [e] at h
    exact h

/-! ### two parts, an operation by values -/
/-- data in; the rest is a result that needs no further running -/
def rEv (K : Kw) (Fa Ca : Nat → Addr) (pr : List (Nat × Addr)) (W : WX) (k : D → D → En → Rs R) : R2 := fun x y H Q => ∃ (r0 : En) (σ : L2.St) (N0 : NS) (H0 : Hp) (r : En) (N : NS) (d f : D), Good K Fa pr r0 σ N0 H0 ∧ Stp r0 σ N0 H0 r N H ∧ Good K Fa pr r σ N H ∧ DR K N H x d ∧ DR K N H y f ∧ PostG K Fa Ca pr W (relE K Fa) r0 σ N0 H0 Q (k d f r)
theorem fe_bin2 {X : Cx} {e : Expr} {A B : CE} {G : Gs} {k : D → D → En → Rs R} {C : CE}
    (hev : ∀ r, evE G C r = (evE G A r).bind fun x r1 => (evE G B r1).bind fun y r2 => match dref r2 x, dref r2 y with
      | some d, some e => k d e r2
      | _, _ => .stuck)
    (h : PE X e (L2.tOp (rEv K Fa Ca pr W k) (tE K Fa Ca pr W (evE G A)) (tE K Fa Ca pr W (evE G B)))) : PE X e (tE K Fa Ca pr W (evE G C)) := by
  refine PE.imp h fun σ H Q ⟨r, N, g, h⟩ => ?_
  rw [hev] at h
  refine tG_mono (tG_bind (rel := relE K Fa) g (Stp.refl g) g h) fun v H1 ⟨y, r1, N1, _, s1, g1, q1, p1⟩ => ?_
  refine tG_mono (tG_bind (rel := relE K Fa) g s1 g1 p1) fun v2 H2 ⟨y2, r2, N2, t2, s2, g2, q2, p2⟩ => ?_
  have q1' := RR.stp q1.1 t2 g1
  cases e1 : dref r2 y with
  | none => rw [e1] at p2; exact p2.elim
  | some d1 =>
    cases e2 : dref r2 y2 with
    | none => rw [e1, e2] at p2; exact p2.elim
    | some d2 =>
      rw [e1, e2] at p2
      exact ⟨r, σ, N, H, r2, N2, d1, d2, g, s2, g2, RR.look q1' g2 e1, RR.look q2.1 g2 e2, p2⟩

/-! ### data as the library's rules ask for it -/
mutual
theorem Rp.dp : ∀ (d : D) (v : V), Rp K N H v d → d.canLay0 = true → Dp K.fr H v d
  | .none, _, h, _ => by cases h; exact .non
  | .bool b, _, h, _ => by cases h; exact .bl b
  | .int b, _, h, _ => by cases h; exact .int b
  | .str b, _, h, _ => by cases h; exact .str b
  | .list ds, _, h, c => by
    cases h with
    | lst h ha => exact .lst h.sq (RpA.dp ds _ ha (by simpa [PyData.canLay0] using c))
  | .tuple ds, _, h, c => by
    cases h with
    | tup h ha => exact .tup h.sq (RpA.dp ds _ ha (by simpa [PyData.canLay0] using c))
  | .dict ds, _, _, c => by simp [PyData.canLay0] at c
theorem RpA.dp : ∀ (ds : List D) (vs : List V), RpA K N H vs ds → PyData.canLayAll0 ds = true → DpAll K.fr H vs ds
  | [], _, h, _ => by cases h; exact .nil
  | d :: ds, _, h, c => by
    simp only [PyData.canLayAll0, Bool.and_eq_true] at c
    cases h with
    | cons h t => exact .cons (Rp.dp d _ h c.1) (RpA.dp ds _ t c.2)
end
theorem DR.dp (h : DR K N H v d) (c : d.canLay0 = true) : Dp K.fr H v d := by
  rcases h with h | ⟨a, h1, _, h2⟩
  · exact h.dp _ _ c
  · cases d with
    | list ds =>
      obtain ⟨xs, h3, h4⟩ := h2
      subst h1
      exact .lst (.inl (.inl h3)) (h4.dp _ _ (by simpa [PyData.canLay0] using c))
    | dict ds => simp [PyData.canLay0] at c
    | _ => exact h2.elim
theorem DR.dpS (h : DR K N H v d) (c : SeqAt.shaped d = true) : Dp K.fr H v d := h.dp (SeqAt.canLay_of_shaped c)
mutual
theorem Rp.dpA : ∀ (d : D) (v : V), Rp K N H v d → PySem.W.alike d d = true → Dp K.fr H v d
  | .none, _, h, _ => by cases h; exact .non
  | .bool b, _, h, _ => by cases h; exact .bl b
  | .int b, _, h, _ => by cases h; exact .int b
  | .str b, _, h, _ => by cases h; exact .str b
  | .list ds, _, h, c => by
    cases h with
    | lst h ha => exact .lst h.sq (RpA.dpA ds _ ha (by simpa [PySem.W.alike] using c))
  | .tuple ds, _, h, c => by
    cases h with
    | tup h ha => exact .tup h.sq (RpA.dpA ds _ ha (by simpa [PySem.W.alike] using c))
  | .dict ds, _, _, c => by simp [PySem.W.alike] at c
theorem RpA.dpA : ∀ (ds : List D) (vs : List V), RpA K N H vs ds → PySem.W.alikeAll ds ds = true → DpAll K.fr H vs ds
  | [], _, h, _ => by cases h; exact .nil
  | d :: ds, _, h, c => by
    simp only [PySem.W.alikeAll, Bool.and_eq_true] at c
    cases h with
    | cons h t => exact .cons (Rp.dpA d _ h c.1) (RpA.dpA ds _ t c.2)
end
theorem DR.dpA (h : DR K N H v d) (c : PySem.W.alike d d = true) : Dp K.fr H v d := by
  rcases h with h | ⟨a, h1, _, h2⟩
  · exact h.dpA _ _ c
  · cases d with
    | list ds =>
      obtain ⟨xs, h3, h4⟩ := h2
      subst h1
      exact .lst (.inl (.inl h3)) (h4.dpA _ _ (by simpa [PySem.W.alike] using c))
    | dict ds => simp [PySem.W.alike] at c
    | _ => exact h2.elim

/-! ### new tuples, their objects known -/
theorem pushT {X : Cx} {pins : List (Addr × Obj)} {s : Shared} {h : Heap} {tk : Nat} {xs : List V} {its : List Value} (I : Inv X pins σ H { s with heap := h, toks := tk }) (rv : Vals xs its) (hz : xs.length ≤ sizeLine) :
    Inv X pins σ (upd H h.objs.size (.frz { cls := .type "tuple", data := .seq its.toArray } (.tup xs))) { s with heap := h.push { cls := .type "tuple", data := .seq its.toArray }, toks := tk } :=
  I.laid (a := h.objs.size) (t' := tk) (h' := h.push _) (fun _ _ q => Heap.get?_push_of_some _ q) (Nat.le_refl _) ⟨Heap.get?_push_size _ rfl, hz, its, rv, IsTup.new _ _⟩
/-- what a rule says of a new tuple -/
def NewT (H : Hp) (Q : VK) (xs : List V) : Prop := ∀ (p : Addr) (ob : Obj), H p = none → ob.cls = .type "tuple" → ob.dict = none → Q (.ref p) (upd H p (.frz ob (.tup xs)))
theorem pushQ {X : Cx} {pins : List (Addr × Obj)} {s : Shared} {h : Heap} {tk : Nat} {xs : List V} {its : List Value} {Q : VK} (I : Inv X pins σ H { s with heap := h, toks := tk }) (rv : Vals xs its) (hz : xs.length ≤ sizeLine) (q : NewT H Q xs) :
    EP X pins σ Q (.ref h.objs.size) { s with heap := h.push { cls := .type "tuple", data := .seq its.toArray }, toks := tk } :=
  ⟨.ref _, _, pushT I rv hz, rfl, q _ _ (I.hok.fresh (Nat.le_refl _)) rfl rfl⟩
theorem pe_tupF {X : Cx} {es : List Expr} {t : TA} {k : Nat} {pos : Pos} (h : PA X es t) : PE X (.Tuple es k pos) (fun σ H Q => t σ H fun xs H1 => xs.length ≤ sizeLine ∧ NewT H1 Q xs) :=
  ⟨fun pins s σ H Q I hq => wpAny_Tuple_spliced (thn (h.run pos pins s σ H _ I hq) fun us s1 ⟨xs, H1, I1, rv, z, q⟩ => ⟨by have := rv.length; omega, pushQ (tk := s1.toks) I1 rv z q⟩)⟩
/-- t + u -/
def rCatF (K : PySem.W.Frag) : R2 := fun x y H Q => ∃ a b xs ys, x = .ref a ∧ y = .ref b ∧ SqT K H a xs ∧ SqT K H b ys ∧ xs.length + ys.length ≤ sizeLine ∧
  (xs = [] → Q (.ref b) H) ∧ (xs ≠ [] → ys = [] → Q (.ref a) H) ∧ NewT H Q (xs ++ ys)
theorem op_catF {X : Cx} : OpR X (binaryOp .Add) (rCatF X.K) := by
  intro pins s σ H x y v u Q I rx ry ⟨a, b, xs, ys, e1, e2, ha, hb, hz, q0, q1, q2⟩
  subst e1 e2
  by_cases hx : xs = []
  · exact op_catA pins s σ H _ _ v u Q I rx ry ⟨a, b, xs, ys, rfl, rfl, ha, hb, hz, q0, q1, fun z => absurd hx z⟩
  · cases rx
    cases ry
    obtain ⟨us, ru, pu, _⟩ := I.tuple ha
    obtain ⟨ws, rw', pw, _⟩ := I.tuple hb
    have l1 := ru.length
    have l2 := rw'.length
    exact HT.cat_tup pu pw (fun z => hx (ru.nil_iff.mp z)) (fun z => ⟨.ref a, H, I, rfl, q1 hx (rw'.nil_iff.mp z)⟩) (fun _ => pushQ (tk := s.toks) I (ru.append rw') (by rw [List.length_append]; exact hz) q2) (by omega)
/-- t[lo:hi] -/
def rSlF (K : PySem.W.Frag) : V → Option Int → Option Int → Hp → VK → Prop := fun x lo hi H Q => ∃ a xs, x = .ref a ∧ SqT K H a xs ∧
  (HT.sIx xs.length 0 lo = 0 ∧ HT.sIx xs.length xs.length hi = xs.length → Q (.ref a) H) ∧ NewT H Q (cutV xs lo hi)
theorem sl_tupF {X : Cx} : SlR X (rSlF X.K) := by
  intro pins s σ H x v vl vu lo hi sl Q I rx hs pl pu ⟨a, xs, e1, hx, q1, q2⟩
  subst e1
  by_cases hw : HT.sIx xs.length 0 lo = 0 ∧ HT.sIx xs.length xs.length hi = xs.length
  · exact sl_tupA pins s σ H _ v vl vu lo hi sl Q I rx hs pl pu ⟨a, xs, rfl, hx, q1, fun z => absurd hw z⟩
  · cases rx
    obtain ⟨us, ru, pt, hz⟩ := I.tuple hx
    have hl : us.toArray.size = xs.length := List.size_toArray.trans ru.length.symm
    exact ⟨"tuple", _, PyProof.Rows.slot_tuple_getitem.lookup, pt.typeIs, HT.getItem_tuple_cut pt hs pl pu (hl ▸ hw) (by rw [hl]; exact pushQ (tk := s.toks) I ((ru.drop _).take _) (Nat.le_trans (cutV_length xs lo hi) hz) q2) (hl ▸ hz)⟩
/-- tuple(x) -/
theorem call_tupF {X : Cx} : CallR X (.type "tuple") (fun xs H Q => ∃ p ys, xs = [.ref p] ∧ ((SqL X.K H p ys ∧ NewT H Q ys) ∨ (SqT X.K H p ys ∧ Q (.ref p) H))) := by
  intro pins s σ H xs us Q I rr ⟨p, ys, e, h⟩
  rcases h with ⟨hq, q⟩ | hq
  · subst e
    obtain ⟨u, e2, ru⟩ := vals1 rr
    subst e2
    cases ru
    obtain ⟨ws, rw', pl, hz⟩ := I.list hq
    have l1 := rw'.length
    exact call_tuple_list pl.isList (fun h' kp => pushQ (tk := s.toks) (I.kept (t' := s.toks) kp) rw' hz q) (by rw [List.size_toArray]; omega)
  · exact call_tuple_of pins s σ H xs us Q I rr ⟨p, ys, e, .inr hq⟩

/-! ### operators -/
/-- a tuple times an int -/
theorem op_repF {X : Cx} : OpR X (binaryOp .Mult) (fun x y H Q => ∃ l k xs, x = .ref l ∧ y = .int k ∧ SqT X.K H l xs ∧ 0 < xs.length ∧ 2 ≤ k ∧ k ≤ 1000 ∧ xs.length ≤ 1000 ∧ NewT H Q (List.replicate k.toNat xs).flatten) := by
  intro pins s σ H x y v u Q I rx ry h
  obtain ⟨l, k, xs, rfl, rfl, hT, hne, h1, h2, hz, q⟩ := h
  cases rx
  obtain ⟨t, rfl⟩ := ry
  obtain ⟨its, r, ⟨⟨cls, dd, data, sl⟩, ho, hc, n, hd⟩, hs⟩ := I.tuple hT
  simp only at hc hd
  subst hc hd
  have hle : its.length = xs.length := r.length.symm
  have hi : its.toArray.isEmpty = false := by
    cases its with
    | nil => rw [← hle] at hne; exact absurd hne (by simp)
    | cons a b => rfl
  have hsz0 : its.toArray.size = xs.length := by rw [List.size_toArray, hle]
  have hm : ((its.toArray.size : Nat) : Int) * k ≤ 1000000 := by
    rw [hsz0]
    have a1 : ((xs.length : Nat) : Int) * k ≤ 1000 * k := Int.mul_le_mul_of_nonneg_right (by omega) (by omega)
    omega
  have flen : (List.replicate k.toNat its).flatten.length ≤ sizeLine := by
    rw [PyProof.Rows.lm_len_rep_flat, hle, sizeLine_eq]
    have a1 : k.toNat * xs.length ≤ 1000 * 1000 := Nat.mul_le_mul (by omega) hz
    omega
  have c0 : (decide (k < -(2 ^ 63)) || decide (k ≥ 2 ^ 63)) = false := by
    rw [decide_eq_false (by omega), decide_eq_false (by omega)] <;> rfl
  have c1 : (its.toArray.isEmpty || k == 1) = false := by
    rw [hi, Bool.false_or]
    exact beq_eq_false_iff_ne.mpr (by omega)
  have c2 : (decide (k ≤ 0) || its.toArray.isEmpty) = false := by
    rw [hi, Bool.or_false]
    exact decide_eq_false (by omega)
  have c4 : Builtin.Tuple.tupleTooMany (((its.toArray.size : Nat) : Int) * k) = false := by
    unfold Builtin.Tuple.tupleTooMany
    rw [sizeLine_eq]
    exact decide_eq_false (by omega)
  refine wpAny_binaryOp_repeat_ref (T := "tuple") (U := "int") (by decide) ⟨_, ho, rfl⟩ (fun s' => typeIs_int s' k t) noFill_tuple_mul F.fills_int_mul F.slot_int_rmul repeat_tuple F.slot_int_index.lookup
    (call_meets F.slot_int_rmul (typeIs_int s k t) F.entry_int_rmul (F.args_int_rmul_2 _ _) (int_rmul_tuple k t l its.toArray n dd sl)
      ⟨ho, rfl, ⟨_, ho, rfl⟩, call_meets F.slot_tuple_mul ⟨_, ho, rfl⟩ F.entry_tuple_mul (F.args_tuple_mul_2 _ _) (tuple_mulW l its.toArray n dd sl k t c0 c1 c2 (by omega) c4 (by rw [size_rep, List.size_toArray]; exact flen)) ⟨ho, ?_⟩⟩)
  rw [size_rep]
  have rv : Vals (List.replicate k.toNat xs).flatten (List.replicate k.toNat its).flatten := r.rep _
  exact pushQ (tk := s.toks) I rv (by rw [rv.length]; exact flen) q
theorem op_catL {X : Cx} : OpR X (binaryOp .Add) (fun x y H Q => ∃ l b xs zs, x = .ref l ∧ y = .ref b ∧ SqL X.kw.fr H l xs ∧ SqL X.kw.fr H b zs ∧ xs.length + zs.length ≤ sizeLine ∧ ∀ p, H p = none → Q (.ref p) (upd H p (.lst (xs ++ zs)))) := by
  intro pins s σ H x y v u Q I rx ry h
  obtain ⟨l, b, xs, zs, rfl, rfl, hl, hb, hz, q⟩ := h
  cases rx
  cases ry
  obtain ⟨vs, rv, ⟨⟨cls, dd, data, sl⟩, n, ho, hc, _, hd⟩, _⟩ := I.list hl
  obtain ⟨ws, rw', ⟨⟨cls2, dd2, data2, sl2⟩, n2, ho2, hc2, _, hd2⟩, _⟩ := I.list hb
  simp only at hc hd hc2 hd2
  subst hc hd hc2 hd2
  have e : vs.toArray ++ ws.toArray = (vs ++ ws).toArray := by simp
  refine concat_meets ⟨_, ho, rfl⟩ ⟨_, ho2, rfl⟩ noFill_list_add seq_list_add PySem.F.slot_list_add PySem.F.entry_list_add (PySem.F.args_list_add_2 _ _) (list_addW l b vs.toArray ws.toArray n n2 dd dd2 sl sl2 (by have := rv.length; have := rw'.length; simp; omega)) ⟨ho, ho2, ?_⟩
  rw [e]
  exact ⟨.ref _, _, I.lnew (t' := s.toks) (rv.append rw') (by rw [List.length_append]; omega), rfl, q _ I.fresh⟩
abbrev kBin (op : Operator) : D → D → En → Rs R := fun d f r => optR r (binD op d f)
theorem op_bin {X : Cx} (hK : X.kw = K) (op : Operator) : OpR X (binaryOp op) (rEv K Fa Ca pr W (kBin op)) := by
  subst hK
  intro pins s σ H x y v u Q I rx ry ⟨r0, σ', N0, H0, r, N, d, f, g0, sp, g, hx, hy, h⟩
  unfold kBin at h
  cases e : binD op d f with
  | none => rw [e] at h; exact h.elim
  | some ow =>
    obtain ⟨o, w⟩ := ow
    rw [e] at h
    change PostG X.kw Fa Ca pr W (relE X.kw Fa) r0 σ' N0 H0 Q (.ok (.val o w) r) at h
    have intz : ∀ {i j : Int} {z : Int}, d = .int i → f = .int j → (o, w) = (false, PyData.int z) → x = .int i ∧ y = .int j ∧ Q (.int z) H := fun {i j z} e1 e2 e3 => by
      subst e1 e2
      cases e3
      exact ⟨hx.int, hy.int, h.val sp g (Rp.int _)⟩
    cases op with
    | Add =>
      cases d <;> cases f <;> simp only [binD] at e <;> (try cases e)
      · obtain ⟨rfl, rfl, q⟩ := intz rfl rfl rfl
        exact op_add pins s σ H _ _ v u Q I rx ry ⟨_, _, rfl, rfl, q⟩
      · split at e
        · cases e
          have hx := hx.str
          have hy := hy.str
          subst hx hy
          exact op_add_str pins s σ H _ _ v u Q I rx ry ⟨_, _, rfl, rfl, (by assumption), h.val sp g (Rp.str _)⟩
        · cases e
      · split at e
        · cases e
          obtain ⟨a, xs, rfl, ha, ra⟩ := hx.lst
          obtain ⟨b, ys, rfl, hb, rb⟩ := hy.lst
          have l1 := ra.length
          have l2 := rb.length
          exact op_catL pins s σ H _ _ v u Q I rx ry ⟨a, b, xs, ys, rfl, rfl, ha, hb, (by omega), fun p hp => h.newL g0 sp g hp (ra.append rb)⟩
        · cases e
      · split at e
        · cases e
          obtain ⟨a, xs, rfl, ha, ra⟩ := hx.tup
          obtain ⟨b, ys, rfl, hb, rb⟩ := hy.tup
          have l1 := ra.length
          have l2 := rb.length
          refine op_catF pins s σ H _ _ v u Q I rx ry ⟨a, b, xs, ys, rfl, rfl, ha.sq, hb.sq, (by omega), fun z => ?_, fun _ z => ?_, fun p ob hp oc od => h.newT g0 sp g hp oc od (ra.append rb)⟩
          · subst z
            cases ra
            exact h.val sp g (.tup hb rb)
          · subst z
            cases rb
            exact h.val sp g (by rw [List.append_nil]; exact .tup ha ra)
        · cases e
    | Sub =>
      cases d <;> cases f <;> simp only [binD] at e <;> (try cases e)
      obtain ⟨rfl, rfl, q⟩ := intz rfl rfl rfl
      exact op_sub pins s σ H _ _ v u Q I rx ry ⟨_, _, rfl, rfl, q⟩
    | Mult =>
      cases d <;> cases f <;> simp only [binD] at e <;> (try cases e)
      split at e
      · rename_i hm
        cases e
        obtain ⟨rfl, rfl, q⟩ := intz rfl rfl rfl
        exact op_mul pins s σ H _ _ v u Q I rx ry ⟨_, _, rfl, rfl, (by simp only [mulOk, Bool.or_eq_true, decide_eq_true_eq] at hm; exact hm), q⟩
      · cases e
      · split at e
        · rename_i hm
          cases e
          obtain ⟨a, xs, rfl, ha, ra⟩ := hx.tup
          have l1 := ra.length
          have hy := hy.int
          subst hy
          exact op_repF pins s σ H _ _ v u Q I rx ry ⟨a, _, xs, rfl, rfl, ha.sq, by omega, hm.2.1, hm.2.2.1, by omega, fun p ob hp oc od => h.newT g0 sp g hp oc od (ra.rep _)⟩
        · cases e
    | Mod =>
      cases d <;> cases f <;> simp only [binD] at e <;> (try cases e)
      split at e
      · cases e
        obtain ⟨rfl, rfl, q⟩ := intz rfl rfl rfl
        exact op_mod pins s σ H _ _ v u Q I rx ry ⟨_, _, rfl, rfl, (by assumption), q⟩
      · cases e
    | FloorDiv =>
      cases d <;> cases f <;> simp only [binD] at e <;> (try cases e)
      split at e
      · cases e
        obtain ⟨rfl, rfl, q⟩ := intz rfl rfl rfl
        exact op_fdiv pins s σ H _ _ v u Q I rx ry ⟨_, _, rfl, rfl, (by assumption), q⟩
      · cases e
    | Pow =>
      cases d <;> cases f <;> simp only [binD] at e <;> (try cases e)
      split at e
      · cases e
        obtain ⟨rfl, rfl, q⟩ := intz rfl rfl rfl
        exact op_pow pins s σ H _ _ v u Q I rx ry ⟨_, _, rfl, rfl, (by assumption), q⟩
      · cases e
    | LShift =>
      cases d <;> cases f <;> simp only [binD] at e <;> (try cases e)
      split at e
      · cases e
        obtain ⟨rfl, rfl, q⟩ := intz rfl rfl rfl
        exact op_shl pins s σ H _ _ v u Q I rx ry ⟨_, _, rfl, rfl, (by assumption), q⟩
      · cases e
    | RShift =>
      cases d <;> cases f <;> simp only [binD] at e <;> (try cases e)
      split at e
      · cases e
        obtain ⟨rfl, rfl, q⟩ := intz rfl rfl rfl
        exact op_shr pins s σ H _ _ v u Q I rx ry ⟨_, _, rfl, rfl, (by assumption), q⟩
      · cases e
    | BitAnd =>
      cases d <;> cases f <;> simp only [binD] at e <;> (try cases e)
      obtain ⟨rfl, rfl, q⟩ := intz rfl rfl rfl
      exact op_and pins s σ H _ _ v u Q I rx ry ⟨_, _, rfl, rfl, q⟩
    | BitOr =>
      cases d <;> cases f <;> simp only [binD] at e <;> (try cases e)
      obtain ⟨rfl, rfl, q⟩ := intz rfl rfl rfl
      exact op_or pins s σ H _ _ v u Q I rx ry ⟨_, _, rfl, rfl, q⟩
    | BitXor =>
      cases d <;> cases f <;> simp only [binD] at e <;> (try cases e)
      obtain ⟨rfl, rfl, q⟩ := intz rfl rfl rfl
      exact op_xor pins s σ H _ _ v u Q I rx ry ⟨_, _, rfl, rfl, q⟩
    | MatMult => simp [binD] at e
    | Div => simp [binD] at e
end
end E2

set_option Elab.async false
set_option linter.all false
set_option maxRecDepth 100000
namespace E2
variable [Tbs]
open PySem PySem.Spec PyProof.Rows L2
section
variable {K : Kw} {Fa Ca : Nat → Addr} {pr : List (Nat × Addr)} {W : WX} {r r1 r' : En} {σ : L2.St} {N N1 N' : NS} {H H1 H' : Hp} {v : V} {d : D} {a : Addr} {α β γ δ : Type}

/-! ### dicts: keys -/
theorem beq_eq_decide' {α : Type} [BEq α] [LawfulBEq α] [DecidableEq α] (a b : α) : (a == b) = decide (a = b) := by
  by_cases h : a = b
  · subst h; simp
  · rw [decide_eq_false h]; exact beq_eq_false_iff_ne.mpr h
theorem eqv_kD (k j : Key) : PyData.eqv (kD k) (kD j) = decide (k = j) := by
  cases k <;> cases j <;> simp [kD, PyData.eqv, beq_eq_decide']
mutual
theorem eqv_nk : ∀ k j : NestedKey, PyData.eqv k.data j.data = NestedKey.beq k j
  | .none, j => by cases j <;> simp [NestedKey.data, PyData.eqv, NestedKey.beq]
  | .num a, j => by cases j <;> simp [NestedKey.data, PyData.eqv, NestedKey.beq, beq_eq_decide']
  | .text a, j => by cases j <;> simp [NestedKey.data, PyData.eqv, NestedKey.beq, beq_eq_decide']
  | .tup ks, .tup js => by simp only [NestedKey.data, PyData.eqv, NestedKey.beq, eqv_nks ks js]
  | .tup ks, .none => by simp [NestedKey.data, PyData.eqv, NestedKey.beq]
  | .tup ks, .num _ => by simp [NestedKey.data, PyData.eqv, NestedKey.beq]
  | .tup ks, .text _ => by simp [NestedKey.data, PyData.eqv, NestedKey.beq]
theorem eqv_nks : ∀ ks js : List NestedKey, PyData.eqvAll (NestedKey.datas ks) (NestedKey.datas js) = NestedKey.beqAll ks js
  | [], [] => by simp [NestedKey.datas, PyData.eqvAll, NestedKey.beqAll]
  | [], _ :: _ => by simp [NestedKey.datas, PyData.eqvAll, NestedKey.beqAll]
  | _ :: _, [] => by simp [NestedKey.datas, PyData.eqvAll, NestedKey.beqAll]
  | k :: ks, j :: js => by simp only [NestedKey.datas, PyData.eqvAll, NestedKey.beqAll, eqv_nk k j, eqv_nks ks js]
end
theorem eqv_tD (k j : NestedKey) : PyData.eqv k.data j.data = decide (k = j) := by rw [eqv_nk, NestedKey.decide_eq]
/-- the value at a key -/
def OR (K : Kw) (N : NS) (H : Hp) : Option V → Option D → Prop
  | some v, some d => Rp K N H v d
  | none, none => True
  | _, _ => False
theorem dGet_nil (k : D) : dGet [] k = none := rfl
theorem dGet_cons (p : D × D) (r : List (D × D)) (k : D) : dGet (p :: r) k = if PyData.eqv p.1 k = true then some p.2 else dGet r k := by
  unfold dGet
  rw [List.find?_cons]
  cases h : PyData.eqv p.1 k <;> simp
theorem RpK.get (k : Key) : ∀ {kvs : List (Key × V)} {ds : List (D × D)}, RpK K N H kvs ds → OR K N H (valV kvs k) (dGet ds (kD k))
  | _, _, .nil => trivial
  | _, _, .cons (k := j) h t => by
    rw [dGet_cons]
    by_cases e : j = k
    · rw [valV_pos e]
      simp only [eqv_kD, e, decide_true, if_true]
      exact h
    · rw [valV_neg e]
      simp only [eqv_kD, e, decide_false, Bool.false_eq_true, if_false]
      exact RpK.get k t
/-- the value at a key, as it stands -/
def OT (K : Kw) (N : NS) (H : Hp) : Option (Addr × Value) → Option D → Prop
  | some p, some d => ∃ v, RelV v p.2 ∧ Rp K N H v d
  | none, none => True
  | _, _ => False
theorem atKey_cons (x : NestedKey × Addr × Value) (r : List (NestedKey × Addr × Value)) (k : NestedKey) : atKey (x :: r) k = if x.1 = k then some x.2 else atKey r k := by
  unfold atKey
  rw [List.find?_cons]
  by_cases h : x.1 = k <;> simp [h]
theorem RpT.get (k : NestedKey) : ∀ {kvs : List (NestedKey × Addr × Value)} {ds : List (D × D)}, RpT K N H kvs ds → OT K N H (atKey kvs k) (dGet ds k.data)
  | _, _, .nil => trivial
  | _, _, .cons (k := j) _ _ rv h t => by
    rw [dGet_cons, atKey_cons]
    by_cases e : j = k
    · simp only [eqv_tD, e, decide_true, if_true]
      exact ⟨_, rv, h⟩
    · simp only [eqv_tD, e, decide_false, Bool.false_eq_true, if_false]
      exact RpT.get k t
theorem RpK.any (k : Key) : ∀ {kvs : List (Key × V)} {ds : List (D × D)}, RpK K N H kvs ds → (ds.any fun p => PyData.eqv p.1 (kD k)) = kvs.any fun p => decide (p.1 = k)
  | _, _, .nil => rfl
  | _, _, .cons h t => by
    simp only [List.any_cons, eqv_kD, RpK.any k t]
theorem RpT.any (k : NestedKey) {kvs : List (NestedKey × Addr × Value)} {ds : List (D × D)} (h : RpT K N H kvs ds) : (ds.any fun p => PyData.eqv p.1 k.data) = (atKey kvs k).isSome := by
  have e : (ds.any fun p => PyData.eqv p.1 k.data) = (dGet ds k.data).isSome := by
    unfold dGet
    rw [Option.isSome_map, Bool.eq_iff_iff, List.find?_isSome, List.any_eq_true]
  rw [e]
  have := h.get k
  cases e1 : atKey kvs k <;> cases e2 : dGet ds k.data <;> rw [e1, e2] at this <;> first | rfl | exact this.elim
theorem RpK.append : ∀ {kvs ks2 : List (Key × V)} {ds ds2 : List (D × D)}, RpK K N H kvs ds → RpK K N H ks2 ds2 → RpK K N H (kvs ++ ks2) (ds ++ ds2)
  | _, _, _, _, .nil, s => s
  | _, _, _, _, .cons h t, s => .cons h (RpK.append t s)
theorem RpT.append : ∀ {kvs ks2 : List (NestedKey × Addr × Value)} {ds ds2 : List (D × D)}, RpT K N H kvs ds → RpT K N H ks2 ds2 → RpT K N H (kvs ++ ks2) (ds ++ ds2)
  | _, _, _, _, .nil, s => s
  | _, _, _, _, .cons a b c h t, s => .cons a b c h (RpT.append t s)
theorem RpK.repl (k : Key) {y : V} {e : D} (hy : Rp K N H y e) : ∀ {kvs : List (Key × V)} {ds : List (D × D)}, RpK K N H kvs ds →
    RpK K N H (kvs.map fun kv => if kv.1 = k then (kv.1, y) else kv) (ds.map fun p => if PyData.eqv p.1 (kD k) = true then (p.1, e) else p)
  | _, _, .nil => .nil
  | _, _, .cons (k := j) h t => by
    simp only [List.map_cons, eqv_kD]
    by_cases q : j = k
    · simp only [q, if_true, decide_true]
      exact .cons hy (RpK.repl k hy t)
    · simp only [q, if_false, decide_false, Bool.false_eq_true]
      exact .cons h (RpK.repl k hy t)
theorem RpT.repl (k : NestedKey) {y : V} {u : Value} {e : D} (ru : RelV y u) (hy : Rp K N H y e) : ∀ {kvs : List (NestedKey × Addr × Value)} {ds : List (D × D)}, RpT K N H kvs ds →
    RpT K N H (kvs.map (putAt k u)) (ds.map fun p => if PyData.eqv p.1 k.data = true then (p.1, e) else p)
  | _, _, .nil => .nil
  | _, _, .cons (k := j) a b c h t => by
    simp only [List.map_cons, eqv_tD, putAt]
    by_cases q : j = k
    · simp only [q, if_true, decide_true]
      exact .cons (q ▸ a) (q ▸ b) ru hy (RpT.repl k ru hy t)
    · simp only [q, if_false, decide_false, Bool.false_eq_true]
      exact .cons a b c h (RpT.repl k ru hy t)
theorem RpK.put (k : Key) {y : V} {e : D} (hy : Rp K N H y e) {kvs : List (Key × V)} {ds : List (D × D)} (h : RpK K N H kvs ds) : RpK K N H (putK kvs k y) (dPut ds (kD k) e) := by
  unfold putK dPut
  rw [h.any k]
  split
  · exact h.repl k hy
  · exact h.append (.cons hy .nil)
theorem RpT.put (k : NestedKey) {b : Addr} {y : V} {u : Value} {e : D} (hk : k.depth ≤ 8) (hb : Rp K N H (.ref b) k.data) (ru : RelV y u) (hy : Rp K N H y e) {kvs : List (NestedKey × Addr × Value)} {ds : List (D × D)} (h : RpT K N H kvs ds) : RpT K N H (storedH kvs k b u) (dPut ds k.data e) := by
  unfold storedH dPut
  rw [h.any k]
  split
  · exact h.repl k ru hy
  · exact h.append (.cons hk hb ru hy .nil)
theorem RpT.length : ∀ {kvs : List (NestedKey × Addr × Value)} {ds : List (D × D)}, RpT K N H kvs ds → kvs.length = ds.length
  | _, _, .nil => rfl
  | _, _, .cons _ _ _ _ t => congrArg (· + 1) t.length
theorem storedH_ne (kvs : List (NestedKey × Addr × Value)) (k : NestedKey) (b : Addr) (u : Value) : storedH kvs k b u ≠ [] := by
  unfold storedH
  split
  · rename_i h
    intro e
    rw [List.map_eq_nil_iff] at e
    subst e
    simp [atKey] at h
  · simp
/-- a key's own shape -/
theorem flatK_key {k : D} (h : flatK k = true) : ∃ q, k = kD q := by
  cases k <;> simp [flatK] at h
  · exact ⟨.inl _, rfl⟩
  · exact ⟨.inr _, rfl⟩
theorem flatK_all : ∀ {ks : List D}, ks.all flatK = true → ∃ q : List Key, ks = q.map kD
  | [], _ => ⟨[], rfl⟩
  | k :: ks, h => by
    simp only [List.all_cons, Bool.and_eq_true] at h
    obtain ⟨q, rfl⟩ := flatK_key h.1
    obtain ⟨qs, rfl⟩ := flatK_all h.2
    exact ⟨q :: qs, rfl⟩
theorem nestN_key : ∀ (n : Nat) (d : D), nestN n d = true → ∃ k : NestedKey, d = k.data ∧ k.depth ≤ n
  | n, .none, _ => ⟨.none, by simp [NestedKey.data], by simp [NestedKey.depth]⟩
  | n, .int i, _ => ⟨.num i, by simp [NestedKey.data], by simp [NestedKey.depth]⟩
  | n, .str i, _ => ⟨.text i, by simp [NestedKey.data], by simp [NestedKey.depth]⟩
  | 0, .tuple ds, h => by simp [nestN] at h
  | n + 1, .tuple ds, h => by
    simp only [nestN, List.all_eq_true] at h
    have all : ∀ (l : List D), (∀ d ∈ l, nestN n d = true) → ∃ ks : List NestedKey, l = NestedKey.datas ks ∧ NestedKey.depthAll ks ≤ n := by
      intro l
      induction l with
      | nil => exact fun _ => ⟨[], by simp [NestedKey.datas], by simp [NestedKey.depthAll]⟩
      | cons d l ih =>
        intro q
        obtain ⟨k, e1, e2⟩ := nestN_key n d (q d List.mem_cons_self)
        obtain ⟨ks, e3, e4⟩ := ih fun x hx => q x (List.mem_cons_of_mem _ hx)
        exact ⟨k :: ks, by simp only [NestedKey.datas, e1, e3], by simp only [NestedKey.depthAll]; omega⟩
    obtain ⟨ks, e1, e2⟩ := all ds h
    exact ⟨.tup ks, by simp only [NestedKey.data, e1], by simp only [NestedKey.depth]; omega⟩
  | n, .bool b, h => by simp [nestN] at h
  | n, .list b, h => by simp [nestN] at h
  | n, .dict b, h => by simp [nestN] at h
theorem tupK_key {k : D} (h : tupK k = true) : ∃ ks : List NestedKey, k = (NestedKey.tup ks).data ∧ (NestedKey.tup ks).depth ≤ 8 := by
  cases k <;> simp only [tupK, Bool.false_eq_true] at h
  rename_i ds
  obtain ⟨k, e1, e2⟩ := nestN_key 8 (.tuple ds) (by simpa only [nestN] using h)
  cases k with
  | tup ks => exact ⟨ks, e1, e2⟩
  | none => simp [NestedKey.data] at e1
  | num i => simp [NestedKey.data] at e1
  | text i => simp [NestedKey.data] at e1
theorem DR.key {q : Key} (h : DR K N H v (kD q)) : v = kV q := by
  cases q with
  | inl i => exact h.int
  | inr x => exact h.str
theorem DR.tkey {ks : List NestedKey} (h : DR K N H v (NestedKey.tup ks).data) : ∃ b, v = .ref b ∧ Rp K N H (.ref b) (NestedKey.tup ks).data := by
  simp only [NestedKey.data] at h ⊢
  obtain ⟨b, xs, h1, h2, h3⟩ := h.tup
  exact ⟨b, h1, .tup h2 h3⟩
theorem RpK.flat : ∀ {kvs : List (Key × V)} {ds : List (D × D)}, RpK K N H kvs ds → ds.all (fun p => flatK p.1) = true
  | _, _, .nil => rfl
  | _, _, .cons (k := k) h t => by
    simp only [List.all_cons, RpK.flat t, Bool.and_true]
    cases k <;> rfl
theorem RpK.nil_of_tup : ∀ {kvs : List (Key × V)} {ds : List (D × D)}, RpK K N H kvs ds → ds.all (fun p => tupK p.1) = true → kvs = [] ∧ ds = []
  | _, _, .nil, _ => ⟨rfl, rfl⟩
  | _, _, .cons (k := k) h t, e => by
    simp only [List.all_cons, Bool.and_eq_true] at e
    cases k <;> simp [kD, tupK] at e
theorem RpT.nil_of_flat {kvs : List (NestedKey × Addr × Value)} {ds : List (D × D)} (h : RpT K N H kvs ds) (e : ds.all (fun p => flatK p.1) = true) (n : kvs ≠ []) : False := by
  cases h with
  | nil => exact n rfl
  | @cons k b v u r d s _ hb _ _ _ =>
    simp only [List.all_cons, Bool.and_eq_true] at e
    cases k with
    | tup ks => simp [NestedKey.data, flatK] at e
    | none => simp [NestedKey.data, flatK] at e
    | num i => simp only [NestedKey.data] at hb; cases hb
    | text i => simp only [NestedKey.data] at hb; cases hb

/-! ### a dict whose keys are tuples, in the heap -/
section
variable {X : Cx} {pins : List (Addr × Obj)} {s : Shared}
mutual
theorem Rp.nested (I : Inv X pins σ H s) (hK : X.kw = K) : ∀ (k : NestedKey) (v : V) (u : Value), Rp K N H v k.data → RelV v u → NestedIs s.heap k u
  | .none, _, _, h, e => by
    simp only [NestedKey.data] at h
    cases h
    cases e
    exact .none
  | .num i, _, _, h, e => by
    simp only [NestedKey.data] at h
    cases h
    obtain ⟨t, rfl⟩ := e
    exact .int _ _
  | .text i, _, _, h, e => by
    simp only [NestedKey.data] at h
    cases h
    obtain ⟨t, rfl⟩ := e
    exact .text _ _
  | .tup ks, _, _, h, e => by
    simp only [NestedKey.data] at h
    cases h with
    | tup h ha =>
      cases e
      have hq : SqT X.K H _ _ := (by rw [hK]; exact h.sq : SqT X.kw.fr H _ _)
      obtain ⟨its, rv, ⟨o, h1, h2, n, h3⟩, _⟩ := I.tuple hq
      exact .tup h1 h2 h3 (RpA.nested I hK ks _ _ ha rv)
theorem RpA.nested (I : Inv X pins σ H s) (hK : X.kw = K) : ∀ (ks : List NestedKey) (vs : List V) (us : List Value), RpA K N H vs (NestedKey.datas ks) → Vals vs us → NestedAll s.heap ks us
  | [], _, _, h, e => by
    simp only [NestedKey.datas] at h
    cases h
    cases e
    exact .nil
  | k :: ks, _, _, h, e => by
    simp only [NestedKey.datas] at h
    cases h with
    | cons h t =>
      cases e with
      | cons r rs => exact .cons (Rp.nested I hK k _ _ h r) (RpA.nested I hK ks _ _ t rs)
end
theorem RpT.keysIs (I : Inv X pins σ H s) (hK : X.kw = K) : ∀ {kvs : List (NestedKey × Addr × Value)} {ds : List (D × D)}, RpT K N H kvs ds → ∀ x ∈ kvs, (nestedKind X.prog X.w).is s.heap x.1 x.2.1
  | _, _, .nil, x, hx => absurd hx (by simp)
  | _, _, .cons a b _ _ t, x, hx => by
    rcases List.mem_cons.mp hx with rfl | hx
    · exact ⟨Rp.nested I hK _ _ _ b rfl, a⟩
    · exact RpT.keysIs I hK t x hx
theorem RpT.dictOf {o : Obj} {kvs : List (NestedKey × Addr × Value)} {ds : List (D × D)} (I : Inv X pins σ H s) (hK : X.kw = K) (h : H a = some (isO a o)) (hd : DObj K a o kvs) (rt : RpT K N H kvs ds) : s.heap.DictOfH (nestedKind X.prog X.w) a kvs := by
  obtain ⟨_, hs, hz, hx, hn, es, ep, h1, h2⟩ := hd
  subst hK
  exact ⟨o, es, ep, (I.hok a _ h).1, hx, h1, h2, RpT.keysIs I rfl rt, hn⟩
/-- an empty dict, for keys that are tuples -/
theorem dictOf0 (I : Inv X pins σ H s) (h : H a = some (.dK [])) : s.heap.DictOfH (nestedKind X.prog X.w) a [] ∧ (a == sysModules) = false := by
  obtain ⟨z, hd, vs, rel, o, es, ep, ho, hx, hdat, ko, pr, nd⟩ := I.hok a _ h
  cases rel
  have he : es.toList = [] := by cases hh : es.toList with
    | nil => rfl
    | cons p q => rw [hh] at pr; cases pr
  exact ⟨⟨o, es, ep, ho, hx, hdat, he, fun x hx => absurd hx (by simp), List.nodup_nil⟩, hd⟩
/-- behind a write: what stands there now -/
theorem wroteT {h' : Heap} {tk : Nat} {kvs : List (NestedKey × Addr × Value)} (I : Inv X pins σ H s) (hK : X.kw = K) (mu : Mut (H a)) (hs : (a == sysModules) = false) (hz : kvs.length ≤ sizeLine) (hn : kvs ≠ []) (hm : h'.DictOfH (nestedKind X.prog X.w) a kvs) (sb : Heap.SameBut a s.heap h') :
    ∃ o, DObj K a o kvs ∧ Inv X pins σ (upd H a (isO a o)) { s with heap := h', toks := tk } := by
  obtain ⟨o, es, ep, ho, hx, h1, h2, _, nd⟩ := hm
  subst hK
  exact ⟨o, ⟨hn, hs, hz, hx, nd, es, ep, h1, h2⟩, I.write (t' := tk) (x := a) (e := a) mu (.inl rfl) (fun b u ne q => (sb.2 b ne).trans q) ⟨o, ho⟩ ⟨ho, ⟨o, ho⟩, fun h1 h2 q st => st _ q⟩⟩
end
end
end E2

set_option Elab.async false
set_option linter.all false
set_option maxRecDepth 100000
set_option maxHeartbeats 1000000
namespace E2
variable [Tbs]
open PySem PySem.Spec PyProof.Rows L2
section
variable {K : Kw} {Fa Ca : Nat → Addr} {pr : List (Nat × Addr)} {W : WX} {r r1 r' : En} {σ : L2.St} {N N1 N' : NS} {H H1 H' : Hp} {v : V} {d : D} {a : Addr} {α β γ δ : Type}

/-! ### comparisons -/
/-- what stands at a is the dict kvs -/
def DicR (K : Kw) (N : NS) (H : Hp) (a : Addr) (kvs : List (D × D)) : Prop := (∃ ks, H a = some (.dK ks) ∧ RpK K N H ks kvs) ∨ ∃ o ks, H a = some (isO a o) ∧ DObj K a o ks ∧ RpT K N H ks kvs
theorem DicR.tup {X : Cx} {pins : List (Addr × Obj)} {s : Shared} {kvs : List (D × D)} (hd : DicR K N H a kvs) (I : Inv X pins σ H s) (hK : X.kw = K) (ha : kvs.all (fun p => tupK p.1) = true) :
    ∃ ks, s.heap.DictOfH (nestedKind X.prog X.w) a ks ∧ (a == sysModules) = false ∧ RpT K N H ks kvs ∧ ks.length ≤ sizeLine ∧ Mut (H a) := by
  rcases hd with ⟨ks, h1, h2⟩ | ⟨o, ks, h1, h2, h3⟩
  · obtain ⟨rfl, rfl⟩ := h2.nil_of_tup ha
    obtain ⟨q1, q2⟩ := dictOf0 I h1
    exact ⟨[], q1, q2, .nil, Nat.zero_le _, by rw [h1]; trivial⟩
  · exact ⟨ks, h3.dictOf I hK h1 h2, h2.2.1, h3, h2.2.2.1, by rw [h1]; trivial⟩
theorem DicR.flat {kvs : List (D × D)} (hd : DicR K N H a kvs) (ha : kvs.all (fun p => flatK p.1) = true) : ∃ ks, H a = some (.dK ks) ∧ RpK K N H ks kvs := by
  rcases hd with h | ⟨o, ks, h1, h2, h3⟩
  · exact h
  · exact (h3.nil_of_flat ha h2.1).elim
theorem DR.dicR {kvs : List (D × D)} (h : DR K N H v (.dict kvs)) : ∃ a, v = .ref a ∧ DicR K N H a kvs := h.dic
theorem OR.isSome {x : Option V} {z : Option D} (q : OR K N H x z) : x.isSome = z.isSome := by cases x <;> cases z <;> first | rfl | exact q.elim
theorem OT.isSome {x : Option (Addr × Value)} {z : Option D} (q : OT K N H x z) : x.isSome = z.isSome := by cases x <;> cases z <;> first | rfl | exact q.elim
theorem nroom {A : Around} {prog : Program} {w : World} (hu : A.units + 65 < cLine) : (nestedKind prog w).room A.in1 := by
  show A.in1.units + 8 < cLine
  rw [Around.in1_units]
  omega
/-- y in a dict -/
theorem din_any {X : Cx} {pins : List (Addr × Obj)} {s : Shared} {E : Value → Shared → Prop} {u : Value} {y : V} {kvs : List (D × D)} {k : D} {Q : Value → Shared → Prop} (hK : X.kw = K) (hu : X.A.units + 65 < cLine) (I : Inv X pins σ H s)
    (hd : DicR K N H a kvs) (hy : DR K N H y k) (ry : RelV y u) (hk : likeKeys kvs k = true)
    (h : ∀ s', Inv X pins σ H s' → Q (.bool (dGet kvs k).isSome) s') : wpAny (model X.prog X.w) X.A (compareOp .In u (.ref a)) Q E s := by
  simp only [likeKeys, Bool.or_eq_true, Bool.and_eq_true] at hk
  rcases hk with ⟨ha, hk⟩ | ⟨ha, hk⟩
  · obtain ⟨q, rfl⟩ := flatK_key hk
    have ey := hy.key
    subst ey
    obtain ⟨ks, hd, rk⟩ := hd.flat ha
    refine d_in (by omega) I (o := valV ks q) (.inl ⟨ks, q, .inl hd, rfl, rfl⟩) ry fun s' I' => ?_
    rw [(rk.get q).isSome]
    exact h s' I'
  · obtain ⟨q, rfl, hq⟩ := tupK_key hk
    obtain ⟨b, rfl, hb⟩ := hy.tkey
    cases ry
    obtain ⟨ks, dd, ns, rt, _⟩ := hd.tup I hK ha
    refine wpAny_in_heap (nroom hu) ⟨hb.nested I hK _ _ _ rfl, hq⟩ ns dd ?_
    rw [(rt.get _).isSome]
    exact h _ (I.tok _)
theorem dnotin_any {X : Cx} {pins : List (Addr × Obj)} {s : Shared} {E : Value → Shared → Prop} {u : Value} {y : V} {kvs : List (D × D)} {k : D} {Q : Value → Shared → Prop} (hK : X.kw = K) (hu : X.A.units + 65 < cLine) (I : Inv X pins σ H s)
    (hd : DicR K N H a kvs) (hy : DR K N H y k) (ry : RelV y u) (hk : likeKeys kvs k = true)
    (h : ∀ s', Inv X pins σ H s' → Q (.bool (!(dGet kvs k).isSome)) s') : wpAny (model X.prog X.w) X.A (compareOp .NotIn u (.ref a)) Q E s := by
  simp only [likeKeys, Bool.or_eq_true, Bool.and_eq_true] at hk
  rcases hk with ⟨ha, hk⟩ | ⟨ha, hk⟩
  · obtain ⟨q, rfl⟩ := flatK_key hk
    have ey := hy.key
    subst ey
    obtain ⟨ks, hd, rk⟩ := hd.flat ha
    refine d_notIn (by omega) I (o := valV ks q) (.inl ⟨ks, q, .inl hd, rfl, rfl⟩) ry fun s' I' => ?_
    rw [(rk.get q).isSome]
    exact h s' I'
  · obtain ⟨q, rfl, hq⟩ := tupK_key hk
    obtain ⟨b, rfl, hb⟩ := hy.tkey
    cases ry
    obtain ⟨ks, dd, ns, rt, _⟩ := hd.tup I hK ha
    refine wpAny_notIn_heap (nroom hu) ⟨hb.nested I hK _ _ _ rfl, hq⟩ ns dd ?_
    rw [(rt.get _).isSome]
    exact h _ (I.tok _)
theorem dgetitem_any {X : Cx} {pins : List (Addr × Obj)} {s : Shared} {E : Value → Shared → Prop} {u : Value} {y : V} {kvs : List (D × D)} {k w : D} {Q : Value → Shared → Prop} (hK : X.kw = K) (hu : X.A.units + 65 < cLine) (I : Inv X pins σ H s)
    (hd : DicR K N H a kvs) (hy : DR K N H y k) (ry : RelV y u) (hk : likeKeys kvs k = true) (hw : dGet kvs k = some w)
    (h : ∀ v w' s', Inv X pins σ H s' → RelV v w' → Rp K N H v w → Q w' s') : wpAny (model X.prog X.w) X.A (getItem (.ref a) u) Q E s := by
  simp only [likeKeys, Bool.or_eq_true, Bool.and_eq_true] at hk
  rcases hk with ⟨ha, hk⟩ | ⟨ha, hk⟩
  · obtain ⟨q, rfl⟩ := flatK_key hk
    have ey := hy.key
    subst ey
    obtain ⟨ks, hd, rk⟩ := hd.flat ha
    have g := rk.get q
    rw [hw] at g
    cases e : valV ks q with
    | none => rw [e] at g; exact g.elim
    | some v =>
      rw [e] at g
      exact d_getItem (by omega) I (v := v) (.inl ⟨ks, q, .inl hd, rfl, e.symm⟩) ry fun w' s' I' rw' => h v w' s' I' rw' g
  · obtain ⟨q, rfl, hq⟩ := tupK_key hk
    obtain ⟨b, rfl, hb⟩ := hy.tkey
    cases ry
    obtain ⟨ks, dd, ns, rt, _⟩ := hd.tup I hK ha
    have g := rt.get (.tup q)
    rw [hw] at g
    cases e : atKey ks (.tup q) with
    | none => rw [e] at g; exact g.elim
    | some p =>
      rw [e] at g
      obtain ⟨v, rv, rp⟩ := g
      exact wpAny_getItem_heap (nroom hu) ⟨hb.nested I hK _ _ _ rfl, hq⟩ dd e (h v _ _ (I.tok _) rv rp)
/-- x[k] = v: what stands there then -/
theorem dset_any {X : Cx} {pins : List (Addr × Obj)} {s : Shared} {E : Value → Shared → Prop} {u z : Value} {y x : V} {kvs : List (D × D)} {k e : D} {Q : Unit → Shared → Prop} (hK : X.kw = K) (hu : X.A.units + 65 < cLine) (I : Inv X pins σ H s)
    (hd : DicR K N H a kvs) (tr : ∀ b, N b → Mut (H b)) (ha : N a) (hy : DR K N H y k) (ry : RelV y u) (hx : Rp K N H x e) (rx : RelV x z) (hk : likeKeys kvs k = true) (hz : kvs.length < sizeLine)
    (h : ∀ o s', Mut (some o) → Inv X pins σ (upd H a o) s' → (∀ N', Fz N H N' (upd H a o) → RpM K N' (upd H a o) a (.dict (dPut kvs k e))) → Q () s') : wpAny (model X.prog X.w) X.A (setItem (.ref a) u z) Q E s := by
  simp only [likeKeys, Bool.or_eq_true, Bool.and_eq_true] at hk
  rcases hk with ⟨hal, hk⟩ | ⟨hal, hk⟩
  · obtain ⟨q, rfl⟩ := flatK_key hk
    have ey := hy.key
    subst ey
    obtain ⟨ks, hd, rk⟩ := hd.flat hal
    refine d_setItem (by omega) I (v := x) (H' := upd H a (.dK (putK ks q x))) (.inl ⟨ks, q, hd, rfl, by rw [rk.length]; exact hz, rfl⟩) ry rx fun s' I' => h (.dK (putK ks q x)) s' trivial I' fun N' st => .inl ⟨_, upd_same, (rk.put q hx).keep st tr⟩
  · obtain ⟨q, rfl, hq⟩ := tupK_key hk
    obtain ⟨b, rfl, hb⟩ := hy.tkey
    cases ry
    obtain ⟨ks, dd, ns, rt, hl, mu⟩ := hd.tup I hK hal
    refine wpAny_setItem_heap (nroom hu) ⟨hb.nested I hK _ _ _ rfl, hq⟩ dd (fun h' dd' sb => ?_) hl
    have rp := rt.put (.tup q) hq hb rx hx
    have ln : (storedH ks (.tup q) b z).length ≤ sizeLine := by
      have e1 : kvs.length = ks.length := rt.length.symm
      unfold storedH
      split
      · rw [List.length_map]; exact hl
      · rw [List.length_append]; show ks.length + 1 ≤ _; omega
    obtain ⟨o, hdo, I'⟩ := wroteT (tk := s.toks + (nestedKind X.prog X.w).draws (.tup q)) I hK mu ns ln (storedH_ne ks _ _ _) dd' sb
    exact h (isO a o) _ trivial I' fun N' st => .inr ⟨o, _, upd_same, hdo, rp.keep st tr⟩

theorem decVI {i j : Int} : decide (V.int i = V.int j) = decide (i = j) := by simp
theorem Rp.isN (h : DR K N H v d) (hn : d ≠ .none) : v ≠ .non := by
  rintro rfl
  rcases h with h | ⟨a, h, _⟩
  · cases h; exact hn rfl
  · cases h
/-- a comparison by data -/
def rC (K : Kw) (op : CmpOp) : R2 := fun x y H Q => ∃ (N : NS) (d f : D) (k : Bool), DR K N H x d ∧ DR K N H y f ∧ cmpD op d f = some k ∧ Q (.bl k) H
theorem op_cmpE {X : Cx} (hK : X.kw = K) (hu : X.A.units + 65 < cLine) (op : CmpOp) : OpR X (compareOp op) (rC K op) := by
  subst hK
  intro pins s σ H x y v u Q I rx ry ⟨N, d, f, k, hx, hy, e, q⟩
  · skip
    have two : ∀ {i j : Int}, d = .int i → f = .int j → x = .int i ∧ y = .int j := fun {i j} e1 e2 => by
      subst e1 e2
      exact ⟨hx.int, hy.int⟩
    have shp : ∀ {p : Prop} [Decidable p] {z : Bool}, (if p then some z else none) = some k → p ∧ z = k := fun {p _ z} e => by
      split at e
      · exact ⟨by assumption, Option.some.inj e⟩
      · cases e
    have eqI : ∀ {k' : Bool}, eqD d f = some k' → (x, y) = (x, y) → (∃ i j, x = .int i ∧ y = .int j ∧ k' = decide (i = j)) ∨ (Dp X.kw.fr H x d ∧ Dp X.kw.fr H y f ∧ SeqAt.shaped d = true ∧ SeqAt.shaped f = true ∧ k' = PyData.eqv d f) := fun {k'} e _ => by
      unfold eqD at e
      split at e
      · obtain ⟨e1, e2⟩ := two rfl rfl
        exact .inl ⟨_, _, e1, e2, (Option.some.inj e).symm⟩
      · split at e
        · rename_i hs
          exact .inr ⟨hx.dpS hs.1, hy.dpS hs.2, hs.1, hs.2, (Option.some.inj e).symm⟩
        · cases e
    cases op with
    | Eq =>
      rcases eqI e rfl with ⟨i, j, rfl, rfl, rfl⟩ | ⟨h1, h2, h3, h4, rfl⟩
      · exact op_eq pins s σ H _ _ v u Q I rx ry ⟨rfl, by rw [decVI]; exact q⟩
      · exact op_eqD (by omega) pins s σ H _ _ v u Q I rx ry ⟨d, f, h1, h2, h3, h4, q⟩
    | NotEq =>
      obtain ⟨k', e', rfl⟩ := Option.map_eq_some_iff.mp e
      rcases eqI e' rfl with ⟨i, j, rfl, rfl, rfl⟩ | ⟨h1, h2, h3, h4, rfl⟩
      · exact op_ne pins s σ H _ _ v u Q I rx ry ⟨rfl, by rw [decVI]; exact q⟩
      · exact op_neD (by omega) pins s σ H _ _ v u Q I rx ry ⟨d, f, h1, h2, h3, h4, q⟩
    | Lt =>
      have rows : ∀ {d f : D}, DR X.kw N H x d → DR X.kw N H y f → d ≠ .none → (if ltOk d f = true then some (PySem.W.dataLt d f) else none) = some k → wpAny (model X.prog X.w) X.A (compareOp .Lt v u) (EP X pins σ Q) X.xe s := fun {d f} hx hy hn e => by
        obtain ⟨c, rfl⟩ := shp e
        simp only [ltOk, Bool.and_eq_true, decide_eq_true_eq] at c
        obtain ⟨⟨⟨c1, c2⟩, c3⟩, c4⟩ := c
        obtain ⟨as, r1⟩ := Dp.reads I d x v (hx.dpA c2) rx
        obtain ⟨bs, r2⟩ := Dp.reads I f y u (hy.dpA c3) ry
        show wpAny (model X.prog X.w) X.A (richCompare .Lt v u) (EP X pins σ Q) X.xe s
        exact PySem.W.rcLt_alike d f X.A s v u as bs r1 r2 c1 hn (by have := Nat.min_le_left d.depth f.depth; omega) _ _ _ _ ⟨.bl _, H, I, rfl, q⟩
      cases d <;> cases f <;> simp only [cmpD] at e <;> first | cases e | skip
      · obtain ⟨rfl, rfl⟩ := two rfl rfl
        exact op_lt pins s σ H _ _ v u Q I rx ry ⟨_, _, rfl, rfl, q⟩
      · exact rows hx hy (by simp) e
      · exact rows hx hy (by simp) e
    | LtE =>
      cases d <;> cases f <;> simp only [cmpD] at e <;> (try cases e)
      obtain ⟨rfl, rfl⟩ := two rfl rfl
      exact op_le pins s σ H _ _ v u Q I rx ry ⟨_, _, rfl, rfl, q⟩
    | Gt =>
      cases d <;> cases f <;> simp only [cmpD] at e <;> (try cases e)
      obtain ⟨rfl, rfl⟩ := two rfl rfl
      exact op_gt pins s σ H _ _ v u Q I rx ry ⟨_, _, rfl, rfl, q⟩
    | GtE =>
      cases d <;> cases f <;> simp only [cmpD] at e <;> (try cases e)
      obtain ⟨rfl, rfl⟩ := two rfl rfl
      exact op_ge pins s σ H _ _ v u Q I rx ry ⟨_, _, rfl, rfl, q⟩
    | In =>
      simp only [cmpD] at e
      unfold inD at e
      split at e
      · obtain ⟨⟨s1, s2⟩, rfl⟩ := shp e
        exact op_inD hu pins s σ H _ _ v u Q I rx ry ⟨d, _, hx.dpS s1, hy.dpS s2, s1, s2, q⟩
      · obtain ⟨⟨s1, s2⟩, rfl⟩ := shp e
        obtain ⟨as, r1⟩ := Dp.reads I d x v (hx.dpS s1) rx
        obtain ⟨bs, r2⟩ := Dp.reads I _ y u (hy.dpS s2) ry
        exact SeqAt.in_tuple_reads r2 r1 (SeqAt.canLay_of_shaped s2) (SeqAt.canLay_of_shaped s1) (room_in_shaped s1 hu) ⟨.bl _, H, I, rfl, q⟩
      · obtain ⟨hk, rfl⟩ := shp e
        obtain ⟨a, rfl, hd⟩ := hy.dic
        cases ry
        exact din_any rfl hu I hd hx rx hk fun s' I' => ⟨.bl _, H, I', rfl, q⟩
      · split at e
        · cases e
          have hx := hx.str
          have hy := hy.str
          subst hx hy
          exact op_in_str pins s σ H _ _ v u Q I rx ry ⟨_, _, rfl, rfl, q⟩
        · cases e
      · cases e
    | NotIn =>
      obtain ⟨k', e', rfl⟩ := Option.map_eq_some_iff.mp e
      clear e
      have e := e'
      clear e'
      have shp : ∀ {p : Prop} [Decidable p] {z : Bool}, (if p then some z else none) = some k' → p ∧ z = k' := fun {p _ z} e => by
        split at e
        · exact ⟨by assumption, Option.some.inj e⟩
        · cases e
      unfold inD at e
      split at e
      · obtain ⟨⟨s1, s2⟩, rfl⟩ := shp e
        exact op_notInD hu pins s σ H _ _ v u Q I rx ry ⟨d, _, hx.dpS s1, hy.dpS s2, s1, s2, q⟩
      · obtain ⟨⟨s1, s2⟩, rfl⟩ := shp e
        obtain ⟨as, r1⟩ := Dp.reads I d x v (hx.dpS s1) rx
        obtain ⟨bs, r2⟩ := Dp.reads I _ y u (hy.dpS s2) ry
        exact SeqAt.notIn_tuple_reads r2 r1 (SeqAt.canLay_of_shaped s2) (SeqAt.canLay_of_shaped s1) (room_in_shaped s1 hu) ⟨.bl _, H, I, rfl, q⟩
      · obtain ⟨hk, rfl⟩ := shp e
        obtain ⟨a, rfl, hd⟩ := hy.dic
        cases ry
        exact dnotin_any rfl hu I hd hx rx hk fun s' I' => ⟨.bl _, H, I', rfl, q⟩
      · split at e
        · cases e
          have hx := hx.str
          have hy := hy.str
          subst hx hy
          exact op_notIn_str pins s σ H _ _ v u Q I rx ry ⟨_, _, rfl, rfl, q⟩
        · cases e
      · cases e
    | Is =>
      simp only [cmpD] at e
      unfold isD at e
      split at e
      · cases e
        have hx := hx.non
        have hy := hy.non
        subst hx hy
        exact op_isN pins s σ H _ _ v u Q I rx ry ⟨rfl, by simpa using q⟩
      · rename_i hn
        cases e
        have hn := Rp.isN hx (fun z => hn z)
        have hy := hy.non
        subst hy
        exact op_isN pins s σ H _ _ v u Q I rx ry ⟨rfl, by simpa [hn] using q⟩
      · cases e
        have hx := hx.bool
        have hy := hy.bool
        subst hx hy
        exact op_isBl pins s σ H _ _ v u Q I rx ry ⟨_, _, rfl, rfl, q⟩
      · cases e
    | IsNot =>
      obtain ⟨k', e', rfl⟩ := Option.map_eq_some_iff.mp e
      clear e
      have e := e'
      clear e'
      unfold isD at e
      split at e
      · cases e
        have hx := hx.non
        have hy := hy.non
        subst hx hy
        exact op_notN pins s σ H _ _ v u Q I rx ry ⟨rfl, by simpa using q⟩
      · rename_i hn
        cases e
        have hn := Rp.isN hx (fun z => hn z)
        have hy := hy.non
        subst hy
        exact op_notN pins s σ H _ _ v u Q I rx ry ⟨rfl, by simpa [hn] using q⟩
      · cases e
        have hx := hx.bool
        have hy := hy.bool
        subst hx hy
        exact op_notBl pins s σ H _ _ v u Q I rx ry ⟨_, _, rfl, rfl, q⟩
      · cases e
end
end E2

set_option Elab.async false
set_option linter.all false
set_option maxRecDepth 100000
set_option maxHeartbeats 1000000
namespace E2
variable [Tbs]
open PySem PySem.Spec PyProof.Rows L2
section
variable {K : Kw} {Fa Ca : Nat → Addr} {pr : List (Nat × Addr)} {W : WX} {r r1 r' : En} {σ : L2.St} {N N1 N' : NS} {H H1 H' : Hp} {v : V} {d : D} {a : Addr} {α β γ δ : Type} {X : Cx} {G : Gs} {pos : Pos}

/-! ### lists of results -/
def RRs (K : Kw) (Fa : Nat → Addr) (r : En) (σ : L2.St) (N : NS) (H : Hp) : List V → List R → Prop
  | [], [] => True
  | v :: vs, x :: xs => RR K Fa r σ N H v x ∧ RRs K Fa r σ N H vs xs
  | _, _ => False
theorem RRs.stp : ∀ {vs : List V} {xs : List R}, RRs K Fa r σ N H vs xs → Stp r σ N H r' N' H' → Good K Fa pr r σ N H → RRs K Fa r' σ N' H' vs xs
  | [], [], _, _, _ => trivial
  | v :: vs, x :: xs, h, s, g => ⟨h.1.stp s g, RRs.stp h.2 s g⟩
  | [], _ :: _, h, _, _ => h.elim
  | _ :: _, [], h, _, _ => h.elim
/-- the addresses of new lists among results -/
def frA : List V → List R → List Addr
  | .ref a :: vs, .val true _ :: xs => a :: frA vs xs
  | _ :: vs, _ :: xs => frA vs xs
  | _, _ => []
theorem Fsh.back {x : R} (h : Fsh r1 σ N1 v x) (s : Stp r σ N H r1 N1 H1) : Fsh r σ N v x := by
  cases x with
  | val o d =>
    cases o with
    | false => trivial
    | true =>
      intro a e n
      by_cases q : own r σ a
      · exact q
      · exact s.own a (h a e (s.ext.stay a n q))
  | sl i => trivial
  | fn k ds => trivial
/-- frozen: the slot's list is now held by others, too -/
theorem own_set_fro {i : Nat} {e : D} (b : Addr) (h : own (r.set i (some (.dat false e))) σ b) : own r σ b := by
  obtain ⟨j, d, h1, h2⟩ := h
  by_cases q : i = j
  · subst q
    rw [List.getElem?_set] at h1
    split at h1
    · split at h1
      · cases h1
      · cases h1
    · exact absurd rfl (by assumption)
  · rw [List.getElem?_set_ne q] at h1
    exact ⟨j, d, h1, h2⟩
/-- N without one address -/
def lessN (N : NS) (a : Addr) : NS := fun b => N b ∧ b ≠ a
theorem FnR.less {k : Nat} {ds : List D} (h : FnR K Fa N H v k ds) (t : ∀ b, N b → Mut (H b)) : FnR K Fa (lessN N a) H v k ds := h.keep (fun _ _ e n _ => ⟨e, fun z => n z.1⟩) t
theorem Rp.less (h : Rp K N H v d) (t : ∀ b, N b → Mut (H b)) : Rp K (lessN N a) H v d := h.keep (fun b o e n _ => ⟨e, fun z => n z.1⟩) t
theorem RpA.less {vs : List V} {ds : List D} (h : RpA K N H vs ds) (t : ∀ b, N b → Mut (H b)) : RpA K (lessN N a) H vs ds := h.keep (fun b o e n _ => ⟨e, fun z => n z.1⟩) t
theorem RpM.less {b : Addr} (h : RpM K N H b d) (t : ∀ b, N b → Mut (H b)) : RpM K (lessN N a) H b d := by
  cases d with
  | list ds =>
    obtain ⟨xs, h1, h2⟩ := h
    exact ⟨xs, h1, h2.less t⟩
  | dict ds =>
    rcases h with ⟨xs, h1, h2⟩ | ⟨o, xs, h1, h3, h2⟩
    · exact .inl ⟨xs, h1, h2.keep (fun b o e n _ => ⟨e, fun z => n z.1⟩) t⟩
    · exact .inr ⟨o, xs, h1, h3, h2.keep (fun b o e n _ => ⟨e, fun z => n z.1⟩) t⟩
  | _ => exact h
theorem RpM.frz (h : RpM K N H a d) (t : ∀ b, N b → Mut (H b)) : Rp K (lessN N a) H (.ref a) d := by
  cases d with
  | list ds =>
    obtain ⟨xs, h1, h2⟩ := h
    exact .lst (.inl ⟨.inl h1, fun z => z.2 rfl⟩) (h2.less t)
  | dict ds =>
    rcases h with ⟨xs, h1, h2⟩ | ⟨o, xs, h1, h3, h2⟩
    · exact .dk h1 (fun z => z.2 rfl) (h2.keep (fun b o e n _ => ⟨e, fun z => n z.1⟩) t)
    · exact .dt h1 (fun z => z.2 rfl) h3 (h2.keep (fun b o e n _ => ⟨e, fun z => n z.1⟩) t)
  | _ => exact h.elim
theorem getset_self {α : Type} {l : List α} {i : Nat} {x : α} (h : i < l.length) : (l.set i x)[i]? = some x := List.getElem?_set_self h
/-- slot i frozen: its address leaves N -/
theorem Good.freeze {i : Nat} {e : D} (g : Good K Fa pr r σ N H) (hi : r[i]? = some (some (.dat true e))) (hs : σ[i]? = some (some (.ref a))) :
    Good K Fa pr (r.set i (some (.dat false e))) σ (lessN N a) H ∧ Stp r σ N H (r.set i (some (.dat false e))) (lessN N a) H ∧ Rp K (lessN N a) H (.ref a) e := by
  obtain ⟨v0, hv0, a0, e0, n0, m0⟩ := g.slot i _ hi
  rw [hs] at hv0
  cases hv0
  cases e0
  have hlt : i < r.length := by
    rcases Nat.lt_or_ge i r.length with q | q
    · exact q
    · rw [List.getElem?_eq_none q] at hi; cases hi
  have fz := m0.frz g.trk
  refine ⟨⟨by rw [List.length_set]; exact g.len, fun j s ej => ?_, fun j k d f b h1 h2 h3 h4 => ?_, fun b h => g.trk b h.1, g.prs, g.tab.ext (fun _ _ e _ => e) (fun _ z => .inl z.1)⟩, ⟨⟨fun _ _ e _ _ => e, fun h => h.ext (fun _ _ e _ => e) (fun _ z => .inl z.1), fun b z => .inl z.1, fun b z n => ⟨z, fun q => n ?_⟩, g.ownN, fun _ z => z⟩, fun b h => own_set_fro b h, fun j h => ?_⟩, fz⟩
  · by_cases q : i = j
    · subst q
      rw [getset_self hlt] at ej
      cases ej
      exact ⟨_, hs, fz⟩
    · rw [List.getElem?_set_ne q] at ej
      obtain ⟨v, h1, h2⟩ := g.slot j _ ej
      refine ⟨v, h1, ?_⟩
      cases s with
      | dat o d =>
        cases o with
        | false => exact Rp.less h2 g.trk
        | true =>
          obtain ⟨b, h3, h4, h5⟩ := h2
          refine ⟨b, h3, ⟨h4, fun z => q ?_⟩, h5.less g.trk⟩
          subst z
          subst h3
          exact g.inj i j e d b hi ej hs h1
      | fn k ds => exact FnR.less h2 g.trk
      | exn x => trivial
  · have sub : ∀ {j : Nat} {d : D}, (r.set i (some (.dat false e)))[j]? = some (some (.dat true d)) → r[j]? = some (some (.dat true d)) := fun {j d} h => by
      by_cases q : i = j
      · subst q
        rw [getset_self hlt] at h
        cases h
      · rwa [List.getElem?_set_ne q] at h
    exact g.inj j k d f b (sub h1) (sub h2) h3 h4
  · subst q
    exact ⟨i, e, hi, hs⟩
  · obtain ⟨o, d, h⟩ := h
    by_cases q : i = j
    · subst q
      exact ⟨false, e, getset_self hlt⟩
    · exact ⟨o, d, by rw [List.getElem?_set_ne q]; exact h⟩
/-- not the same new list -/
def Apart (v : V) (x : R) (v' : V) (x' : R) : Prop := ∀ a d e, v = .ref a → x = .val true d → v' = .ref a → x' = .val true e → False
theorem RR.less {x : R} (h : RR K Fa r σ N H v x) (g : Good K Fa pr r σ N H) (na : ∀ d, v = .ref a → x = .val true d → False) : RR K Fa r σ (lessN N a) H v x := by
  cases x with
  | val o d =>
    cases o with
    | false => exact Rp.less h g.trk
    | true =>
      obtain ⟨b, h1, h2, h3, h4⟩ := h
      exact ⟨b, h1, ⟨h2, fun z => na d (z ▸ h1) rfl⟩, h3.less g.trk, h4⟩
  | sl i => exact h
  | fn k ds => exact FnR.less h g.trk
/-- kept for good -/
theorem RR.take0 {x : R} {dr : D × En} {r0 : En} {N0 : NS} {H0 : Hp} (g0 : Good K Fa pr r0 σ N0 H0) (s : Stp r0 σ N0 H0 r N H) (h : RR K Fa r σ N H v x) (fs : Fsh r0 σ N0 v x) (g : Good K Fa pr r σ N H) (e : E2.take r x = some dr) :
    ∃ N', Good K Fa pr dr.2 σ N' H ∧ Stp r0 σ N0 H0 dr.2 N' H ∧ Rp K N' H v dr.1 ∧ (∀ v d, Rp K N H v d → Rp K N' H v d) ∧ (∀ v' x', RR K Fa r σ N H v' x' → Apart v x v' x' → RR K Fa dr.2 σ N' H v' x') ∧ ∀ b, N' b → N b := by
  cases x with
  | val o d =>
    cases e
    cases o with
    | false => exact ⟨N, g, s, h, fun _ _ h => h, fun _ _ h _ => h, fun _ z => z⟩
    | true =>
      obtain ⟨a, rfl, h2, h3, h4⟩ := h
      refine ⟨lessN N a, ⟨g.len, fun i s ei => ?_, g.inj, fun b h => g.trk b h.1, g.prs, g.tab.ext (fun _ _ e _ => e) (fun _ z => .inl z.1)⟩, ⟨⟨s.ext.keep, fun h => (s.ext.tab h).ext (fun _ _ e _ => e) (fun _ z => .inl z.1), fun b z => s.ext.new b z.1, fun b z n => ⟨s.ext.stay b z n, fun q => n (q ▸ fs a rfl (q ▸ z))⟩, s.ext.sub, s.ext.there⟩, s.own, s.dat⟩, h3.frz g.trk, fun _ _ h => h.less g.trk,
        fun v' x' h' ap => h'.less g fun e e1 e2 => ap a d e rfl rfl e1 e2, fun _ z => z.1⟩
      obtain ⟨v, h5, h6⟩ := g.slot i _ ei
      refine ⟨v, h5, ?_⟩
      cases s with
      | dat o d =>
        cases o with
        | false => exact Rp.less h6 g.trk
        | true =>
          obtain ⟨b, h7, h8, h9⟩ := h6
          refine ⟨b, h7, ⟨h8, fun z => h4 ?_⟩, h9.less g.trk⟩
          subst z
          subst h7
          exact ⟨i, d, ei, h5⟩
      | fn k ds => exact FnR.less h6 g.trk
      | exn x => trivial
  | sl i =>
    obtain ⟨h1, o, d, h2⟩ := h
    simp only [E2.take, h2] at e
    cases e
    cases o with
    | true =>
      obtain ⟨v0, h3, a, rfl, h4, h5⟩ := g.slot i _ h2
      rw [h1] at h3
      cases h3
      obtain ⟨g1, s1, q⟩ := g.freeze h2 h1
      exact ⟨_, g1, s.trans g0 s1, q, fun _ _ h => h.ext s1.ext g.trk, fun _ _ h _ => h.stp s1 g, fun b z => (s1.ext.new b z).elim id fun q => absurd q (mutSome (g1.trk b z))⟩
    | false =>
      obtain ⟨v0, h3, h4⟩ := g.slot i _ h2
      rw [h1] at h3
      cases h3
      have e : r.set i (some (.dat false d)) = r := by
        apply List.ext_getElem?
        intro j
        rw [List.getElem?_set]
        split
        · rename_i q
          subst q
          split
          · exact h2.symm
          · rename_i q
            rw [List.getElem?_eq_none (Nat.le_of_not_lt q)] at h2
            cases h2
        · rfl
      rw [e]
      exact ⟨N, g, s, h4, fun _ _ h => h, fun _ _ h _ => h, fun _ z => z⟩
  | fn k ds => cases e
theorem RR.take {x : R} {dr : D × En} {r0 : En} {N0 : NS} {H0 : Hp} (g0 : Good K Fa pr r0 σ N0 H0) (s : Stp r0 σ N0 H0 r N H) (h : RR K Fa r σ N H v x) (fs : Fsh r0 σ N0 v x) (g : Good K Fa pr r σ N H) (e : E2.take r x = some dr) :
    ∃ N', Good K Fa pr dr.2 σ N' H ∧ Stp r0 σ N0 H0 dr.2 N' H ∧ Rp K N' H v dr.1 ∧ (∀ v d, Rp K N H v d → Rp K N' H v d) ∧ ∀ v' x', RR K Fa r σ N H v' x' → Apart v x v' x' → RR K Fa dr.2 σ N' H v' x' := by
  obtain ⟨N', a, b, c, d, f, _⟩ := RR.take0 g0 s h fs g e
  exact ⟨N', a, b, c, d, f⟩
theorem RRs.of_less : ∀ {vs : List V} {xs : List R} (f : ∀ v x, RR K Fa r σ N H v x → (∀ a d, v = .ref a → x = .val true d → a ∈ frA vs xs) → RR K Fa r' σ N' H' v x), RRs K Fa r σ N H vs xs → RRs K Fa r' σ N' H' vs xs
  | [], [], _, _ => trivial
  | v :: vs, x :: xs, f, h => ⟨f v x h.1 fun a d e1 e2 => by subst e1 e2; simp [frA], RRs.of_less (fun w y hw hm => f w y hw fun a d e1 e2 => by
      have q := hm a d e1 e2
      unfold frA
      split
      · rename_i e1 e2; cases e1; cases e2; exact List.mem_cons_of_mem _ q
      · rename_i e1 e2; cases e1; cases e2; exact q
      · rename_i n; exact (n v vs x xs rfl rfl).elim) h.2⟩
  | [], _ :: _, _, h => h.elim
  | _ :: _, [], _, h => h.elim
theorem takes_ok {r0 : En} {N0 : NS} {H0 : Hp} (g0 : Good K Fa pr r0 σ N0 H0) : ∀ {xs : List R} {vs : List V} {r : En} {N : NS} {dr : List D × En}, Stp r0 σ N0 H0 r N H → RRs K Fa r σ N H vs xs → (frA vs xs).Nodup → (∀ a ∈ frA vs xs, N0 a → own r0 σ a) → Good K Fa pr r σ N H →
    takes r xs = some dr → ∃ N', Good K Fa pr dr.2 σ N' H ∧ Stp r0 σ N0 H0 dr.2 N' H ∧ RpA K N' H vs dr.1 ∧ ∀ v d, Rp K N H v d → Rp K N' H v d
  | [], vs, r, N, dr, s, h, _, _, g, e => by
    cases e
    cases vs with
    | nil => exact ⟨N, g, s, .nil, fun _ _ h => h⟩
    | cons _ _ => exact h.elim
  | x :: xs, [], r, N, dr, s, h, _, _, g, e => h.elim
  | x :: xs, v :: vs, r, N, dr, s, h, nd, fs, g, e => by
    simp only [takes] at e
    split at e
    · rename_i d r1 e1
      have fr : ∀ a d', v = .ref a → x = .val true d' → frA (v :: vs) (x :: xs) = a :: frA vs xs := fun a d' q1 q2 => by subst q1 q2; rfl
      have sub : ∀ a ∈ frA vs xs, a ∈ frA (v :: vs) (x :: xs) := fun a q => by
        unfold frA
        split
        · rename_i e1 e2; cases e1; cases e2; exact List.mem_cons_of_mem _ q
        · rename_i e1 e2; cases e1; cases e2; exact q
        · rename_i n; exact (n v vs x xs rfl rfl).elim
      have nd' : (frA vs xs).Nodup := by
        unfold frA at nd
        split at nd
        · rename_i e1 e2; cases e1; cases e2; exact (List.nodup_cons.mp nd).2
        · rename_i e1 e2; cases e1; cases e2; exact nd
        · rename_i n; exact (n v vs x xs rfl rfl).elim
      obtain ⟨N1, g1, s1, q1, k1, k2⟩ := RR.take g0 s h.1 (by
        cases x with
        | val o d' =>
          cases o with
          | false => trivial
          | true => exact fun a q n => fs a (by rw [fr a d' q rfl]; exact List.mem_cons_self) n
        | sl i => trivial
        | fn k ds => trivial) g e1
      have h2 : RRs K Fa r1 σ N1 H vs xs := RRs.of_less (fun w y hw hm => k2 w y hw fun a d' e' p1 p2 p3 p4 => by
        rw [fr a d' p1 p2] at nd
        exact (List.nodup_cons.mp nd).1 (hm a e' p3 p4)) h.2
      split at e
      · rename_i ds r2 e2
        cases e
        obtain ⟨N2, g2, s2, q2, k3⟩ := takes_ok g0 (dr := (ds, r2)) s1 h2 nd' (fun a q => fs a (sub a q)) g1 e2
        exact ⟨N2, g2, s2, .cons (k3 _ _ q1) q2, fun v d h => k3 _ _ (k1 _ _ h)⟩
      · cases e
    · cases e
end
end E2

set_option Elab.async false
set_option linter.all false
set_option maxRecDepth 100000
set_option maxHeartbeats 1000000
namespace E2
variable [Tbs]
open PySem PySem.Spec PyProof.Rows L2
section
variable (K : Kw) (Fa Ca : Nat → Addr) (pr : List (Nat × Addr)) (W : WX)
def relL : Rel (List R) (List V) := fun y r0 N0 r σ N H v => RRs K Fa r σ N H v y ∧ (∀ a ∈ frA v y, N0 a → own r0 σ a) ∧ (frA v y).Nodup
abbrev tL (f : En → Rs (List R)) : TA := tG K Fa Ca pr W (relL K Fa) f
end
section
variable {K : Kw} {Fa Ca : Nat → Addr} {pr : List (Nat × Addr)} {W : WX} {r r1 r' : En} {σ : L2.St} {N N1 N' : NS} {H H1 H' : Hp} {v : V} {d : D} {a : Addr} {α β γ δ : Type} {X : Cx} {G : Gs} {pos : Pos}

/-! ### argument lists -/
/-- no star -/
def plainX : Expr → Bool
  | .Starred _ _ => false
  | _ => true
theorem star_cons {e : Expr} {es : List Expr} {env : Env} (h : plainX e = true) : starEach (e :: es) env = (false, eval e env) :: starEach es env := by
  cases e <;> first | rfl | cases h
theorem star_plain {env : Env} : ∀ {es : List Expr}, es.all plainX = true → (starEach es env).all (fun x => !x.1) = true
  | [], _ => rfl
  | e :: es, h => by
    simp only [List.all_cons, Bool.and_eq_true] at h
    rw [star_cons h.1, List.all_cons, star_plain h.2]
    rfl
theorem back_any {env : Env} {es : List Expr} (h : es.all plainX = true) : (backTo pos (starEach es env)).any (·.1) = false := by
  have q := star_plain (env := env) h
  unfold backTo
  rw [List.any_map]
  rw [List.all_eq_true] at q
  rw [Bool.eq_false_iff]
  intro z
  rw [List.any_eq_true] at z
  obtain ⟨x, h1, h2⟩ := z
  have := q x h1
  simp only [Function.comp] at h2
  rw [h2] at this
  cases this
theorem star_len {env : Env} : ∀ {es : List Expr}, es.all plainX = true → (starEach es env).length = es.length
  | [], _ => rfl
  | e :: es, h => by
    simp only [List.all_cons, Bool.and_eq_true] at h
    rw [star_cons h.1, List.length_cons, star_len h.2]
    rfl
theorem back_few {env : Env} {es : List Expr} (h : es.all plainX = true) (hl : es.length < 30) :
    ((backTo pos (starEach es env)).all (fun x => !x.1) && (backToKw pos (keywordEach [] env)).all (fun x => x.1.isSome) && decide (es.length + ([] : List Keyword).length + (if ([] : List Keyword).isEmpty then 0 else 1) < 30)) = true := by
  have e1 : (backTo pos (starEach es env)).all (fun x => !x.1) = true := by
    have q := star_plain (env := env) h
    unfold backTo
    rw [List.all_map]
    rw [List.all_eq_true] at q ⊢
    exact fun x hx => q x hx
  rw [e1]
  simp [backToKw, keywordEach, hl]
theorem fe_nil : PA X [] (tL K Fa Ca pr W (evEs G .nil)) :=
  PA.imp pa_nil fun σ H Q ⟨r, N, g, h⟩ => by
    simp only [evEs] at h
    exact h [] H N (Stp.refl g) g ⟨trivial, fun a z => absurd z (by simp [frA]), by simp [frA]⟩
theorem relL_nil : relL K Fa [] r N r1 σ N1 H1 [] := ⟨trivial, fun a z => absurd z (by simp [frA]), by simp [frA]⟩
theorem relL_cons {y : R} {ys : List R} {vs : List V} {r2 : En} {N2 : NS} {H2 : Hp} (s1 : Stp r σ N H r1 N1 H1) (g1 : Good K Fa pr r1 σ N1 H1) (q1 : RR K Fa r1 σ N1 H1 v y) (f1 : Fsh r σ N v y) (t2 : Stp r1 σ N1 H1 r2 N2 H2) (h : relL K Fa ys r1 N1 r2 σ N2 H2 vs) : relL K Fa (y :: ys) r N r2 σ N2 H2 (v :: vs) := by
  obtain ⟨q2, f2, n2⟩ := h
  refine ⟨⟨q1.stp t2 g1, q2⟩, fun a ha n => ?_, ?_⟩
  · unfold frA at ha
    split at ha
    · rename_i b vs' d xs' e1 e2
      cases e1
      cases e2
      rcases List.mem_cons.mp ha with e | ha
      · subst e
        exact f1 _ rfl n
      · by_cases z : own r σ a
        · exact z
        · exact s1.own a (f2 a ha (s1.ext.stay a n z))
    · rename_i e1 e2
      cases e1
      cases e2
      by_cases z : own r σ a
      · exact z
      · exact s1.own a (f2 a ha (s1.ext.stay a n z))
    · cases ha
  · unfold frA
    split
    · rename_i b vs' d xs' e1 e2
      cases e1
      cases e2
      refine List.nodup_cons.mpr ⟨fun z => ?_, n2⟩
      obtain ⟨a, h1, h2, h3, h4⟩ := q1
      cases h1
      exact h4 (f2 _ z h2)
    · rename_i e1 e2
      cases e1
      cases e2
      exact n2
    · exact List.nodup_nil

theorem fe_cons {c : CE} {cs : CEs} {e : Expr} {es : List Expr} (hp : plainX e = true) (h1 : PE X e (tE K Fa Ca pr W (evE G c))) (h2 : PA X es (tL K Fa Ca pr W (evEs G cs))) : PA X (e :: es) (tL K Fa Ca pr W (evEs G (.cons c cs))) := by
  refine PA.imp (pa_cons h1 h2 (star_cons hp)) fun σ H Q ⟨r, N, g, h⟩ => ?_
  simp only [evEs] at h
  refine tG_mono (tG_bind (rel := relE K Fa) g (Stp.refl g) g h) fun v H1 ⟨y, r1, N1, t1, s1, g1, ⟨q1, f1⟩, p1⟩ => ?_
  exact tG_mono (tG_bind (rel := relL K Fa) g s1 g1 p1) fun vs H2 ⟨ys, r2, N2, t2, s2, g2, q2, p2⟩ => p2 (v :: vs) H2 N2 s2 g2 (relL_cons s1 g1 q1 f1 t2 q2)

/-! ### displays -/
theorem fe_tup {cs : CEs} {es : List Expr} {k : Nat} (h1 : PA X es (tL K Fa Ca pr W (evEs G cs))) : PE X (.Tuple es k pos) (tE K Fa Ca pr W (evE G (.tup cs))) := by
  refine PE.imp (pe_tupF h1) fun σ H Q ⟨r, N, g, h⟩ => ?_
  simp only [evE] at h
  refine tG_mono (tG_bind (rel := relL K Fa) g (Stp.refl g) g h) fun vs H1 ⟨ys, r1, N1, t1, s1, g1, ⟨q1, f1, n1⟩, p1⟩ => ?_
  cases e : takes r1 ys with
  | none => simp only [e] at p1; exact p1.elim
  | some dr =>
    obtain ⟨ds, r2⟩ := dr
    simp only [e] at p1
    obtain ⟨N2, g2, s2, q2, _⟩ := takes_ok g (dr := (ds, r2)) s1 q1 n1 f1 g1 e
    split at p1
    · exact ⟨by rw [q2.length]; assumption, fun p ob hp oc od => p1.newT g s2 g2 hp oc od q2⟩
    · exact p1.elim
theorem fe_lst {cs : CEs} {es : List Expr} (h1 : PA X es (tL K Fa Ca pr W (evEs G cs))) : PE X (.List es pos) (tE K Fa Ca pr W (evE G (.lst cs))) := by
  refine PE.imp (pe_lst h1) fun σ H Q ⟨r, N, g, h⟩ => ?_
  simp only [evE] at h
  refine tG_mono (tG_bind (rel := relL K Fa) g (Stp.refl g) g h) fun vs H1 ⟨ys, r1, N1, t1, s1, g1, ⟨q1, f1, n1⟩, p1⟩ => ?_
  cases e : takes r1 ys with
  | none => simp only [e] at p1; exact p1.elim
  | some dr =>
    obtain ⟨ds, r2⟩ := dr
    simp only [e] at p1
    obtain ⟨N2, g2, s2, q2, _⟩ := takes_ok g (dr := (ds, r2)) s1 q1 n1 f1 g1 e
    split at p1
    · exact ⟨by rw [q2.length]; assumption, fun p hp => p1.newL g s2 g2 hp q2⟩
    · exact p1.elim
theorem fe_dic0 : PE X (.Dict [] [] pos) (tE K Fa Ca pr W (evE G .dic0)) := by
  refine PE.imp pe_dnewK fun σ H Q ⟨r, N, g, h⟩ => fun p hp => ?_
  simp only [evE] at h
  exact h.newM g (Stp.refl g) g hp trivial fun N' E => .inl ⟨[], upd_same, .nil⟩

/-! ### truth -/
theorem truV {k : Bool} (h : DR K N H v d) (e : truD d = some k) : TruV K.fr v H k := by
  cases d with
  | none => rw [h.non]; cases e; rfl
  | bool b => rw [h.bool]; cases e; rfl
  | int b => rw [h.int]; cases e; rfl
  | str y =>
    rw [h.str]
    simp only [truD] at e
    split at e
    · cases e; exact ⟨by assumption, rfl⟩
    · cases e
  | list xs =>
    obtain ⟨a, ys, rfl, h1, h2⟩ := h.lst
    cases e
    exact .inl ⟨ys, h1, by cases h2 <;> rfl⟩
  | tuple xs =>
    obtain ⟨a, ys, rfl, h1, h2⟩ := h.tup
    cases e
    exact .inr (.inl ⟨ys, h1.sq, by cases h2 <;> rfl⟩)
  | dict xs => cases e
theorem bindTru {x : R} {k : Bool} (h : RR K Fa r σ N H v x) (g : Good K Fa pr r σ N H) (e : (dref r x).bind truD = some k) : TruV K.fr v H k := by
  obtain ⟨d, e1, e2⟩ := Option.bind_eq_some_iff.mp e
  exact truV (h.look g e1) e2
/-- the whole began earlier -/
def Bk (rel : Rel α β) : Prop := ∀ (σ : L2.St) (r0 : En) (N0 : NS) (H0 : Hp) (r1 : En) (N1 : NS) (H1 : Hp) (y : α) (r' : En) (N' : NS) (H' : Hp) (v : β), Stp r0 σ N0 H0 r1 N1 H1 → rel y r1 N1 r' σ N' H' v → rel y r0 N0 r' σ N' H' v
theorem bk_E : Bk (relE K Fa) := fun _ _ _ _ _ _ _ _ _ _ _ _ s h => ⟨h.1, h.2.back s⟩
theorem bk_B : Bk relB := fun _ _ _ _ _ _ _ _ _ _ _ _ s h => h
theorem bk_O : Bk relO := fun _ _ _ _ _ _ _ _ _ _ _ _ s h => h
theorem bk_L : Bk (relL K Fa) := fun σ r0 N0 H0 r1 N1 H1 _ _ _ _ _ s h => ⟨h.1, fun a ha n => by
  by_cases z : own r0 σ a
  · exact z
  · exact s.own a (h.2.1 a ha (s.ext.stay a n z)), h.2.2⟩
theorem PostG.sub {rel : Rel α β} (bk : Bk rel) {Q : β → Hp → Prop} {x : Rs α} (g : Good K Fa pr r σ N H) (s : Stp r σ N H r1 N1 H1) (h : PostG K Fa Ca pr W rel r σ N H Q x) : PostG K Fa Ca pr W rel r1 σ N1 H1 Q x := by
  cases x with
  | ok y r' => exact fun v H' N' s' g' q => h v H' N' (s.trans g s') g' (bk _ _ _ _ _ _ _ _ _ _ _ _ s q)
  | exc x r' => exact fun c d H' N' s' g' q => h c d H' N' (s.trans g s') g' q
  | stuck => exact h
theorem fe_and {c1 c2 : CE} {e b : Expr} {rest : List Expr} (hK : X.kw = K) (h1 : PE X e (tE K Fa Ca pr W (evE G c1))) (h2 : PE X (.BoolOp .And (b :: rest) pos) (tE K Fa Ca pr W (evE G c2))) : PE X (.BoolOp .And (e :: b :: rest) pos) (tE K Fa Ca pr W (evE G (.and c1 c2))) := by
  subst hK
  refine PE.imp (pe_andT h1 h2) fun σ H Q ⟨r, N, g, h⟩ => ?_
  simp only [evE] at h
  show tE X.kw Fa Ca pr W (evE G c1) σ H _
  refine tG_mono (tG_bind (rel := relE X.kw Fa) g (Stp.refl g) g h) fun v H1 ⟨y, r1, N1, t1, s1, g1, ⟨q1, f1⟩, p1⟩ => ?_
  cases e : (dref r1 y).bind truD with
  | none => simp only [e] at p1; exact p1.elim
  | some k =>
    refine ⟨k, bindTru q1 g1 e, ?_⟩
    cases k with
    | true =>
      simp only [e] at p1
      rw [if_pos rfl]
      exact ⟨r1, N1, g1, PostG.sub bk_E g s1 p1⟩
    | false =>
      simp only [e] at p1
      rw [if_neg Bool.false_ne_true]
      exact p1 v H1 N1 s1 g1 ⟨q1, f1⟩
theorem fe_or {c1 c2 : CE} {e b : Expr} {rest : List Expr} (hK : X.kw = K) (h1 : PE X e (tE K Fa Ca pr W (evE G c1))) (h2 : PE X (.BoolOp .Or (b :: rest) pos) (tE K Fa Ca pr W (evE G c2))) : PE X (.BoolOp .Or (e :: b :: rest) pos) (tE K Fa Ca pr W (evE G (.or c1 c2))) := by
  subst hK
  refine PE.imp (pe_orT h1 h2) fun σ H Q ⟨r, N, g, h⟩ => ?_
  simp only [evE] at h
  show tE X.kw Fa Ca pr W (evE G c1) σ H _
  refine tG_mono (tG_bind (rel := relE X.kw Fa) g (Stp.refl g) g h) fun v H1 ⟨y, r1, N1, t1, s1, g1, ⟨q1, f1⟩, p1⟩ => ?_
  cases e : (dref r1 y).bind truD with
  | none => simp only [e] at p1; exact p1.elim
  | some k =>
    refine ⟨k, bindTru q1 g1 e, ?_⟩
    cases k with
    | false =>
      simp only [e] at p1
      rw [if_neg Bool.false_ne_true]
      exact ⟨r1, N1, g1, PostG.sub bk_E g s1 p1⟩
    | true =>
      simp only [e] at p1
      rw [if_pos rfl]
      exact p1 v H1 N1 s1 g1 ⟨q1, f1⟩
theorem fe_not {c1 : CE} {e : Expr} (hK : X.kw = K) (h1 : PE X e (tE K Fa Ca pr W (evE G c1))) : PE X (.UnaryOp .Not e pos) (tE K Fa Ca pr W (evE G (.not c1))) := by
  subst hK
  refine PE.imp (pe_notT h1) fun σ H Q ⟨r, N, g, h⟩ => ?_
  simp only [evE] at h
  show tE X.kw Fa Ca pr W (evE G c1) σ H _
  refine tG_mono (tG_bind (rel := relE X.kw Fa) g (Stp.refl g) g h) fun v H1 ⟨y, r1, N1, t1, s1, g1, ⟨q1, f1⟩, p1⟩ => ?_
  cases e : (dref r1 y).bind truD with
  | none => simp only [e] at p1; exact p1.elim
  | some k =>
    simp only [e] at p1
    exact ⟨k, bindTru q1 g1 e, p1.val s1 g1 (.bl _)⟩

/-! ### tests -/
theorem fp_and {c1 c2 : CT} {e b : Expr} {rest : List Expr} (h1 : PT X e (tB K Fa Ca pr W (evT G c1))) (h2 : PW X (.BoolOp .And (b :: rest) pos) (tB K Fa Ca pr W (evT G c2))) : PW X (.BoolOp .And (e :: b :: rest) pos) (tB K Fa Ca pr W (evT G (.and c1 c2))) := by
  refine PW.imp (pw_and h1 h2) fun σ H Q ⟨r, N, g, h⟩ => ?_
  simp only [evT] at h
  refine tG_mono (tG_bind (rel := relB) g (Stp.refl g) g h) fun v H1 ⟨y, r1, N1, t1, s1, g1, q1, p1⟩ => ?_
  cases (show v = y from q1)
  cases v with
  | true => rw [if_pos rfl]; exact ⟨r1, N1, g1, PostG.sub bk_B g s1 p1⟩
  | false => rw [if_neg Bool.false_ne_true]; exact p1 false H1 N1 s1 g1 rfl
theorem fp_or {c1 c2 : CT} {e b : Expr} {rest : List Expr} (h1 : PT X e (tB K Fa Ca pr W (evT G c1))) (h2 : PW X (.BoolOp .Or (b :: rest) pos) (tB K Fa Ca pr W (evT G c2))) : PW X (.BoolOp .Or (e :: b :: rest) pos) (tB K Fa Ca pr W (evT G (.or c1 c2))) := by
  refine PW.imp (pw_or h1 h2) fun σ H Q ⟨r, N, g, h⟩ => ?_
  simp only [evT] at h
  refine tG_mono (tG_bind (rel := relB) g (Stp.refl g) g h) fun v H1 ⟨y, r1, N1, t1, s1, g1, q1, p1⟩ => ?_
  cases (show v = y from q1)
  cases v with
  | false => rw [if_neg Bool.false_ne_true]; exact ⟨r1, N1, g1, PostG.sub bk_B g s1 p1⟩
  | true => rw [if_pos rfl]; exact p1 true H1 N1 s1 g1 rfl
theorem fp_not {c1 : CT} {e : Expr} (h1 : PT X e (tB K Fa Ca pr W (evT G c1))) : PT X (.UnaryOp .Not e pos) (tB K Fa Ca pr W (evT G (.not c1))) := by
  refine PT.imp (pt_not h1) fun σ H Q ⟨r, N, g, h⟩ => ?_
  simp only [evT] at h
  refine tG_mono (tG_bind (rel := relB) g (Stp.refl g) g h) fun v H1 ⟨y, r1, N1, t1, s1, g1, q1, p1⟩ => ?_
  cases (show v = y from q1)
  exact p1 _ H1 N1 s1 g1 rfl
/-- what is a test by its truth alone -/
def plainT : Expr → Bool
  | .UnaryOp .Not _ _ => false
  | .BoolOp _ _ _ => false
  | .IfExp _ _ _ _ => false
  | .Compare _ _ _ _ => false
  | _ => true
theorem isTrue_plainT {e : Expr} {env : Env} (h : plainT e = true) : ∀ whole, isTrue e env whole = (do let v ← whole; standAt e.pos; holding [v] (truthy v)) := by
  intro whole
  cases e with
  | UnaryOp op a pos => cases op <;> first | rfl | cases h
  | BoolOp => cases h
  | IfExp => cases h
  | Compare => cases h
  | _ => rfl
theorem fp_ex {c1 : CE} {e : Expr} (hK : X.kw = K) (hp : plainT e = true) (h1 : PE X e (tE K Fa Ca pr W (evE G c1))) : PT X e (tB K Fa Ca pr W (evT G (.ex c1))) := by
  subst hK
  refine PT.imp (pt_truth h1 (isTrue_plainT hp)) fun σ H Q ⟨r, N, g, h⟩ => ?_
  simp only [evT] at h
  show tE X.kw Fa Ca pr W (evE G c1) σ H _
  refine tG_mono (tG_bind (rel := relE X.kw Fa) g (Stp.refl g) g h) fun v H1 ⟨y, r1, N1, t1, s1, g1, ⟨q1, f1⟩, p1⟩ => ?_
  cases e : (dref r1 y).bind truD with
  | none => simp only [e] at p1; exact p1.elim
  | some k =>
    simp only [e] at p1
    exact ⟨k, bindTru q1 g1 e, p1 k H1 N1 s1 g1 rfl⟩

/-! ### operators -/
theorem fe_bin {op : Operator} {c1 c2 : CE} {a b : Expr} (hK : X.kw = K) (h1 : PE X a (tE K Fa Ca pr W (evE G c1))) (h2 : PE X b (tE K Fa Ca pr W (evE G c2))) : PE X (.BinOp a op b pos) (tE K Fa Ca pr W (evE G (.bin op c1 c2))) :=
  fe_bin2 (A := c1) (B := c2) (k := kBin op) (fun r => by simp only [evE] <;> rfl) (pe_op (op_bin hK op) h1 h2)
theorem fe_cmp {op : CmpOp} {c1 c2 : CE} {a b : Expr} (hK : X.kw = K) (hu : X.A.units + 65 < cLine) (hm : behindInMarks op b = false) (h1 : PE X a (tE K Fa Ca pr W (evE G c1))) (h2 : PE X b (tE K Fa Ca pr W (evE G c2))) : PE X (.Compare a [op] [b] pos) (tE K Fa Ca pr W (evE G (.cmp op c1 c2))) := by
  refine fe_bin2 (A := c1) (B := c2) (k := fun d f r => match cmpD op d f with
    | some k => .ok (.val false (.bool k)) r
    | none => .stuck) (fun r => by simp only [evE] <;> rfl) (PE.imp (pe_cmpR (op_cmpE hK hu op) h1 h2 hm) fun σ H Q h => ?_)
  refine tG_mono h fun x H1 h => tG_mono h fun y H2 ⟨r0, σ', N0, H0, r, N, d, f, g0, sp, g, hx, hy, h⟩ => ?_
  cases e : cmpD op d f with
  | none => simp only [e] at h; exact h.elim
  | some k =>
    simp only [e] at h
    exact ⟨N, d, f, k, hx, hy, e, h.val sp g (.bl k)⟩
theorem ft_cmp {op : CmpOp} {c1 c2 : CE} {a b : Expr} (hK : X.kw = K) (hu : X.A.units + 65 < cLine) (hm : behindInMarks op b = false) (h1 : PE X a (tE K Fa Ca pr W (evE G c1))) (h2 : PE X b (tE K Fa Ca pr W (evE G c2))) : PT X (.Compare a [op] [b] pos) (tB K Fa Ca pr W (evT G (.ex (.cmp op c1 c2)))) := by
  refine PT.imp (pt_cmpR (op_cmpE hK hu op) h1 h2 hm) fun σ H Q ⟨r, N, g, h⟩ => ?_
  simp only [evT, evE] at h
  have e3 : ∀ {α β γ : Type} (x : Rs α) (f : α → En → Rs β) (k : β → En → Rs γ), (x.bind f).bind k = x.bind fun a r => (f a r).bind k := fun x f k => by cases x <;> rfl
  rw [e3] at h
  show tE K Fa Ca pr W (evE G c1) σ H _
  refine tG_mono (tG_bind (rel := relE K Fa) g (Stp.refl g) g h) fun v H1 ⟨y, r1, N1, _, s1, g1, q1, p1⟩ => ?_
  rw [e3] at p1
  refine tG_mono (tG_bind (rel := relE K Fa) g s1 g1 p1) fun v2 H2 ⟨y2, r2, N2, t2, s2, g2, q2, p2⟩ => ?_
  have q1' := RR.stp q1.1 t2 g1
  cases e1 : dref r2 y with
  | none => simp only [e1] at p2; exact p2.elim
  | some d1 =>
    cases e2 : dref r2 y2 with
    | none => simp only [e1, e2] at p2; exact p2.elim
    | some d2 =>
      cases e : cmpD op d1 d2 with
      | none => simp only [e1, e2, e] at p2; exact p2.elim
      | some k =>
        simp only [e1, e2, e] at p2
        exact ⟨N2, d1, d2, k, RR.look q1' g2 e1, RR.look q2.1 g2 e2, e, k, rfl, p2 k H2 N2 s2 g2 rfl⟩
theorem fe_neg {c1 : CE} {a : Expr} (h1 : PE X a (tE K Fa Ca pr W (evE G c1))) : PE X (.UnaryOp .USub a pos) (tE K Fa Ca pr W (evE G (.neg c1))) := by
  refine PE.imp (pe_un un_neg h1) fun σ H Q ⟨r, N, g, h⟩ => ?_
  simp only [evE] at h
  show tE K Fa Ca pr W (evE G c1) σ H _
  refine tG_mono (tG_bind (rel := relE K Fa) g (Stp.refl g) g h) fun v H1 ⟨y, r1, N1, t1, s1, g1, ⟨q1, f1⟩, p1⟩ => ?_
  split at p1
  · rename_i o i
    have hv : v = .int i := by
      cases o with
      | false => cases q1; rfl
      | true => obtain ⟨_, _, _, z, _⟩ := q1; exact z.elim
    exact ⟨i, hv, p1.val s1 g1 (.int _)⟩
  · exact p1.elim
theorem rep_fin {y y2 : R} {r0 : En} {N0 : NS} {H0 : Hp} {Q : VK} (p : PostG K Fa Ca pr W (relE K Fa) r0 σ N0 H0 Q (match y, y2 with
    | .val true (.list xs), .val false (.int k) => if k < 2 ^ 63 ∧ -(2 ^ 63) ≤ k ∧ xs.length * k.toNat ≤ sizeLine then .ok (.val true (.list (List.replicate k.toNat xs).flatten)) r else .stuck
    | _, _ => .stuck)) : ∃ xs k, y = .val true (.list xs) ∧ y2 = .val false (.int k) ∧ (k < 2 ^ 63 ∧ -(2 ^ 63) ≤ k ∧ xs.length * k.toNat ≤ sizeLine) ∧ PostG K Fa Ca pr W (relE K Fa) r0 σ N0 H0 Q (.ok (.val true (.list (List.replicate k.toNat xs).flatten)) r) := by
  split at p
  · split at p
    · exact ⟨_, _, rfl, rfl, by assumption, p⟩
    · exact p.elim
  · exact p.elim
theorem fe_rep {c1 c2 : CE} {a b : Expr} (h1 : PE X a (tE K Fa Ca pr W (evE G c1))) (h2 : PE X b (tE K Fa Ca pr W (evE G c2))) : PE X (.BinOp a .Mult b pos) (tE K Fa Ca pr W (evE G (.rep c1 c2))) := by
  refine PE.imp (pe_op op_rep h1 h2) fun σ H Q ⟨r, N, g, h⟩ => ?_
  simp only [evE] at h
  show tE K Fa Ca pr W (evE G c1) σ H _
  refine tG_mono (tG_bind (rel := relE K Fa) g (Stp.refl g) g h) fun v H1 ⟨y, r1, N1, _, s1, g1, q1, p1⟩ => ?_
  refine tG_mono (tG_bind (rel := relE K Fa) g s1 g1 p1) fun v2 H2 ⟨y2, r2, N2, t2, s2, g2, q2, p2⟩ => ?_
  have q1' := RR.stp q1.1 t2 g1
  obtain ⟨xs, k, rfl, rfl, hk, p2⟩ := rep_fin p2
  obtain ⟨a, rfl, h3, ⟨ys, h4, h5⟩, h6⟩ := q1'
  have hv : v2 = .int k := by have := q2.1; cases this; rfl
  exact ⟨a, k, ys, rfl, hv, h4, hk.2.1, hk.1, by rw [h5.length]; exact hk.2.2, fun p hp => p2.newL g s2 g2 hp (h5.rep _)⟩
theorem fe_ife {ct : CT} {c1 c2 : CE} {c a b : Expr} (hc : PT X c (tB K Fa Ca pr W (evT G ct))) (h1 : PE X a (tE K Fa Ca pr W (evE G c1))) (h2 : PE X b (tE K Fa Ca pr W (evE G c2))) : PE X (.IfExp c a b pos) (tE K Fa Ca pr W (evE G (.ife ct c1 c2))) := by
  refine PE.imp (pe_ifExp hc h1 h2) fun σ H Q ⟨r, N, g, h⟩ => ?_
  simp only [evE] at h
  show tB K Fa Ca pr W (evT G ct) σ H _
  refine tG_mono (tG_bind (rel := relB) g (Stp.refl g) g h) fun v H1 ⟨y, r1, N1, t1, s1, g1, q1, p1⟩ => ?_
  cases (show v = y from q1)
  cases v with
  | true => rw [if_pos rfl]; exact ⟨r1, N1, g1, PostG.sub bk_E g s1 p1⟩
  | false => rw [if_neg Bool.false_ne_true]; exact ⟨r1, N1, g1, PostG.sub bk_E g s1 p1⟩
theorem fe_chn {op1 op2 : CmpOp} {c1 c2 c3 : CE} {a b c : Expr} (hK : X.kw = K) (hu : X.A.units + 65 < cLine) (hm : lastMarks [op1, op2] [b, c] = false) (h1 : PE X a (tE K Fa Ca pr W (evE G c1))) (h2 : PE X b (tE K Fa Ca pr W (evE G c2))) (h3 : PE X c (tE K Fa Ca pr W (evE G c3))) :
    PE X (.Compare a [op1, op2] [b, c] pos) (tE K Fa Ca pr W (evE G (.chn op1 op2 c1 c2 c3))) := by
  refine PE.imp (pe_chain (op_cmpE hK hu op1) (op_cmpE hK hu op2) h1 h2 h3 hm) fun σ H Q ⟨r, N, g, h⟩ => ?_
  simp only [evE] at h
  show tE K Fa Ca pr W (evE G c1) σ H _
  refine tG_mono (tG_bind (rel := relE K Fa) g (Stp.refl g) g h) fun v H1 ⟨y, r1, N1, _, s1, g1, q1, p1⟩ => ?_
  refine tG_mono (tG_bind (rel := relE K Fa) g s1 g1 p1) fun v2 H2 ⟨y2, r2, N2, t2, s2, g2, q2, p2⟩ => ?_
  have q1' := RR.stp q1.1 t2 g1
  cases e1 : dref r2 y with
  | none => simp only [e1] at p2; exact p2.elim
  | some d1 =>
    cases e2 : dref r2 y2 with
    | none => simp only [e1, e2] at p2; exact p2.elim
    | some d2 =>
      cases e : cmpD op1 d1 d2 with
      | none => simp only [e1, e2, e] at p2; exact p2.elim
      | some k =>
        refine ⟨N2, d1, d2, k, RR.look q1' g2 e1, RR.look q2.1 g2 e2, e, k, rfl, ?_⟩
        cases k with
        | false =>
          simp only [e1, e2, e] at p2
          rw [if_neg Bool.false_ne_true]
          exact p2.val s2 g2 (.bl false)
        | true =>
          simp only [e1, e2, e] at p2
          rw [if_pos rfl]
          show tE K Fa Ca pr W (evE G c3) σ H2 _
          refine tG_mono (tG_bind (rel := relE K Fa) g s2 g2 p2) fun v3 H3 ⟨y3, r3, N3, t3, s3, g3, q3, p3⟩ => ?_
          have q2' := RR.stp q2.1 t3 g2
          cases e4 : dref r3 y2 with
          | none => simp only [e4] at p3; exact p3.elim
          | some d3 =>
            cases e5 : dref r3 y3 with
            | none => simp only [e4, e5] at p3; exact p3.elim
            | some d4 =>
              cases e6 : cmpD op2 d3 d4 with
              | none => simp only [e4, e5, e6] at p3; exact p3.elim
              | some k =>
                simp only [e4, e5, e6] at p3
                exact ⟨N3, d3, d4, k, RR.look q2' g3 e4, RR.look q3.1 g3 e5, e6, p3.val s3 g3 (.bl k)⟩
/-- a chain as a test -/
theorem ft_chn {op1 op2 : CmpOp} {c1 c2 c3 : CE} {a b c : Expr} (hK : X.kw = K) (hu : X.A.units + 65 < cLine) (hm : lastMarks [op1, op2] [b, c] = false) (h1 : PE X a (tE K Fa Ca pr W (evE G c1))) (h2 : PE X b (tE K Fa Ca pr W (evE G c2))) (h3 : PE X c (tE K Fa Ca pr W (evE G c3))) :
    PT X (.Compare a [op1, op2] [b, c] pos) (tB K Fa Ca pr W (evT G (.ex (.chn op1 op2 c1 c2 c3)))) := by
  refine PT.imp (pt_chain (op_cmpE hK hu op1) (op_cmpE hK hu op2) h1 h2 h3 hm) fun σ H Q ⟨r, N, g, h⟩ => ?_
  simp only [evT, evE] at h
  have e3 : ∀ {α β γ : Type} (x : Rs α) (f : α → En → Rs β) (k : β → En → Rs γ), (x.bind f).bind k = x.bind fun a r => (f a r).bind k := fun x f k => by cases x <;> rfl
  rw [e3] at h
  show tE K Fa Ca pr W (evE G c1) σ H _
  refine tG_mono (tG_bind (rel := relE K Fa) g (Stp.refl g) g h) fun v H1 ⟨y, r1, N1, _, s1, g1, q1, p1⟩ => ?_
  rw [e3] at p1
  refine tG_mono (tG_bind (rel := relE K Fa) g s1 g1 p1) fun v2 H2 ⟨y2, r2, N2, t2, s2, g2, q2, p2⟩ => ?_
  have q1' := RR.stp q1.1 t2 g1
  cases e1 : dref r2 y with
  | none => simp only [e1] at p2; exact p2.elim
  | some d1 =>
    cases e2 : dref r2 y2 with
    | none => simp only [e1, e2] at p2; exact p2.elim
    | some d2 =>
      cases e : cmpD op1 d1 d2 with
      | none => simp only [e1, e2, e] at p2; exact p2.elim
      | some k =>
        refine ⟨N2, d1, d2, k, RR.look q1' g2 e1, RR.look q2.1 g2 e2, e, k, rfl, ?_⟩
        cases k with
        | false =>
          simp only [e1, e2, e] at p2
          rw [if_neg Bool.false_ne_true]
          exact ⟨false, rfl, p2 false H2 N2 s2 g2 rfl⟩
        | true =>
          simp only [e1, e2, e] at p2
          rw [e3] at p2
          rw [if_pos rfl]
          show tE K Fa Ca pr W (evE G c3) σ H2 _
          refine tG_mono (tG_bind (rel := relE K Fa) g s2 g2 p2) fun v3 H3 ⟨y3, r3, N3, t3, s3, g3, q3, p3⟩ => ?_
          have q2' := RR.stp q2.1 t3 g2
          cases e4 : dref r3 y2 with
          | none => simp only [e4] at p3; exact p3.elim
          | some d3 =>
            cases e5 : dref r3 y3 with
            | none => simp only [e4, e5] at p3; exact p3.elim
            | some d4 =>
              cases e6 : cmpD op2 d3 d4 with
              | none => simp only [e4, e5, e6] at p3; exact p3.elim
              | some k =>
                simp only [e4, e5, e6] at p3
                exact ⟨N3, d3, d4, k, RR.look q2' g3 e4, RR.look q3.1 g3 e5, e6, k, rfl, p3 k H3 N3 s3 g3 rfl⟩
end
end E2

set_option Elab.async false
set_option linter.all false
set_option maxRecDepth 100000
set_option maxHeartbeats 1000000
namespace E2
variable [Tbs]
open PySem PySem.Spec PyProof.Rows L2
section
variable {K : Kw} {Fa Ca : Nat → Addr} {pr : List (Nat × Addr)} {W : WX} {r r1 r' : En} {σ : L2.St} {N N1 N' : NS} {H H1 H' : Hp} {v : V} {d : D} {a : Addr} {α β γ δ : Type} {X : Cx} {G : Gs} {pos : Pos}

theorem ixN_lt {n : Nat} {i : Int} {j : Nat} (h : ixN n i = some j) : j < n := (ixN_seq h).2.1
theorem RpA.at {xs : List V} {ds : List D} {i : Int} {w : D} (h : RpA K N H xs ds) (e : atI ds i = some w) : ∃ v, atI xs i = some v ∧ Rp K N H v w := by
  unfold atI at e ⊢
  rw [h.length]
  obtain ⟨j, h1, h2⟩ := Option.bind_eq_some_iff.mp e
  rw [h1]
  exact h.get h2
/-! ### items -/
def rIxE (K : Kw) : R2 := fun x y H Q => ∃ (N : NS) (d e w : D), DR K N H x d ∧ DR K N H y e ∧ idxD d e = some w ∧ ∀ v, Rp K N H v w → Q v H
theorem ix_any (hK : X.kw = K) (hu : X.A.units + 65 < cLine) : IxR X (rIxE K) := by
  subst hK
  intro value slice pins s σ H x y v u Q I rx ry ⟨N, d, e, w, hx, hy, he, q⟩ hs
  unfold idxD at he
  split at he
  · obtain ⟨a, xs, rfl, h1, h2⟩ := hx.lst
    have hy := hy.int
    subst hy
    obtain ⟨v', e1, e2⟩ := h2.at he
    exact ix_list value slice pins s σ H _ _ v u Q I rx ry ⟨a, xs, _, v', rfl, rfl, h1, e1, q v' e2⟩ hs
  · obtain ⟨a, xs, rfl, h1, h2⟩ := hx.tup
    have hy := hy.int
    subst hy
    obtain ⟨v', e1, e2⟩ := h2.at he
    exact ix_tup value slice pins s σ H _ _ v u Q I rx ry ⟨a, xs, _, v', rfl, rfl, h1.sq, e1, q v' e2⟩ hs
  · have hx := hx.str
    have hy := hy.int
    subst hx hy
    split at he
    · obtain ⟨c, e1, rfl⟩ := Option.map_eq_some_iff.mp he
      exact ix_str value slice pins s σ H _ _ v u Q I rx ry ⟨_, _, c, rfl, rfl, by assumption, e1, q _ (.str _)⟩ hs
    · cases he
  · split at he
    · rename_i kvs k hk
      obtain ⟨a, rfl, hd⟩ := hx.dic
      cases rx
      have ty : s.TypeIs (.ref a) "dict" := by
        rcases hd with ⟨ks, hd, _⟩ | ⟨o, ks, hd, hb, _⟩
        · obtain ⟨_, _, vs, _, dd⟩ := dk_of I.hok hd
          exact dd.typeIs
        · exact ⟨o, (I.hok _ _ hd).1, hb.2.2.2.1.1⟩
      unfold subscriptTail
      refine wpAny_bind ?_
      rw [getitemInPython_of_ne ty.not_modules]
      refine wpAny_bind (wpAny_specialOf ty PySem.F.slot_dict_getitem.lookup ?_)
      have fin : wpAny (model X.prog X.w) X.A (subscripted slice false (.ref a) u) (fun r s₃ => wpAny (model X.prog X.w) X.A (letTemporaryGo value (.ref a) r >>= fun _ => pure r) (EP X pins σ Q) X.xe s₃) X.xe s := by
        rw [hs]
        exact wpAny_operating (dgetitem_any rfl hu I hd hy ry hk he fun v' w' s' I' rv' rp => wpAny_bind (wpAny_letTemporaryGo (wpAny_pure ⟨v', H, I', rv', q v' rp⟩)))
      first
        | exact wpAny_pure (wpAny_bind fin)
        | exact wpAny_bind (wpAny_pure (wpAny_bind fin))
        | exact wpAny_bind fin
    · cases he
  · cases he
theorem plainIx_of {b : Expr} (h : (match b with | .Slice _ _ _ _ => false | _ => true) = true) : PlainIx b := by
  intro o i
  cases b <;> first | rfl | cases h
theorem fe_idx {c1 c2 : CE} {a b : Expr} (hK : X.kw = K) (hu : X.A.units + 65 < cLine) (hb : (match b with | .Slice _ _ _ _ => false | _ => true) = true) (h1 : PE X a (tE K Fa Ca pr W (evE G c1))) (h2 : PE X b (tE K Fa Ca pr W (evE G c2))) :
    PE X (.Subscript a b pos) (tE K Fa Ca pr W (evE G (.idx c1 c2))) := by
  refine fe_bin2 (A := c1) (B := c2) (k := fun d f r => match idxD d f with
    | some v => .ok (.val false v) r
    | none => .stuck) (fun r => by simp only [evE] <;> rfl) (PE.imp (pe_ix (ix_any hK hu) h1 h2 (plainIx_of hb)) fun σ H Q h => ?_)
  refine tG_mono h fun x H1 h => tG_mono h fun y H2 ⟨r0, σ', N0, H0, r, N, d, f, g0, sp, g, hx, hy, h⟩ => ?_
  cases e : idxD d f with
  | none => simp only [e] at h; exact h.elim
  | some w =>
    simp only [e] at h
    exact ⟨N, d, f, w, hx, hy, e, fun v hv => h.val sp g hv⟩

/-! ### slices -/
theorem RpA.cut {xs : List V} {ds : List D} (h : RpA K N H xs ds) (lo hi : Option Int) : RpA K N H (cutV xs lo hi) (cutD ds lo hi) := by
  unfold cutV cutD
  rw [h.length]
  exact (h.drop _).take _
def rSlE (K : Kw) (Fa Ca : Nat → Addr) (pr : List (Nat × Addr)) (W : WX) : V → Option Int → Option Int → Hp → VK → Prop := fun x lo hi H Q => ∃ (r0 : En) (σ : L2.St) (N0 : NS) (H0 : Hp) (r : En) (N : NS) (d : D), Good K Fa pr r0 σ N0 H0 ∧ Stp r0 σ N0 H0 r N H ∧ Good K Fa pr r σ N H ∧ DR K N H x d ∧ PostG K Fa Ca pr W (relE K Fa) r0 σ N0 H0 Q (optR r (sliD d lo hi))
theorem sl_any (hK : X.kw = K) : SlR X (rSlE K Fa Ca pr W) := by
  subst hK
  intro pins s σ H x v vl vu lo hi sl Q I rx hs pl pu ⟨r0, σ', N0, H0, r, N, d, g0, sp, g, hx, h⟩
  unfold sliD at h
  split at h
  · obtain ⟨a, xs, rfl, h1, h2⟩ := hx.lst
    exact sl_list pins s σ H _ v vl vu lo hi sl Q I rx hs pl pu ⟨a, xs, rfl, h1, fun p hp => PostG.newL h g0 sp g hp (h2.cut lo hi)⟩
  · obtain ⟨a, xs, rfl, h1, h2⟩ := hx.tup
    refine sl_tupF pins s σ H _ v vl vu lo hi sl Q I rx hs pl pu ⟨a, xs, rfl, h1.sq, fun hw => ?_, fun p ob hp oc od => PostG.newT h g0 sp g hp oc od (h2.cut lo hi)⟩
    refine PostG.val h sp g (.tup h1 ?_)
    have e : cutV xs lo hi = xs := by unfold cutV; rw [hw.1, hw.2]; simp
    rw [← e]
    exact h2.cut lo hi
  · exact h.elim
theorem fo_non : PO X none (tOp K Fa Ca pr W (evO G .non)) := PO.imp po_none fun σ H Q ⟨r, N, g, h⟩ => by
  simp only [evO] at h
  exact h none H N (Stp.refl g) g rfl
theorem fo_som {c : CE} {e : Expr} (h1 : PE X e (tE K Fa Ca pr W (evE G c))) : PO X (some e) (tOp K Fa Ca pr W (evO G (.som c))) := PO.imp (po_some h1) fun σ H Q ⟨r, N, g, h⟩ => by
  simp only [evO] at h
  show tE K Fa Ca pr W (evE G c) σ H _
  refine tG_mono (tG_bind (rel := relE K Fa) g (Stp.refl g) g h) fun v H1 ⟨y, r1, N1, t1, s1, g1, ⟨q1, f1⟩, p1⟩ => ?_
  split at p1
  · rename_i o i
    have hv : v = .int i := by
      cases o with
      | false => cases q1; rfl
      | true => obtain ⟨_, _, _, z, _⟩ := q1; exact z.elim
    exact ⟨i, hv, p1 (some i) H1 N1 s1 g1 rfl⟩
  · exact p1.elim
theorem fe_sli {c : CE} {lo hi : CEo} {e : Expr} {l u : Option Expr} {p2 : Pos} (hK : X.kw = K) (h1 : PE X e (tE K Fa Ca pr W (evE G c))) (h2 : PO X l (tOp K Fa Ca pr W (evO G lo))) (h3 : PO X u (tOp K Fa Ca pr W (evO G hi))) :
    PE X (.Subscript e (.Slice l u none p2) pos) (tE K Fa Ca pr W (evE G (.sli c lo hi))) := by
  refine PE.imp (pe_slice (sl_any (Fa := Fa) (Ca := Ca) (pr := pr) (W := W) hK) h1 h2 h3) fun σ H Q ⟨r, N, g, h⟩ => ?_
  simp only [evE] at h
  show tE K Fa Ca pr W (evE G c) σ H _
  refine tG_mono (tG_bind (rel := relE K Fa) g (Stp.refl g) g h) fun v H1 ⟨y, r1, N1, _, s1, g1, q1, p1⟩ => ?_
  show tOp K Fa Ca pr W (evO G lo) σ H1 _
  refine tG_mono (tG_bind (rel := relO) g s1 g1 p1) fun v2 H2 ⟨y2, r2, N2, t2, s2, g2, q2, p2⟩ => ?_
  show tOp K Fa Ca pr W (evO G hi) σ H2 _
  refine tG_mono (tG_bind (rel := relO) g s2 g2 p2) fun v3 H3 ⟨y3, r3, N3, t3, s3, g3, q3, p3⟩ => ?_
  cases (show v2 = y2 from q2)
  cases (show v3 = y3 from q3)
  have q1' := RR.stp (RR.stp q1.1 t2 g1) t3 g2
  cases e1 : dref r3 y with
  | none => simp only [e1] at p3; exact p3.elim
  | some d1 =>
    simp only [e1] at p3
    exact ⟨r, σ, N, H, r3, N3, d1, g, s3, g3, RR.look q1' g3 e1, p3⟩
end
end E2

set_option Elab.async false
set_option linter.all false
set_option maxRecDepth 100000
set_option maxHeartbeats 1000000
namespace E2
variable [Tbs]
open PySem PySem.Spec PyProof.Rows L2
/-! ## calls of the program's own defs -/
def refAd : List V → List Ag → List Addr
  | .ref a :: vs, .rf _ :: xs => a :: refAd vs xs
  | _ :: vs, _ :: xs => refAd vs xs
  | _, _ => []
section
variable (K : Kw) (Fa Ca : Nat → Addr)
def AgR (N : NS) (H : Hp) (v : V) : Ag → Prop
  | .val d => Rp K N H v d
  | .rf d => ∃ a, v = .ref a ∧ N a ∧ RpM K N H a d
  | .fn k ds => FnR K Fa N H v k ds
def AgsR (N : NS) (H : Hp) : List V → List Ag → Prop
  | [], [] => True
  | v :: vs, x :: xs => AgR K Fa N H v x ∧ AgsR N H vs xs
  | _, _ => False
def RfsR (N : NS) (H : Hp) : List Addr → List D → Prop
  | [], [] => True
  | a :: as, d :: ds => (N a ∧ RpM K N H a d) ∧ RfsR N H as ds
  | _, _ => False
def ResR (N0 : NS) (N : NS) (H : Hp) (v : V) (own : Bool) (d : D) : Prop :=
  match own with
  | false => Rp K N H v d
  | true => ∃ a, v = .ref a ∧ N a ∧ RpM K N H a d ∧ ¬ N0 a
/-- what a def promises: what the pure run says -/
def spec (np : Nat) (call : List Ag → Cr) : Sp := fun vs H Q E => ∃ (ags : List Ag) (N : NS), vs.length = np ∧ AgsR K Fa N H vs ags ∧ (refAd vs ags).Nodup ∧ (∀ b, N b → Mut (H b)) ∧ TabO N H ∧
  match call ags with
  | .ok o d refs => ∀ v H' N', Ext (fun b => b ∈ refAd vs ags) N H N' H' → (∀ b, N' b → Mut (H' b)) → ResR K N N' H' v o d → RfsR K N' H' (refAd vs ags) refs → Q v H'
  | .fn k l refs => ∀ v H' N', Ext (fun b => b ∈ refAd vs ags) N H N' H' → (∀ b, N' b → Mut (H' b)) → FnR K Fa N' H' v k l → RfsR K N' H' (refAd vs ags) refs → Q v H'
  | .exc x refs => ∀ cls d H' N', Ext (fun b => b ∈ refAd vs ags) N H N' H' → (∀ b, N' b → Mut (H' b)) → XR K Ca x cls d H' → RfsR K N' H' (refAd vs ags) refs → E cls d H'
  | .stuck => False
end
section
variable {K : Kw} {Fa Ca : Nat → Addr} {pr : List (Nat × Addr)} {W : WX} {r r1 r' : En} {σ : L2.St} {N N1 N' : NS} {H H1 H' : Hp} {v : V} {d : D} {a : Addr} {α β γ δ : Type} {X : Cx} {G : Gs} {pos : Pos}

/-- slots and the addresses that stand in them -/
def SlA (σ : L2.St) (r : En) : List Nat → List Addr → Prop
  | [], [] => True
  | i :: is, a :: as => (σ[i]? = some (some (.ref a)) ∧ ∃ d, r[i]? = some (some (.dat true d))) ∧ SlA σ r is as
  | _, _ => False
theorem SlA.mono {r r' : En} : ∀ {is : List Nat} {as : List Addr}, SlA σ r is as → (∀ i ∈ is, r'[i]? = r[i]?) → SlA σ r' is as
  | [], [], _, _ => trivial
  | i :: is, a :: as, h, e => ⟨⟨h.1.1, by rw [e i List.mem_cons_self]; exact h.1.2⟩, SlA.mono h.2 fun j hj => e j (List.mem_cons_of_mem _ hj)⟩
  | [], _ :: _, h, _ => h.elim
  | _ :: _, [], h, _ => h.elim
theorem SlA.mem : ∀ {is : List Nat} {as : List Addr} {a : Addr}, SlA σ r is as → a ∈ as → ∃ i ∈ is, σ[i]? = some (some (.ref a)) ∧ ∃ d, r[i]? = some (some (.dat true d))
  | i :: is, b :: as, a, h, ha => by
    rcases List.mem_cons.mp ha with rfl | ha
    · exact ⟨i, List.mem_cons_self, h.1⟩
    · obtain ⟨j, h1, h2⟩ := SlA.mem h.2 ha
      exact ⟨j, List.mem_cons_of_mem _ h1, h2⟩
  | [], [], _, _, ha => absurd ha (by simp)
  | [], _ :: _, _, h, _ => h.elim
  | _ :: _, [], _, h, _ => h.elim
theorem SlA.nodup (g : Good K Fa pr r σ N H) : ∀ {is : List Nat} {as : List Addr}, SlA σ r is as → is.Nodup → as.Nodup
  | [], [], _, _ => List.nodup_nil
  | i :: is, a :: as, h, n => by
    refine List.nodup_cons.mpr ⟨fun z => ?_, SlA.nodup g h.2 (List.nodup_cons.mp n).2⟩
    obtain ⟨j, h1, h2, d, h3⟩ := SlA.mem h.2 z
    obtain ⟨h4, e, h5⟩ := h.1
    have := g.inj i j e d a h5 h3 h4 h2
    subst this
    exact (List.nodup_cons.mp n).1 h1
  | [], _ :: _, h, _ => h.elim
  | _ :: _, [], h, _ => h.elim
theorem refAd_rf {a : Addr} {d : D} {vs : List V} {xs : List Ag} : refAd (.ref a :: vs) (.rf d :: xs) = a :: refAd vs xs := rfl
theorem refAd_no {v : V} {x : Ag} {vs : List V} {xs : List Ag} (h : ∀ d, x ≠ .rf d) : refAd (v :: vs) (x :: xs) = refAd vs xs := by
  cases x with
  | rf d => exact absurd rfl (h d)
  | _ => cases v <;> rfl
theorem frA_cons_sub {v : V} {x : R} {vs : List V} {xs : List R} : ∀ a ∈ frA vs xs, a ∈ frA (v :: vs) (x :: xs) := fun a q => by
  unfold frA
  split
  · rename_i e1 e2; cases e1; cases e2; exact List.mem_cons_of_mem _ q
  · rename_i e1 e2; cases e1; cases e2; exact q
  · rename_i n; exact (n v vs x xs rfl rfl).elim
theorem frA_cons_nd {v : V} {x : R} {vs : List V} {xs : List R} (nd : (frA (v :: vs) (x :: xs)).Nodup) : (frA vs xs).Nodup := by
  unfold frA at nd
  split at nd
  · rename_i e1 e2; cases e1; cases e2; exact (List.nodup_cons.mp nd).2
  · rename_i e1 e2; cases e1; cases e2; exact nd
  · rename_i n; exact (n v vs x xs rfl rfl).elim
theorem fsh_cons {v : V} {x : R} {vs : List V} {xs : List R} {r0 : En} {N0 : NS} (fs : ∀ a ∈ frA (v :: vs) (x :: xs), N0 a → own r0 σ a) : Fsh r0 σ N0 v x := by
  cases x with
  | val o d' =>
    cases o with
    | false => trivial
    | true => exact fun a q n => fs a (by subst q; exact List.mem_cons_self) n
  | sl i => trivial
  | fn k ds => trivial
theorem rest_less {x : R} {vs : List V} {xs : List R} (nd : (frA (v :: vs) (x :: xs)).Nodup) (k2 : ∀ v' x', RR K Fa r σ N H v' x' → Apart v x v' x' → RR K Fa r1 σ N1 H v' x') (h : RRs K Fa r σ N H vs xs) : RRs K Fa r1 σ N1 H vs xs :=
  RRs.of_less (fun w y hw hm => k2 w y hw fun a d' e' p1 p2 p3 p4 => by
    subst p1 p2
    exact (List.nodup_cons.mp nd).1 (hm a e' p3 p4)) h
theorem take_sl_eq {i j : Nat} {d : D} {r1 : En} (e : E2.take r (.sl i) = some (d, r1)) (h : i ≠ j) : r1[j]? = r[j]? := by
  simp only [E2.take] at e
  split at e
  · cases e
    exact List.getElem?_set_ne h
  · cases e
theorem passA_ok {r0 : En} {N0 : NS} {H0 : Hp} (g0 : Good K Fa pr r0 σ N0 H0) : ∀ {sig : List Bool} {xs : List R} {vs : List V} {used : List Nat} {r : En} {N : NS} {ags : List Ag} {sls : List Nat} {r' : En}, Stp r0 σ N0 H0 r N H → RRs K Fa r σ N H vs xs → (frA vs xs).Nodup → (∀ a ∈ frA vs xs, N0 a → own r0 σ a) → Good K Fa pr r σ N H →
    passA r used sig xs = some (ags, sls, r') → ∃ N', Good K Fa pr r' σ N' H ∧ Stp r0 σ N0 H0 r' N' H ∧ AgsR K Fa N' H vs ags ∧ (∀ b, N' b → N b) ∧ SlA σ r' sls (refAd vs ags) ∧ (∀ j ∈ used, r'[j]? = r[j]?) ∧ (∀ j ∈ sls, j ∉ used) ∧ sls.Nodup
  | [], [], vs, used, r, N, ags, sls, r', s, h, nd, fs, g, e => by
    simp only [passA] at e
    cases e
    cases vs with
    | nil => exact ⟨N, g, s, trivial, fun _ h => h, trivial, fun _ _ => rfl, fun _ h => absurd h (by simp), List.nodup_nil⟩
    | cons _ _ => exact h.elim
  | _, _ :: _, [], _, _, _, _, _, _, _, h, _, _, _, _ => h.elim
  | false :: bs, .fn k ds :: xs, v :: vs, used, r, N, ags, sls, r', s, h, nd, fs, g, e => by
    simp only [passA] at e
    split at e
    · rename_i ags1 sls1 r1 e1
      cases e
      obtain ⟨N', g', s', q, k1, a1, u1, n1, d1⟩ := passA_ok g0 s h.2 (frA_cons_nd nd) (fun a q => fs a (frA_cons_sub a q)) g e1
      exact ⟨N', g', s', ⟨FnR.keep h.1 (fun b o e n _ => ⟨e, fun z => n (k1 b z)⟩) g.trk, q⟩, k1, by rw [refAd_no (by intro d z; cases z)]; exact a1, u1, n1, d1⟩
    · cases e
  | false :: bs, .val o d :: xs, v :: vs, used, r, N, ags, sls, r', s, h, nd, fs, g, e => by
    simp only [passA] at e
    split at e
    · rename_i ags1 sls1 r1 e1
      cases e
      obtain ⟨N1, g1, s1, q1, _, k2, k1⟩ := RR.take0 (dr := (d, r)) g0 s h.1 (fsh_cons fs) g rfl
      obtain ⟨N', g', s', q, k3, a1, u1, n1, d1⟩ := passA_ok g0 s1 (rest_less nd k2 h.2) (frA_cons_nd nd) (fun a q => fs a (frA_cons_sub a q)) g1 e1
      exact ⟨N', g', s', ⟨q1.keep (fun b o e n _ => ⟨e, fun z => n (k3 b z)⟩) g1.trk, q⟩, fun b z => k1 b (k3 b z), by rw [refAd_no (by intro d z; cases z)]; exact a1, u1, n1, d1⟩
    · cases e
  | false :: bs, .sl i :: xs, v :: vs, used, r, N, ags, sls, r', s, h, nd, fs, g, e => by
    simp only [passA] at e
    split at e
    · cases e
    · rename_i hu
      split at e
      · rename_i d r1 e0
        split at e
        · rename_i ags1 sls1 r2 e1
          cases e
          obtain ⟨N1, g1, s1, q1, _, k2, k1⟩ := RR.take0 (dr := (d, r1)) g0 s h.1 trivial g e0
          obtain ⟨N', g', s', q, k3, a1, u1, n1, d1⟩ := passA_ok g0 s1 (rest_less nd k2 h.2) (frA_cons_nd nd) (fun a q => fs a (frA_cons_sub a q)) g1 e1
          exact ⟨N', g', s', ⟨q1.keep (fun b o e n _ => ⟨e, fun z => n (k3 b z)⟩) g1.trk, q⟩, fun b z => k1 b (k3 b z), by rw [refAd_no (by intro d z; cases z)]; exact a1, fun j hj => (u1 j hj).trans (take_sl_eq e0 (fun z => hu (z ▸ hj))), n1, d1⟩
        · cases e
      · cases e
  | true :: bs, .sl i :: xs, v :: vs, used, r, N, ags, sls, r', s, h, nd, fs, g, e => by
    simp only [passA] at e
    split at e
    · cases e
    · rename_i hu
      split at e
      · rename_i d e0
        split at e
        · rename_i ags1 sls1 r2 e1
          cases e
          obtain ⟨N', g', s', q, k3, a1, u1, n1, d1⟩ := passA_ok g0 s h.2 (frA_cons_nd nd) (fun a q => fs a (frA_cons_sub a q)) g e1
          have ei : r'[i]? = some (some (.dat true d)) := (u1 i List.mem_cons_self).trans e0
          obtain ⟨v', h1, a, rfl, h2, h3⟩ := g'.slot i _ ei
          rw [h.1.1] at h1
          cases h1
          refine ⟨N', g', s', ⟨⟨a, rfl, h2, h3⟩, q⟩, k3, ⟨⟨h.1.1, d, ei⟩, a1⟩, fun j hj => u1 j (List.mem_cons_of_mem _ hj), fun j hj => ?_, List.nodup_cons.mpr ⟨fun z => n1 i z List.mem_cons_self, d1⟩⟩
          rcases List.mem_cons.mp hj with rfl | hj
          · exact hu
          · exact fun z => n1 j hj (List.mem_cons_of_mem _ z)
        · cases e
      · cases e
  | [], _ :: _, _ :: _, _, _, _, _, _, _, _, _, _, _, _, e => by simp [passA] at e
  | true :: _, .val _ _ :: _, _ :: _, _, _, _, _, _, _, _, _, _, _, _, e => by simp [passA] at e
  | true :: _, .fn _ _ :: _, _ :: _, _, _, _, _, _, _, _, _, _, _, _, e => by simp [passA] at e
  | _ :: _, [], _, _, _, _, _, _, _, _, _, _, _, _, e => by simp [passA] at e
/-- the slots behind a call -/
theorem putRefs_ok {r3 : En} : ∀ {is : List Nat} {as : List Addr} {ds : List D} {r : En}, SlA σ r is as → is.Nodup → RfsR K N' H' as ds → putRefs r is ds = some r3 →
    r3.length = r.length ∧ (∀ j, j ∉ is → r3[j]? = r[j]?) ∧ ∀ j ∈ is, ∃ a ∈ as, ∃ d, σ[j]? = some (some (.ref a)) ∧ r3[j]? = some (some (.dat true d)) ∧ N' a ∧ RpM K N' H' a d
  | [], [], [], r, _, _, _, e => by
    cases e
    exact ⟨rfl, fun _ _ => rfl, fun _ h => absurd h (by simp)⟩
  | i :: is, a :: as, d :: ds, r, h, n, q, e => by
    simp only [putRefs] at e
    obtain ⟨n1, n2⟩ := List.nodup_cons.mp n
    obtain ⟨l, k1, k2⟩ := putRefs_ok (h.2.mono (r' := r.set i (some (.dat true d))) fun j hj => List.getElem?_set_ne (fun z => by subst z; exact n1 hj)) n2 q.2 e
    have hi : i < r.length := by
      obtain ⟨_, d0, h0⟩ := h.1
      rcases Nat.lt_or_ge i r.length with z | z
      · exact z
      · rw [List.getElem?_eq_none z] at h0; cases h0
    refine ⟨by rw [l, List.length_set], fun j hj => ?_, fun j hj => ?_⟩
    · simp only [List.mem_cons, not_or] at hj
      rw [k1 j hj.2]
      exact List.getElem?_set_ne (Ne.symm hj.1)
    · rcases List.mem_cons.mp hj with rfl | hj
      · refine ⟨a, List.mem_cons_self, d, h.1.1, ?_, q.1⟩
        rw [k1 j n1]
        exact getset_self hi
      · obtain ⟨b, hb, z⟩ := k2 j hj
        exact ⟨b, List.mem_cons_of_mem _ hb, z⟩
  | [], [], _ :: _, _, _, _, q, _ => q.elim
  | [], _ :: _, _, _, h, _, _, _ => h.elim
  | _ :: _, [], _, _, h, _, _, _ => h.elim
  | _ :: _, _ :: _, [], _, _, _, q, _ => q.elim
theorem put_good {r3 : En} {is : List Nat} {as : List Addr} {ds : List D} {r0 : En} {N0 : NS} {H0 : Hp} (g0 : Good K Fa pr r0 σ N0 H0) (s : Stp r0 σ N0 H0 r N H) (g : Good K Fa pr r σ N H) (h : SlA σ r is as) (n : is.Nodup) (E : Ext (fun b => b ∈ as) N H N' H') (t : ∀ b, N' b → Mut (H' b)) (q : RfsR K N' H' as ds)
    (e : putRefs r is ds = some r3) : Good K Fa pr r3 σ N' H' ∧ Stp r0 σ N0 H0 r3 N' H' := by
  obtain ⟨l, k1, k2⟩ := putRefs_ok h n q e
  have ownr : ∀ {j : Nat} {d : D}, r3[j]? = some (some (.dat true d)) → ∃ d', r[j]? = some (some (.dat true d')) := fun {j d} hj => by
    by_cases z : j ∈ is
    · obtain ⟨b, hb, d', h1, h2, _⟩ := k2 j z
      obtain ⟨i, hi, h3, d2, h4⟩ := SlA.mem h hb
      -- the slot j itself is owned in r
      have : ∀ {is : List Nat} {as : List Addr}, SlA σ r is as → ∀ j ∈ is, ∃ d', r[j]? = some (some (.dat true d')) := by
        intro is
        induction is with
        | nil => intro as _ j hj; exact absurd hj (by simp)
        | cons i is ih =>
          intro as hs j hj
          cases as with
          | nil => exact hs.elim
          | cons a as =>
            rcases List.mem_cons.mp hj with rfl | hj
            · exact hs.1.2
            · exact ih hs.2 j hj
      exact this h j z
    · rw [k1 j z] at hj
      exact ⟨d, hj⟩
  refine ⟨⟨l.trans g.len, fun j sv ej => ?_, fun i j d f a h1 h2 h3 h4 => ?_, t, g.prs, E.tab g.tab⟩, ⟨?_, fun b ⟨j, d, h1, h2⟩ => s.own b (let ⟨d', z⟩ := ownr h1; ⟨j, d', z, h2⟩), fun j hj => ?_⟩⟩
  · by_cases z : j ∈ is
    · obtain ⟨b, hb, d', h1, h2, h3, h4⟩ := k2 j z
      rw [h2] at ej
      cases ej
      exact ⟨_, h1, b, rfl, h3, h4⟩
    · rw [k1 j z] at ej
      obtain ⟨v, h1, h2⟩ := g.slot j _ ej
      refine ⟨v, h1, h2.ext E g.trk fun a d e1 e2 ha => z ?_⟩
      subst e1 e2
      obtain ⟨i, hi, h3, d2, h4⟩ := SlA.mem h ha
      have := g.inj i j d2 d a h4 ej h3 h1
      subst this
      exact hi
  · obtain ⟨d1, q1⟩ := ownr h1
    obtain ⟨d2, q2⟩ := ownr h2
    exact g.inj i j d1 d2 a q1 q2 h3 h4
  · exact s.ext.trans E (fun b hb => by
      obtain ⟨i, hi, h3, d2, h4⟩ := SlA.mem h hb
      exact .inl (s.own b ⟨i, d2, h4, h3⟩)) fun b hb => mutSome (g0.trk b hb)
  · obtain ⟨o, d, hd⟩ := s.dat j hj
    by_cases z : j ∈ is
    · obtain ⟨b, hb, d', h1, h2, h3, h4⟩ := k2 j z
      exact ⟨true, d', h2⟩
    · exact ⟨o, d, by rw [k1 j z]; exact hd⟩
/-- THE CALL: the arguments' results are in, the def's promise is used -/
theorem callR_ok {k np : Nat} {xs : List R} {vs : List V} {r0 : En} {N0 : NS} {H0 : Hp} {Q : VK} (hl : vs.length = np) (g0 : Good K Fa pr r0 σ N0 H0) (s : Stp r0 σ N0 H0 r N H) (g : Good K Fa pr r σ N H) (h : RRs K Fa r σ N H vs xs) (f : ∀ a ∈ frA vs xs, N0 a → own r0 σ a) (nd : (frA vs xs).Nodup)
    (p : PostG K Fa Ca pr W (relE K Fa) r0 σ N0 H0 Q (callR G k xs r)) : spec K Fa Ca np (G.call k) vs H Q (WE W σ) := by
  unfold callR at p
  split at p
  · exact p.elim
  · rename_i ags slots r1 e1
    obtain ⟨N1, g1, s1, q1, _, a1, _, _, d1⟩ := passA_ok g0 s h nd f g e1
    refine ⟨ags, N1, hl, q1, a1.nodup g1 d1, g1.trk, g1.tab, ?_⟩
    split at p
    · rename_i o d refs ec
      try rw [ec]
      intro v H' N' E t q rf
      split at p
      · rename_i r2 e2
        obtain ⟨g2, s2⟩ := put_good g0 s1 g1 a1 d1 E t rf e2
        refine p v H' N' s2 g2 ⟨?_, ?_⟩
        · cases o with
          | false => exact q
          | true =>
            obtain ⟨a, h1, h2, h3, h4⟩ := q
            refine ⟨a, h1, h2, h3, fun z => ?_⟩
            -- a slot's address stood in N1
            obtain ⟨j, d', z1, z2⟩ := z
            have : own r1 σ a := by
              by_cases hj : j ∈ slots
              · obtain ⟨_, _, k2⟩ := putRefs_ok a1 d1 rf e2
                obtain ⟨b, hb, d2, y1, y2, _⟩ := k2 j hj
                rw [z2] at y1
                cases y1
                obtain ⟨i, _, w1, d3, w2⟩ := SlA.mem a1 hb
                exact ⟨i, d3, w2, w1⟩
              · obtain ⟨_, k1, _⟩ := putRefs_ok a1 d1 rf e2
                rw [k1 j hj] at z1
                exact ⟨j, d', z1, z2⟩
            exact h4 (g1.ownN a this)
        · cases o with
          | false => trivial
          | true =>
            obtain ⟨a, h1, h2, h3, h4⟩ := q
            intro b e n
            rw [h1] at e
            cases e
            by_cases z : own r0 σ a
            · exact z
            · exact absurd (s1.ext.stay a n z) h4
      · exact p.elim
    · rename_i k' l refs ec
      try rw [ec]
      intro v H' N' E t q rf
      split at p
      · rename_i r2 e2
        obtain ⟨g2, s2⟩ := put_good g0 s1 g1 a1 d1 E t rf e2
        exact p v H' N' s2 g2 ⟨q, trivial⟩
      · exact p.elim
    · rename_i x refs ec
      try rw [ec]
      intro cls d H' N' E t q rf
      split at p
      · rename_i r2 e2
        obtain ⟨g2, s2⟩ := put_good g0 s1 g1 a1 d1 E t rf e2
        exact p cls d H' N' s2 g2 q
      · exact p.elim
    · exact p.elim
end
end E2

set_option Elab.async false
set_option linter.all false
set_option maxRecDepth 100000
set_option maxHeartbeats 1000000
namespace PySem.W
open PySem PySem.Calls PyProof.Rows
section
variable {prog : Program} {w : World} {A : Around} {E : Value → Shared → Prop} {s : Shared}
/-- the items of a tuple, gathered: as those of a list -/
theorem coll_tup {t : Addr} {us : List Value} {Q : List Value → Shared → Prop} (ht : s.heap.IsTuple t us.toArray)
    (h : Q us { s with heap := (s.heap.push (seqObj "list" #[] 0)).update s.heap.objs.size (Obj.mapSeq (· ++ us.toArray)) }) (hz : us.length ≤ sizeLine) :
    wpAny (model prog w) A (collect (.ref t)) Q E s := by
  obtain ⟨ob, hb, hcl, k, hdt⟩ := id ht
  unfold collect
  refine wpAny_bind (wpAny_runValue (codeAny_builtin F.entry_proto_collect ?_))
  show wpAny _ _ (do again (.builtin "list.__iadd__" ⟨[← newList [], .ref t], []⟩)) _ _ s
  refine wpAny_bind (wpAny_newList (wpAny_pure ⟨Code.quiet_builtin _ (by decide +kernel), codeAny_builtin F.entry_list_iadd ?_⟩))
  show wpAny _ _ (Builtin.List.listExtendWith (.ref s.heap.objs.size) (.ref t) (.ref s.heap.objs.size)) _ _ { s with heap := s.heap.push (seqObj "list" #[] 0) }
  unfold Builtin.List.listExtendWith
  have hb' : (s.heap.push (seqObj "list" #[] 0)).get? t = some ob := Heap.get?_push_of_some _ hb
  refine wpAny_bind (wpAny_typeOf (T := "tuple") ⟨ob, hb', hcl⟩ ?_)
  have e1 : (Value.type "tuple" == Value.type "tuple") = true := by rfl
  rw [if_pos (by rw [e1]; simp)]
  refine wpAny_bind (listItems_at hb' hdt ?_)
  refine wpAny_bind (listItems_at (xs := #[]) (n := 0) (Heap.get?_push_size _ rfl) rfl ?_)
  rw [if_neg (by simp)]
  refine wpAny_bind (listUpdate_at (xs := #[]) (n := 0) (Heap.get?_push_size _ rfl) rfl ?_ (Nat.zero_le _) (by show (#[] ++ us.toArray).size ≤ sizeLine + 1; simp only [Array.size_append, List.size_toArray, List.length_nil]; omega))
  refine wpAny_pure ?_
  show wpAny (model prog w) A (do
      let x ← load s.heap.objs.size
      match x.data with
      | .seq ys _ => pure ys.toList
      | _ => unsupported "internal:collect") Q E { s with heap := (s.heap.push (seqObj "list" #[] 0)).update s.heap.objs.size (Obj.mapSeq (· ++ us.toArray)) }
  refine wpAny_bind (wpAny_load (get?_update_seq (Heap.get?_push_size _ rfl) _) ?_)
  show wpAny _ _ (pure ((#[] : Array Value) ++ us.toArray).toList) Q E _
  have e2 : ((#[] : Array Value) ++ us.toArray).toList = us := by simp
  rw [e2]
  exact wpAny_pure h
/-- sorted(t), t a tuple -/
theorem sorted_tupleV {κ : PyProof.Rows.KeyKind} {t : Addr} {us : List Value} {Q : Value → Shared → Prop} (ht : s.heap.IsTuple t us.toArray) (S : SortsAt prog w A.in1.in1 { s with heap := sortingHeap (copyHeap s.heap us) (s.heap.objs.size + 1) us } κ us) (hz : us.length ≤ sizeLine)
    (h : Q (.ref (s.heap.objs.size + 1)) { s with heap := sortedAll s.heap us (sortVals κ false us us).toArray }) : wpAny (model prog w) A (call (.builtin "sorted") [.ref t]) Q E s := by
  refine call_function_entry_kw kind_sorted plain_sorted entry_sorted (args_sorted1 _) ?_
  unfold Builtin.«sorted»
  refine wpAny_bind (m := checkCount "sorted" 1 1 _) (wpAny_pure ?_)
  refine wpAny_bind (coll_tup ht ?_ hz)
  refine wpAny_bind (wpAny_newList ?_ hz)
  have es : ((s.heap.push (seqObj "list" #[] 0)).update s.heap.objs.size (Obj.mapSeq (· ++ us.toArray))).objs.size = s.heap.objs.size + 1 := by
    rw [Heap.size_update, size_push']
  show wpAny _ _ _ _ _ { s with heap := copyHeap s.heap us }
  rw [es]
  refine wpAny_bind (wpAny_holding (wpAny_call_entry_kw slot_list_sort ⟨_, copyHeap_at s.heap us, rfl⟩ entry_list_sort (?_) (args_list_sort _)))
  refine wpAny_mono (list_sort_vals (P := fun f s' => f = .done (.ret .none) ∧ Q (.ref (s.heap.objs.size + 1)) s') (s := { s with heap := copyHeap s.heap us }) (copyHeap_at s.heap us) S hz ⟨rfl, h⟩) (fun f s' hf => ?_) fun _ _ e => e
  obtain ⟨rfl, hq⟩ := hf
  exact ⟨_, rfl, wpAny_pure ⟨_, rfl, hq⟩⟩
end
end PySem.W
namespace E2
variable [Tbs]
open PySem PySem.Spec PyProof.Rows L2
section
variable {K : Kw} {Fa Ca : Nat → Addr} {pr : List (Nat × Addr)} {W : WX} {r r1 r' : En} {σ : L2.St} {N N1 N' : NS} {H H1 H' : Hp} {v : V} {d : D} {a : Addr} {α β γ δ : Type} {X : Cx} {G : Gs} {pos : Pos}

/-! ### sorted -/
theorem sortOk_out {ds : List D} (h : sortOk ds = true) : PySem.W.AllAlike (ds.map id) ∧ PySem.W.Sortable (ds.map id) ∧ (∀ d ∈ ds, d.depth ≤ 60) ∧ ds.length ≤ sizeLine := by
  simp only [sortOk, Bool.and_eq_true, Bool.or_eq_true, List.all_eq_true, decide_eq_true_eq] at h
  obtain ⟨⟨⟨h1, h2⟩, h3⟩, h4⟩ := h
  rw [List.map_id]
  refine ⟨fun d hd e he => h1 d hd e he, ?_, h3, h4⟩
  rcases h2 with h2 | h2
  · refine .inl fun d hd => ?_
    have q := h2 d hd
    split at q
    · exact ⟨_, _, rfl⟩
    · cases q
  · refine .inr fun d hd => ?_
    have q := h2 d hd
    split at q
    · cases q
    · cases q
    · rename_i n1 n2
      exact ⟨n1, fun xs e => n2 xs e⟩
theorem each_rp {its : List Value} : ∀ {xs : List V} {ds : List D}, RpA K N H xs ds → Vals xs its → PySem.W.EachIs (fun v d => ∃ x, L2.RelV x v ∧ Rp K N H x d) its ds := by
  intro xs
  induction its generalizing xs with
  | nil =>
    intro ds h r
    cases r
    cases h
    exact .nil
  | cons u us ih =>
    intro ds h r
    cases r with
    | cons r1 r2 =>
      cases h with
      | cons h1 h2 => exact .cons ⟨_, r1, h1⟩ (ih h2 r2)
theorem rp_each : ∀ {out : List Value} {ds : List D}, PySem.W.EachIs (fun v d => ∃ x, L2.RelV x v ∧ Rp K N H x d) out ds → ∃ xs, Vals xs out ∧ RpA K N H xs ds
  | _, _, .nil => ⟨[], .nil, .nil⟩
  | _, _, .cons ⟨x, h1, h2⟩ t => by
    obtain ⟨xs, h3, h4⟩ := rp_each t
    exact ⟨x :: xs, .cons h1 h3, .cons h2 h4⟩
theorem each_reads {X : Cx} {pins : List (Addr × Obj)} {s : Shared} (I : Inv X pins σ H s) (hK : X.kw = K) : ∀ {its : List Value} {ds : List D}, PySem.W.EachIs (fun v d => ∃ x, L2.RelV x v ∧ Rp K N H x d) its ds → (∀ d ∈ ds, PySem.W.alike d d = true) → PySem.W.EachIs (fun v d => ∃ as, Reads s.heap v (id d) as) its ds
  | _, _, .nil, _ => .nil
  | _ :: _, d :: _, .cons ⟨x, h1, h2⟩ t, nd => by
    have q : Dp X.kw.fr H x d := by rw [hK]; exact h2.dpA _ _ (nd _ List.mem_cons_self)
    exact .cons (Dp.reads I _ x _ q h1) (each_reads I hK t fun d hd => nd d (List.mem_cons_of_mem _ hd))
/-- sorted(..) of a list or a tuple of alike data -/
theorem sorted_run {X : Cx} {pins : List (Addr × Obj)} {s : Shared} {Q : VK} {xs : List V} {ds : List D} (I : Inv X pins σ H s) (hK : X.kw = K) (hu : X.A.units + 65 < cLine) (hx : (SqL K.fr H a xs ∨ SqT K.fr H a xs)) (hr : RpA K N H xs ds) (so : sortOk ds = true)
    (q : ∀ p ys, H p = none → RpA K N H ys (ds.mergeSort (PySem.W.dataLe false id)) → Q (.ref p) (upd H p (.lst ys))) : wpAny (model X.prog X.w) X.A (call (.builtin "sorted") [.ref a]) (EP X pins σ Q) X.xe s := by
  obtain ⟨h1, h2, h3, h4⟩ := sortOk_out so
  have nd : ∀ d ∈ ds, PySem.W.alike d d = true := fun d hd => h1 d (by rw [List.map_id]; exact hd) d (by rw [List.map_id]; exact hd)
  have fin : ∀ (its out : List Value), out.length = ds.length → PySem.W.EachIs (fun v d => ∃ x, L2.RelV x v ∧ Rp K N H x d) out (ds.mergeSort (PySem.W.dataLe false id)) → EP X pins σ Q (.ref (s.heap.objs.size + 1)) { s with heap := PyProof.Rows.sortedAll s.heap its (List.toArray out) } := by
    intro its out ho eo
    obtain ⟨ys, h5, h6⟩ := rp_each eo
    obtain ⟨ep, he'⟩ := PyProof.Rows.sortedAll_at s.heap its out.toArray
    have hy : ys.length ≤ sizeLine := by rw [h5.length, ho]; exact h4
    exact ⟨.ref _, upd H (s.heap.objs.size + 1) (.lst ys), I.laid (t' := s.toks) (fun _ _ => PyProof.Rows.sortedAll_old) (Nat.le_succ _) ⟨hy, out, ep, h5, he'⟩, rfl, q _ _ (I.hok.fresh (Nat.le_succ _)) h6⟩
  rcases hx with hx | hx
  · obtain ⟨its, rv, pl, hz⟩ := I.list (hK ▸ hx)
    have e1 := each_rp hr rv
    exact PySem.W.sorted_data (enc := id) pl.isList e1 (each_reads I hK e1 nd) h1 h2 h4 (fun b hb => by have := h3 b hb; simp only [id]; omega) fun out ho eo => fin its out ho eo
  · obtain ⟨its, rv, pl, hz⟩ := I.tuple (hK ▸ hx)
    have e1 := each_rp hr rv
    have e2 := each_reads I hK e1 nd
    have hil : its.length = ds.length := e1.length
    have er' : PySem.W.EachIs (fun v d => ∃ as, Reads (PySem.W.sortingHeap (PySem.W.copyHeap s.heap its) (s.heap.objs.size + 1) its) v (id d) as) its ds := e2.mono fun _ _ ⟨as, q⟩ => ⟨as, PyProof.Rows.Reads.keeps (fun _ _ => PySem.W.sorting_copy_old) q⟩
    refine PySem.W.sorted_tupleV pl (PySem.W.SortsAt.data (s := { s with heap := PySem.W.sortingHeap (PySem.W.copyHeap s.heap its) (s.heap.objs.size + 1) its }) (ds := ds.map id) (by rw [List.map_id]; exact er') h1 h2 (by rw [List.map_id]; intro d hd; have := h3 d hd; show X.A.units + 2 + d.depth < cLine; omega)) (by rw [hil]; exact h4) ?_
    exact fin its _ (by rw [PySem.W.sortVals_length false rfl]; exact hil) (PySem.W.sortVals_data false e1 er' h1)
/-- sorted(..) of a list of one thing at most -/
theorem sorted_short {X : Cx} {pins : List (Addr × Obj)} {s : Shared} {Q : VK} {xs : List V} {ds : List D} (I : Inv X pins σ H s) (hK : X.kw = K) (hx : SqL K.fr H a xs) (hr : RpA K N H xs ds) (so : ds.length ≤ 1)
    (q : ∀ p ys, H p = none → RpA K N H ys (ds.mergeSort (PySem.W.dataLe false id)) → Q (.ref p) (upd H p (.lst ys))) : wpAny (model X.prog X.w) X.A (call (.builtin "sorted") [.ref a]) (EP X pins σ Q) X.xe s := by
  obtain ⟨its, rv, pl, hz⟩ := I.list (hK ▸ hx)
  have hil : its.length = ds.length := by rw [← hr.length, ← rv.length]
  have em : ds.mergeSort (PySem.W.dataLe false id) = ds := by
    match ds, so with
    | [], _ => exact List.mergeSort_nil
    | [d], _ => exact List.mergeSort_singleton d
  have hz' : its.length ≤ sizeLine := by rw [← rv.length]; exact hz
  refine Srt.sorted_any pl.isList hz' (fun h2 => absurd h2 (by omega)) fun out ho => ?_
  have eo : out = its := by
    match its, hil with
    | [], _ => exact List.Perm.eq_nil ho
    | [u], _ => exact List.perm_singleton.mp ho
    | _ :: _ :: _, h => simp at h; omega
  subst eo
  obtain ⟨ep, he'⟩ := PyProof.Rows.sortedAll_at s.heap out out.toArray
  exact ⟨.ref _, upd H (s.heap.objs.size + 1) (.lst xs), I.laid (t' := s.toks) (fun _ _ => PyProof.Rows.sortedAll_old) (Nat.le_succ _) ⟨hz, out, ep, rv, he'⟩, rfl, q _ _ (I.hok.fresh (Nat.le_succ _)) (by rw [em]; exact hr)⟩
end
end E2

set_option Elab.async false
set_option linter.all false
set_option maxRecDepth 100000
set_option maxHeartbeats 1000000
namespace E2
variable [Tbs]
open PySem PySem.Spec PyProof.Rows L2
section
variable {K : Kw} {Fa Ca : Nat → Addr} {pr : List (Nat × Addr)} {W : WX} {r r1 r' : En} {σ : L2.St} {N N1 N' : NS} {H H1 H' : Hp} {v : V} {d : D} {a : Addr} {α β γ δ : Type} {X : Cx} {G : Gs} {pos : Pos}

/-! ### built-ins by values -/
def DRs (K : Kw) (N : NS) (H : Hp) : List V → List D → Prop
  | [], [] => True
  | v :: vs, d :: ds => DR K N H v d ∧ DRs K N H vs ds
  | _, _ => False
theorem drefs_ok (g : Good K Fa pr r σ N H) : ∀ {xs : List R} {vs : List V} {ds : List D}, RRs K Fa r σ N H vs xs → drefs r xs = some ds → DRs K N H vs ds
  | [], [], ds, _, e => by cases e; trivial
  | x :: xs, v :: vs, ds, h, e => by
    simp only [drefs] at e
    split at e
    · rename_i d ds' e1 e2
      cases e
      exact ⟨h.1.look g e1, drefs_ok g h.2 e2⟩
    · cases e
  | [], _ :: _, _, h, _ => h.elim
  | _ :: _, [], _, h, _ => h.elim
theorem DRs.one {vs : List V} (h : DRs K N H vs [d]) : ∃ v, vs = [v] ∧ DR K N H v d := by
  cases vs with
  | nil => exact h.elim
  | cons v vs =>
    cases vs with
    | nil => exact ⟨v, rfl, h.1⟩
    | cons _ _ => exact h.2.elim
theorem DRs.two {vs : List V} {e : D} (h : DRs K N H vs [d, e]) : ∃ v w, vs = [v, w] ∧ DR K N H v d ∧ DR K N H w e := by
  cases vs with
  | nil => exact h.elim
  | cons v vs =>
    obtain ⟨w, rfl, q⟩ := DRs.one (vs := vs) h.2
    exact ⟨v, w, rfl, h.1, q⟩
theorem DRs.zero {vs : List V} (h : DRs K N H vs []) : vs = [] := by
  cases vs with
  | nil => rfl
  | cons _ _ => exact h.elim
def rB (K : Kw) (Fa Ca : Nat → Addr) (pr : List (Nat × Addr)) (W : WX) (f : List D → Option (Bool × D)) : List V → Hp → VK → Prop := fun vs H Q => ∃ (r0 : En) (σ : L2.St) (N0 : NS) (H0 : Hp) (r : En) (N : NS) (ds : List D), Good K Fa pr r0 σ N0 H0 ∧ Stp r0 σ N0 H0 r N H ∧ Good K Fa pr r σ N H ∧ DRs K N H vs ds ∧ PostG K Fa Ca pr W (relE K Fa) r0 σ N0 H0 Q (optR r (f ds))
theorem foldmax : ∀ (xs : List Int) (x : Int), (xs.foldl (fun m y => if y > m then y else m) x) ∈ x :: xs ∧ ∀ y ∈ x :: xs, y ≤ xs.foldl (fun m y => if y > m then y else m) x
  | [], x => by simp
  | z :: xs, x => by
    simp only [List.foldl_cons]
    obtain ⟨h1, h2⟩ := foldmax xs (if z > x then z else x)
    constructor
    · rcases List.mem_cons.mp h1 with h | h
      · rw [h]; split <;> simp
      · simp [h]
    · intro y hy
      have h3 := h2 _ List.mem_cons_self
      rcases List.mem_cons.mp hy with rfl | hy
      · refine Int.le_trans ?_ h3
        split <;> omega
      · rcases List.mem_cons.mp hy with rfl | hy
        · refine Int.le_trans ?_ h3
          split <;> omega
        · exact h2 y (List.mem_cons_of_mem _ hy)
theorem foldmin : ∀ (xs : List Int) (x : Int), (xs.foldl (fun m y => if y < m then y else m) x) ∈ x :: xs ∧ ∀ y ∈ x :: xs, xs.foldl (fun m y => if y < m then y else m) x ≤ y
  | [], x => by simp
  | z :: xs, x => by
    simp only [List.foldl_cons]
    obtain ⟨h1, h2⟩ := foldmin xs (if z < x then z else x)
    constructor
    · rcases List.mem_cons.mp h1 with h | h
      · rw [h]; split <;> simp
      · simp [h]
    · intro y hy
      have h3 := h2 _ List.mem_cons_self
      rcases List.mem_cons.mp hy with rfl | hy
      · refine Int.le_trans h3 ?_
        split <;> omega
      · rcases List.mem_cons.mp hy with rfl | hy
        · refine Int.le_trans h3 ?_
          split <;> omega
        · exact h2 y (List.mem_cons_of_mem _ hy)
theorem maxI_eq {ns : List Int} {m k : Int} (e : maxI ns = some k) (h1 : m ∈ ns) (h2 : ∀ y ∈ ns, y ≤ m) : m = k := by
  cases ns with
  | nil => cases e
  | cons x xs =>
    cases e
    obtain ⟨q1, q2⟩ := foldmax xs x
    have := h2 _ q1
    have := q2 _ h1
    omega
theorem minI_eq {ns : List Int} {m k : Int} (e : minI ns = some k) (h1 : m ∈ ns) (h2 : ∀ y ∈ ns, m ≤ y) : m = k := by
  cases ns with
  | nil => cases e
  | cons x xs =>
    cases e
    obtain ⟨q1, q2⟩ := foldmin xs x
    have := h2 _ q1
    have := q2 _ h1
    omega
def bltV : Blt → Value
  | .len => .builtin "len"
  | .tuple => .type "tuple"
  | .list => .type "list"
  | .sorted => .builtin "sorted"
  | .sum => .builtin "sum"
  | .all => .builtin "all"
  | .any => .builtin "any"
  | .min => .builtin "min"
  | .max => .builtin "max"
  | .min2 => .builtin "min"
  | .max2 => .builtin "max"
  | .int => .type "int"
  | .str => .type "str"
  | .abs => .builtin "abs"
/-- min of a list of alike data: one of its items -/
theorem min_run {X : Cx} {pins : List (Addr × Obj)} {s : Shared} {Q : VK} {xs : List V} {ds : List D} {m : D} (I : Inv X pins σ H s) (hK : X.kw = K) (hc : X.calm = true) (hu : X.A.units + 65 < cLine) (hx : SqL K.fr H a xs) (hr : RpA K N H xs ds) (e : minG ds = some m)
    (q : ∀ v, Rp K N H v m → Q v H) : wpAny (model X.prog X.w) X.A (call (.builtin "min") [.ref a]) (EP X pins σ Q) X.xe s := by
  subst hK
  cases ds with
  | nil => cases e
  | cons d ds =>
    simp only [minG] at e
    split at e
    · rename_i c
      cases e
      simp only [Bool.and_eq_true, decide_eq_true_eq, List.all_eq_true] at c
      obtain ⟨⟨c1, c2⟩, c3⟩ := c
      obtain ⟨its, rv, pl, hz⟩ := I.list hx
      have c4 : PySem.W.alikeAll (d :: ds) (d :: ds) = true := by
        have : ∀ l : List D, (∀ x ∈ l, PySem.W.alike x x = true) → PySem.W.alikeAll l l = true := by
          intro l
          induction l with
          | nil => intro _; rfl
          | cons z l ih => intro h; simp only [PySem.W.alikeAll, Bool.and_eq_true]; exact ⟨h z List.mem_cons_self, ih fun w hw => h w (List.mem_cons_of_mem _ hw)⟩
        exact this _ fun z hz => c1 z hz z hz
      obtain ⟨as, rd⟩ := Dp.readsAll I (d :: ds) xs its (RpA.dpA _ _ hr c4) rv
      have hn : its.length = ds.length + 1 := by have := rv.length; have := hr.length; simp at *; omega
      refine call_min_walkH (PySem.W.iter_listW (A := X.A.in1) (I.ok.hd hc) pl.isList fun s₂ e W st hfp hw hk => ?_)
      refine ⟨_, _, _, _, _, _, _, s.heap, _, rfl, W, st, hfp, by simp; omega, hw, hk, PySem.W.cmpIn_lt (A := X.A.in1) (xs := d :: ds) rd ⟨c1, fun z hz h => by have := c2 z hz; rw [h] at this; cases this⟩ (by show X.A.units + 1 + _ < _; omega), fun v s' hP m => ?_⟩
      obtain ⟨h', tk, rfl, hk'⟩ := PySem.W.moved_old e rfl m
      have e1 : its.toArray.size - 1 = ds.length := by simp; omega
      have e2 := (PySem.W.argBest_fold PySem.W.dataLt PyData.none d ds ds.length (Nat.le_refl _))
      rw [List.take_length] at e2
      rw [e1] at hP
      rw [List.getElem?_toArray] at hP
      obtain ⟨le, e2⟩ := e2
      generalize argBest (fun i j => PySem.W.dataLt ((d :: ds).getD i .none) ((d :: ds).getD j .none)) ds.length = i at hP le e2
      have hy1 : (d :: ds)[i]? = some ((d :: ds).getD i .none) := by
        rw [List.getD_eq_getElem?_getD, List.getElem?_eq_getElem (by simp; omega)]; rfl
      obtain ⟨z, hz1, hy2⟩ := hr.get hy1
      obtain ⟨u, hz2, hz3⟩ := rv.get hz1
      rw [hP] at hz2
      cases hz2
      refine ⟨z, H, I.kept hk', hz3, q z ?_⟩
      have e3 : (d :: ds).getD i .none = PySem.W.minD d ds := e2
      exact e3 ▸ hy2
    · cases e
theorem cr_blt (hK : X.kw = K) (hc : X.calm = true) (hu : X.A.units + 65 < cLine) (b : Blt) : CallR X (bltV b) (rB K Fa Ca pr W (bltD b)) := by
  subst hK
  intro pins s σ H vs us Q I rr ⟨r0, σ', N0, H0, r, N, ds, g0, sp, g, hd, h⟩
  cases e : bltD b ds with
  | none => rw [e] at h; exact h.elim
  | some ow =>
    obtain ⟨o, w⟩ := ow
    rw [e] at h
    change PostG X.kw Fa Ca pr W (relE X.kw Fa) r0 σ' N0 H0 Q (.ok (.val o w) r) at h
    unfold bltD at e
    split at e
    · cases e
      obtain ⟨v, rfl, q⟩ := hd.one
      obtain ⟨a, xs, rfl, h1, h2⟩ := q.lst
      exact call_len_seq pins s σ H _ us Q I rr ⟨a, xs, rfl, .inl h1, by rw [h2.length]; exact h.val sp g (.int _)⟩
    · cases e
      obtain ⟨v, rfl, q⟩ := hd.one
      obtain ⟨a, xs, rfl, h1, h2⟩ := q.tup
      exact call_len_seq pins s σ H _ us Q I rr ⟨a, xs, rfl, .inr h1.sq, by rw [h2.length]; exact h.val sp g (.int _)⟩
    · split at e
      · cases e
        obtain ⟨v, rfl, q⟩ := hd.one
        have q := q.str
        subst q
        exact call_len_str pins s σ H _ us Q I rr ⟨_, rfl, by assumption, h.val sp g (.int _)⟩
      · cases e
    · split at e
      · rename_i kvs hk
        cases e
        obtain ⟨v, rfl, q⟩ := hd.one
        obtain ⟨a, rfl, q3⟩ := q.dic
        obtain ⟨u, rfl, ru⟩ := rr.one
        cases ru
        obtain ⟨ks, h1, h2⟩ := DicR.flat q3 hk
        exact call_lenD pins s σ H _ _ Q I rr ⟨a, ks, rfl, h1, by rw [h2.length]; exact h.val sp g (.int _)⟩
      · cases e
    · cases e
      obtain ⟨v, rfl, q⟩ := hd.one
      obtain ⟨a, xs, rfl, h1, h2⟩ := q.lst
      exact call_tupF pins s σ H _ us Q I rr ⟨a, xs, rfl, .inl ⟨h1, fun p ob hp oc od => h.newT g0 sp g hp oc od h2⟩⟩
    · cases e
      obtain ⟨v, rfl, q⟩ := hd.one
      obtain ⟨a, xs, rfl, h1, h2⟩ := q.tup
      exact call_tupF pins s σ H _ us Q I rr ⟨a, xs, rfl, .inr ⟨h1.sq, h.val sp g (.tup h1 h2)⟩⟩
    · cases e
      obtain ⟨v, rfl, q⟩ := hd.one
      obtain ⟨a, xs, rfl, h1, h2⟩ := q.lst
      exact call_list_of pins s σ H _ us Q I rr ⟨a, xs, rfl, .inl h1, fun p hp => h.newL g0 sp g hp h2⟩
    · cases e
      obtain ⟨v, rfl, q⟩ := hd.one
      obtain ⟨a, xs, rfl, h1, h2⟩ := q.tup
      exact call_list_of pins s σ H _ us Q I rr ⟨a, xs, rfl, .inr h1.sq, fun p hp => h.newL g0 sp g hp h2⟩
    · split at e
      · cases e
        obtain ⟨v, rfl, q⟩ := hd.one
        obtain ⟨a, xs, rfl, h1, h2⟩ := q.lst
        obtain ⟨u, rfl, ru⟩ := rr.one
        cases ru
        rename_i so
        rcases Bool.or_eq_true _ _ |>.mp so with so | so
        · exact sorted_run I rfl hu (.inl h1) h2 so fun p ys hp hy => h.newL g0 sp g hp hy
        · exact sorted_short I rfl h1 h2 (of_decide_eq_true so) fun p ys hp hy => h.newL g0 sp g hp hy
      · cases e
    · split at e
      · cases e
        obtain ⟨v, rfl, q⟩ := hd.one
        obtain ⟨a, xs, rfl, h1, h2⟩ := q.tup
        obtain ⟨u, rfl, ru⟩ := rr.one
        cases ru
        exact sorted_run I rfl hu (.inr h1.sq) h2 (by assumption) fun p ys hp hy => h.newL g0 sp g hp hy
      · cases e
    · obtain ⟨ns, e1, e2⟩ := Option.map_eq_some_iff.mp e
      cases e2
      obtain ⟨v, rfl, q⟩ := hd.one
      obtain ⟨a, xs, rfl, h1, h2⟩ := q.lst
      obtain ⟨rfl, _⟩ := h2.ints e1
      exact cr_sum hc pins s σ H _ us Q I rr ⟨a, ns, rfl, h1, h.val sp g (.int _)⟩
    · obtain ⟨ns, e1, e2⟩ := Option.map_eq_some_iff.mp e
      cases e2
      obtain ⟨v, rfl, q⟩ := hd.one
      obtain ⟨a, xs, rfl, h1, h2⟩ := q.lst
      obtain ⟨rfl, _⟩ := h2.bools e1
      exact cr_all hc pins s σ H _ us Q I rr ⟨a, ns, rfl, h1, h.val sp g (.bl _)⟩
    · obtain ⟨ns, e1, e2⟩ := Option.map_eq_some_iff.mp e
      cases e2
      obtain ⟨v, rfl, q⟩ := hd.one
      obtain ⟨a, xs, rfl, h1, h2⟩ := q.lst
      obtain ⟨rfl, _⟩ := h2.bools e1
      exact cr_any hc pins s σ H _ us Q I rr ⟨a, ns, rfl, h1, h.val sp g (.bl _)⟩
    · obtain ⟨m, e0, e2⟩ := Option.map_eq_some_iff.mp e
      cases e2
      obtain ⟨ns, e1, e3⟩ := Option.bind_eq_some_iff.mp e0
      obtain ⟨v, rfl, q⟩ := hd.one
      obtain ⟨a, xs, rfl, h1, h2⟩ := q.lst
      obtain ⟨rfl, _⟩ := h2.ints e1
      exact cr_max hc pins s σ H _ us Q I rr ⟨a, ns, rfl, h1, by cases ns <;> simp [maxI] at e3 ⊢, fun m' q1 q2 => by rw [maxI_eq e3 q1 q2]; exact h.val sp g (.int _)⟩
    · obtain ⟨m, e0, e2⟩ := Option.map_eq_some_iff.mp e
      cases e2
      obtain ⟨v, rfl, q⟩ := hd.one
      obtain ⟨a, xs, rfl, h1, h2⟩ := q.lst
      unfold minL at e0
      split at e0
      · rename_i ns e1
        obtain ⟨m, e3, rfl⟩ := Option.map_eq_some_iff.mp e0
        obtain ⟨rfl, _⟩ := h2.ints e1
        exact cr_min hc pins s σ H _ us Q I rr ⟨a, ns, rfl, h1, by cases ns <;> simp [minI] at e3 ⊢, fun m' q1 q2 => by rw [minI_eq e3 q1 q2]; exact h.val sp g (.int _)⟩
      · obtain ⟨u, rfl, ru⟩ := rr.one
        cases ru
        exact min_run I rfl hc hu h1 h2 e0 fun v h3 => h.val sp g h3
    · cases e
      obtain ⟨v, w, rfl, q1, q2⟩ := hd.two
      have q1 := q1.int
      have q2 := q2.int
      subst q1 q2
      exact call_max2 hc pins s σ H _ us Q I rr ⟨_, _, rfl, h.val sp g (.int _)⟩
    · cases e
      obtain ⟨v, w, rfl, q1, q2⟩ := hd.two
      have q1 := q1.int
      have q2 := q2.int
      subst q1 q2
      exact call_min2 hc pins s σ H _ us Q I rr ⟨_, _, rfl, h.val sp g (.int _)⟩
    · cases e
      obtain ⟨v, rfl, q⟩ := hd.one
      have q := q.int
      subst q
      exact call_int1 pins s σ H _ us Q I rr (.inl ⟨_, rfl, h.val sp g (.int _)⟩)
    · cases e
      obtain ⟨v, rfl, q⟩ := hd.one
      have q := q.bool
      subst q
      exact call_int1 pins s σ H _ us Q I rr (.inr ⟨_, rfl, h.val sp g (.int _)⟩)
    · split at e
      · cases e
        obtain ⟨v, rfl, q⟩ := hd.one
        have q := q.int
        subst q
        exact call_str_int pins s σ H _ us Q I rr ⟨_, rfl, by assumption, h.val sp g (.str _)⟩
      · cases e
    · cases e
      obtain ⟨v, rfl, q⟩ := hd.one
      have q := q.int
      subst q
      exact call_abs pins s σ H _ us Q I rr ⟨_, rfl, h.val sp g (.int _)⟩
    · cases e
def isTyB : Value → Bool
  | .type _ => true
  | _ => false
theorem fe_blt {b : Blt} {c : CE} {cs : CEs} {x : Str} {p : Pos} {e : Expr} {es : List Expr} (hK : X.kw = K) (hc : X.calm = true) (hu : X.A.units + 65 < cLine) (hg : Gl X x) (hm : X.mg x = none) (hv : bootBuiltins x = some (bltV b)) (hn : x ≠ "__name__") (hdb : (x == ("__debug__" : Str)) = false)
    (hp : (e :: es).all plainX = true) (h1 : PA X (e :: es) (tL K Fa Ca pr W (evEs G cs))) : PE X (.Call (.Name x p) (e :: es) [] pos) (tE K Fa Ca pr W (evE G (.blt b cs))) := by
  simp only [List.all_cons, Bool.and_eq_true] at hp
  have base : PE X (.Call (.Name x p) (e :: es) [] pos) (tCB (rB K Fa Ca pr W (bltD b)) (tL K Fa Ca pr W (evEs G cs))) := by
    have c := cr_blt (X := X) (Fa := Fa) (Ca := Ca) (pr := pr) (W := W) hK hc hu b
    cases hb : bltV b with
    | builtin id =>
      rw [hb] at c hv
      exact pe_callB c hg hm hv h1 hn hdb (star_cons hp.1) (back_any hp.2)
    | type T =>
      rw [hb] at c hv
      exact pe_callTy c hg hm hv h1 hn hdb (star_cons hp.1) (back_any hp.2)
    | _ => cases b <;> cases hb
  refine PE.imp base fun σ H Q ⟨r, N, g, h⟩ => ?_
  simp only [evE] at h
  show tL K Fa Ca pr W (evEs G cs) σ H _
  refine tG_mono (tG_bind (rel := relL K Fa) g (Stp.refl g) g h) fun vs H1 ⟨ys, r1, N1, t1, s1, g1, ⟨q1, f1, n1⟩, p1⟩ => ?_
  cases e : drefs r1 ys with
  | none => simp only [e] at p1; exact p1.elim
  | some ds =>
    simp only [e] at p1
    exact ⟨r, σ, N, H, r1, N1, ds, g, s1, g1, drefs_ok g1 q1 e, p1⟩
end
end E2

set_option Elab.async false
set_option linter.all false
set_option maxRecDepth 100000
set_option maxHeartbeats 1000000
namespace E2
variable [Tbs]
open PySem PySem.Spec PyProof.Rows L2
section
variable {K : Kw} {Fa Ca : Nat → Addr} {pr : List (Nat × Addr)} {W : WX} {r r1 r' : En} {σ : L2.St} {N N1 N' : NS} {H H1 H' : Hp} {v : V} {d : D} {a : Addr} {α β γ δ : Type} {X : Cx} {G : Gs} {pos : Pos}

/-! ### methods that only look -/
theorem indexD_at {x : D} : ∀ {ds : List D} {n j : Nat}, indexD x ds n = some j → ∃ z, ds[j - n]? = some z ∧ n ≤ j ∧ PyData.eqv z x = true ∧ ∀ (m : Nat) (z' : D), n + m < j → ds[m]? = some z' → PyData.eqv z' x = false
  | [], n, j, h => by cases h
  | y :: ys, n, j, h => by
    simp only [indexD] at h
    by_cases e : PyData.eqv y x = true
    · rw [if_pos e] at h
      cases h
      exact ⟨y, by simp, Nat.le_refl _, e, fun m z' hm _ => absurd hm (by omega)⟩
    · rw [if_neg e] at h
      obtain ⟨z, h1, h2, h3, h4⟩ := indexD_at h
      refine ⟨z, ?_, by omega, h3, fun m z' hm hz => ?_⟩
      · have e2 : j - n = (j - (n + 1)) + 1 := by omega
        rw [e2]
        simpa using h1
      · cases m with
        | zero =>
          cases hz
          simpa using e
        | succ m => exact h4 m z' (by omega) (by simpa using hz)
/-- the place of an equal one, in a tuple -/
theorem tuple_place {pins : List (Addr × Obj)} {s : Shared} {xs : List V} {ds : List D} {y : V} {e : D} {u : Value} {j : Nat} {z : D} {Q : VK} (hu : X.A.units + 65 < cLine) (I : Inv X pins σ H s) (hx : SqT X.kw.fr H a xs) (hd : DpAll X.kw.fr H xs ds) (hy : Dp X.kw.fr H y e) (ry : RelV y u)
    (s1 : SeqAt.shaped (.list ds) = true) (s2 : SeqAt.shaped e = true) (hz : ds[j]? = some z) (hzj : PyData.eqv z e = true) (hno : ∀ (m : Nat) (z' : D), m < j → ds[m]? = some z' → PyData.eqv z' e = false) (q : Q (.int (j : Nat)) H) :
    wpAny (model X.prog X.w) X.A (call (.builtin "tuple.index") [.ref a, u]) (EP X pins σ Q) X.xe s := by
  obtain ⟨qs, ru⟩ := Dp.reads I e y u hy ry
  have lay : PyData.canLayAll0 ds = true := SeqAt.canLay_of_shaped s1
  have room : X.A.units + 1 + min (PyData.depthAll ds) e.depth < cLine := room_in_shaped s2 hu
  obtain ⟨vs, rv, ⟨⟨c0, d0, t0, l0⟩, w1, w2, n, w3⟩, hlen⟩ := I.tuple hx
  simp only at w2 w3
  subst w2 w3
  obtain ⟨ps, rd⟩ := Dp.readsAll I ds _ vs hd rv
  have l1 : vs.length = ds.length := SeqAt.ReadsAll.length ds vs ps rd
  have l2 : vs.map (SeqAt.readOf s.heap) = ds := SeqAt.readsAll_map ds vs ps lay rd
  have jl : j < ds.length := (List.getElem?_eq_some_iff.mp hz).1
  have pick : ∀ (m : Nat) (hm : m < vs.toArray.size) (z' : D), ds[m]? = some z' → SeqAt.readOf s.heap vs.toArray[m] = z' := fun m hm z' q' => by
    have hm' : m < vs.length := by simpa using hm
    rw [← l2, List.getElem?_map, List.getElem?_eq_getElem hm'] at q'
    simpa using q'
  have jv : j < vs.toArray.size := by rw [List.size_toArray]; omega
  exact call_meets PySem.F.slot_tuple_index ⟨_, w1, rfl⟩ PySem.F.entry_tuple_index (PySem.F.args_tuple_index_2 _ _)
    (_root_.TI.tuple_indexAt a vs.toArray n d0 l0 u (fun w => PyData.eqv (SeqAt.readOf s.heap w) e) j jv (by show PyData.eqv _ e = true; rw [pick j jv z hz]; exact hzj)
      (fun m hm lt => by
        have g : ds[m]? = some ds[m] := List.getElem?_eq_getElem (by omega)
        show PyData.eqv _ e = false
        rw [pick m hm _ g]
        exact hno m _ lt g))
    ⟨w1, SeqAt.items_eqAt (vs := vs.toArray) (show ReadsAll s.heap vs.toArray.toList ds ps from rd) ru lay (SeqAt.canLay_of_shaped s2) room, .int (j : Nat), H, I.tok _, ⟨_, rfl⟩, q⟩
/-- what is of the built-in type T, bearing no dict -/
def TyO (X : Cx) (x : V) (H : Hp) (T : String) : Prop := ∀ (pins : List (Addr × Obj)) (σ : L2.St) (s : Shared) (u : Value), Inv X pins σ H s → RelV x u → s.TypeIs u T ∧ ∀ a, u = .ref a → ∃ ob, s.heap.get? a = some ob ∧ ob.dict = none
def builtT : D → String
  | .list _ => "list"
  | .tuple _ => "tuple"
  | .dict _ => "dict"
  | _ => ""
theorem DR.tyO (hK : X.kw = K) {T : String} (h : DR K N H v d) (e : builtT d = T) (ne : T ≠ "") : TyO X v H T := by
  subst hK
  intro pins σ s u I ru
  cases d with
  | list ds =>
    cases e
    obtain ⟨a, xs, rfl, h1, h2⟩ := h.lst
    exact tyV_is I ru (.inl ⟨rfl, xs, h1⟩)
  | tuple ds =>
    cases e
    obtain ⟨a, xs, rfl, h1, h2⟩ := h.tup
    cases ru
    rcases h1 with ⟨o, h1, hc, hn⟩ | ⟨o, its, n, h1, hn, hc, _⟩
    · have q := (I.hok _ _ h1).1
      exact ⟨⟨o, q, hc⟩, fun b eb => by cases eb; exact ⟨o, q, hn⟩⟩
    · have q := I.kIn _ _ h1
      exact ⟨⟨o, q, hc⟩, fun b eb => by cases eb; exact ⟨o, q, hn⟩⟩
  | dict ds =>
    cases e
    obtain ⟨a, rfl, hd⟩ := h.dicR
    rcases hd with ⟨ks, hd, _⟩ | ⟨o, ks, hd, hb, _⟩
    · have q := isD_at I (a := a) (.inl ⟨ks, .inl hd⟩)
      cases ru
      exact ⟨q.1, q.2.1⟩
    · cases ru
      have q := (I.hok _ _ hd).1
      exact ⟨⟨o, q, hb.2.2.2.1.1⟩, fun b eb => by cases eb; exact ⟨o, q, hb.2.2.2.1.2.1⟩⟩
  | _ => exact absurd e.symm ne
def methN : Meth → Str
  | .index => "index"
  | .get => "get"
  | .get2 => "get"
theorem methT_ty {m : Meth} (ne : methT m d ≠ "") : builtT d = methT m d := by
  cases m <;> cases d <;> first | rfl | exact absurd rfl ne
theorem methT_some {m : Meth} {ds : List D} {w : Bool × D} (h : methD m d ds = some w) : methT m d ≠ "" := by
  unfold methD at h
  split at h <;> first | (simp only [methT]; decide) | cases h
theorem methT_same {m : Meth} {d e : D} (h : tyName d = tyName e) : methT m d = methT m e := by
  cases d <;> cases e <;> first | (cases m <;> rfl) | (simp [tyName] at h)
theorem DR.frz (h : DR K N H v d) (e : frzD d = true) : Rp K N H v d := by
  rcases h with h | ⟨a, _, _, h⟩
  · exact h
  · cases d <;> first | exact h.elim | cases e
/-- the call of the method -/
def rMeth (K : Kw) (Fa Ca : Nat → Addr) (pr : List (Nat × Addr)) (W : WX) (m : Meth) : V → List V → Hp → VK → Prop := fun x vs H Q => ∃ (r0 : En) (σ : L2.St) (N0 : NS) (H0 : Hp) (r : En) (N : NS) (d : D) (ds : List D), Good K Fa pr r0 σ N0 H0 ∧ Stp r0 σ N0 H0 r N H ∧ Good K Fa pr r σ N H ∧ DR K N H x d ∧ DRs K N H vs ds ∧ PostG K Fa Ca pr W (relE K Fa) r0 σ N0 H0 Q (optR r (methD m d ds))
theorem dget_any {pins : List (Addr × Obj)} {s : Shared} {E : Value → Shared → Prop} {u : Value} {y : V} {kvs : List (D × D)} {k : D} {Q : Value → Shared → Prop} (hK : X.kw = K) (hu : X.A.units + 65 < cLine) (I : Inv X pins σ H s)
    (hd : DicR K N H a kvs) (hy : DR K N H y k) (ry : RelV y u) (hk : likeKeys kvs k = true)
    (h : ∀ v w' s', Inv X pins σ H s' → RelV v w' → Rp K N H v ((dGet kvs k).getD .none) → Q w' s') : wpAny (model X.prog X.w) X.A (call (.builtin "dict.get") [.ref a, u]) Q E s := by
  simp only [likeKeys, Bool.or_eq_true, Bool.and_eq_true] at hk
  rcases hk with ⟨ha, hk⟩ | ⟨ha, hk⟩
  · obtain ⟨q, rfl⟩ := flatK_key hk
    have ey := hy.key
    subst ey
    obtain ⟨ks, hd, rk⟩ := hd.flat ha
    have g := rk.get q
    refine d_get1 (by omega) I (o := valV ks q) (.inl ⟨ks, q, .inl hd, rfl, rfl⟩) ry fun w' s' I' rw' => h _ w' s' I' rw' ?_
    cases e1 : valV ks q <;> cases e2 : dGet kvs (kD q) <;> rw [e1, e2] at g <;> first | exact g | exact .non | exact g.elim
  · obtain ⟨q, rfl, hq⟩ := tupK_key hk
    obtain ⟨b, rfl, hb⟩ := hy.tkey
    cases ry
    obtain ⟨ks, dd, ns, rt, _⟩ := hd.tup I hK ha
    have g := rt.get (.tup q)
    refine call_meetsIn PySem.F.slot_dict_get dd.typeIs PySem.F.entry_dict_get (PySem.F.args_dict_get_2 _ _) (meetsH_dict_get (nestedKind X.prog X.w) a b ns) ⟨nroom hu, _, ks, ⟨hb.nested I hK _ _ _ rfl, hq⟩, dd, ?_⟩
    cases e1 : atKey ks (.tup q) with
    | none =>
      cases e2 : dGet kvs (NestedKey.tup q).data with
      | none => exact h .non _ _ (I.tok _) rfl (by rw [e2]; exact .non)
      | some z => rw [e1, e2] at g; exact g.elim
    | some p =>
      cases e2 : dGet kvs (NestedKey.tup q).data with
      | none => rw [e1, e2] at g; exact g.elim
      | some z =>
        rw [e1, e2] at g
        obtain ⟨v, rv, rp⟩ := g
        exact h v _ _ (I.tok _) rv (by rw [e2]; exact rp)
theorem dget2_any {pins : List (Addr × Obj)} {s : Shared} {E : Value → Shared → Prop} {u z : Value} {y x : V} {kvs : List (D × D)} {k e : D} {Q : Value → Shared → Prop} (hK : X.kw = K) (hu : X.A.units + 65 < cLine) (I : Inv X pins σ H s)
    (hd : DicR K N H a kvs) (hy : DR K N H y k) (ry : RelV y u) (hx : Rp K N H x e) (rx : RelV x z) (hk : likeKeys kvs k = true)
    (h : ∀ v w' s', Inv X pins σ H s' → RelV v w' → Rp K N H v ((dGet kvs k).getD e) → Q w' s') : wpAny (model X.prog X.w) X.A (call (.builtin "dict.get") [.ref a, u, z]) Q E s := by
  simp only [likeKeys, Bool.or_eq_true, Bool.and_eq_true] at hk
  rcases hk with ⟨ha, hk⟩ | ⟨ha, hk⟩
  · obtain ⟨q, rfl⟩ := flatK_key hk
    have ey := hy.key
    subst ey
    obtain ⟨ks, hd, rk⟩ := hd.flat ha
    have g := rk.get q
    refine d_get2 (by omega) I (o := valV ks q) (.inl ⟨ks, q, .inl hd, rfl, rfl⟩) ry rx fun w' s' I' rw' => h _ w' s' I' rw' ?_
    cases e1 : valV ks q <;> cases e2 : dGet kvs (kD q) <;> rw [e1, e2] at g <;> first | exact g | exact hx | exact g.elim
  · obtain ⟨q, rfl, hq⟩ := tupK_key hk
    obtain ⟨b, rfl, hb⟩ := hy.tkey
    cases ry
    obtain ⟨ks, dd, ns, rt, _⟩ := hd.tup I hK ha
    have g := rt.get (.tup q)
    refine call_meetsIn PySem.F.slot_dict_get dd.typeIs PySem.F.entry_dict_get (PySem.F.args_dict_get_3 _ _ _) (meetsH_dict_get_default (nestedKind X.prog X.w) a b ns z) ⟨nroom hu, _, ks, ⟨hb.nested I hK _ _ _ rfl, hq⟩, dd, ?_⟩
    cases e1 : atKey ks (.tup q) with
    | none =>
      cases e2 : dGet kvs (NestedKey.tup q).data with
      | none => exact h x _ _ (I.tok _) rx (by rw [e2]; exact hx)
      | some z => rw [e1, e2] at g; exact g.elim
    | some p =>
      cases e2 : dGet kvs (NestedKey.tup q).data with
      | none => rw [e1, e2] at g; exact g.elim
      | some z =>
        rw [e1, e2] at g
        obtain ⟨v, rv, rp⟩ := g
        exact h v _ _ (I.tok _) rv (by rw [e2]; exact rp)
def methI : String → Meth → String
  | "list", .index => "list.index"
  | "tuple", .index => "tuple.index"
  | _, _ => "dict.get"
theorem meth_run (hK : X.kw = K) (hu : X.A.units + 65 < cLine) {pins : List (Addr × Obj)} {s : Shared} {m : Meth} {x : V} {vs : List V} {u : Value} {us : List Value} {Q : VK} {ds : List D} {r0 : En} {N0 : NS} {H0 : Hp} {σ' : L2.St} (I : Inv X pins σ H s) (rx : RelV x u) (rv : Vals vs us)
    (g0 : Good K Fa pr r0 σ' N0 H0) (sp : Stp r0 σ' N0 H0 r N H) (g : Good K Fa pr r σ' N H) (hx : DR K N H x d) (hd : DRs K N H vs ds) (h : PostG K Fa Ca pr W (relE K Fa) r0 σ' N0 H0 Q (optR r (methD m d ds))) :
    wpAny (model X.prog X.w) X.A (call (.builtin (methI (methT m d) m)) (u :: us)) (EP X pins σ Q) X.xe s := by
  subst hK
  cases e : methD m d ds with
  | none => rw [e] at h; exact h.elim
  | some ow =>
    obtain ⟨o, w⟩ := ow
    rw [e] at h
    change PostG X.kw Fa Ca pr W (relE X.kw Fa) r0 σ' N0 H0 Q (.ok (.val o w) r) at h
    unfold methD at e
    split at e
    · split at e
      · rename_i xs y hs
        obtain ⟨j, e1, e2⟩ := Option.map_eq_some_iff.mp e
        cases e2
        obtain ⟨z, h1, _, h3, h4⟩ := indexD_at e1
        obtain ⟨v, rfl, hv⟩ := hd.one
        obtain ⟨a, ys, rfl, _, _⟩ := hx.lst
        exact mt_indexD hu pins s σ H _ _ u us Q I rx rv ⟨a, v, _, _, j, z, rfl, rfl, hx.dpS hs.1, hv.dpS hs.2, hs.1, hs.2, h1, h3, fun m z' lt q => h4 m z' (by omega) q, h.val sp g (.int _)⟩
      · cases e
    · split at e
      · rename_i xs y hs
        obtain ⟨j, e1, e2⟩ := Option.map_eq_some_iff.mp e
        cases e2
        obtain ⟨z, h1, _, h3, h4⟩ := indexD_at e1
        obtain ⟨v, rfl, hv⟩ := hd.one
        obtain ⟨a, ys, rfl, q1, q2⟩ := hx.tup
        obtain ⟨w, rfl, rw'⟩ := rv.one
        cases rx
        exact tuple_place hu I q1.sq (RpA.dp _ _ q2 (SeqAt.canLay_of_shaped hs.1)) (hv.dpS hs.2) rw' hs.1 hs.2 h1 h3 (fun m z' lt q => h4 m z' (by omega) q) (h.val sp g (.int _))
      · cases e
    · split at e
      · rename_i kvs k hk
        cases e
        obtain ⟨v, rfl, hv⟩ := hd.one
        obtain ⟨a, rfl, hdd⟩ := hx.dicR
        obtain ⟨w, rfl, rw'⟩ := rv.one
        cases rx
        exact dget_any rfl hu I hdd hv rw' hk fun v' w' s' I' rv' rp => ⟨v', H, I', rv', h.val sp g rp⟩
      · cases e
    · split at e
      · rename_i kvs k x' hk
        cases e
        obtain ⟨v, z, rfl, hv, hz⟩ := hd.two
        obtain ⟨a, rfl, hdd⟩ := hx.dicR
        cases rv with
        | cons rv1 rv2 =>
          obtain ⟨w, rfl, rw'⟩ := Vals.one rv2
          cases rx
          exact dget2_any rfl hu I hdd hv rv1 (hz.frz hk.2) rw' hk.1 fun v' w' s' I' rv' rp => ⟨v', H, I', rv', h.val sp g rp⟩
      · cases e
    · cases e
theorem methI_of (m : Meth) (d : D) (ne : methT m d ≠ "") : PlainAttrs (methT m d) ∧ Slot (methT m d) (methN m) (methI (methT m d) m) ∧ typeOf (.builtin (methI (methT m d) m)) = pure (.type "method_descriptor") := by
  cases m <;> cases d <;> first
    | exact absurd rfl ne
    | exact ⟨PySem.F.plainAttrs_list, PySem.F.slot_list_index, PySem.F.type_list_index⟩
    | exact ⟨PySem.F.plainAttrs_tuple, PySem.F.slot_tuple_index, PySem.F.type_tuple_index⟩
    | exact ⟨PySem.F.plainAttrs_dict, PySem.F.slot_dict_get, PySem.F.type_dict_get⟩
theorem fe_meth {m : Meth} {c : CE} {cs : CEs} {o e : Expr} {es : List Expr} {apos cpos : Pos} (hK : X.kw = K) (hu : X.A.units + 65 < cLine) (hbase : ∀ n, attributeBase o n X.env (eval o X.env) = eval o X.env) (hline : (apos.endLine == cpos.line) = true) (hp : (e :: es).all plainX = true) (hl : (e :: es).length < 30)
    (h1 : PE X o (tE K Fa Ca pr W (evE G c))) (h2 : PA X (e :: es) (tL K Fa Ca pr W (evEs G cs))) : PE X (.Call (.Attribute o (methN m) apos) (e :: es) [] cpos) (tE K Fa Ca pr W (evE G (.meth m c cs))) := by
  have hp' := hp
  simp only [List.all_cons, Bool.and_eq_true] at hp'
  refine ⟨fun pins s σ H Q I ⟨r, N, g, h⟩ => ?_⟩
  simp only [evE] at h
  refine wpAny_Call_method_late (hbase _) (back_few hp hl) hline rfl (thn (h1.run pins s σ H _ I (tG_bind (rel := relE K Fa) g (Stp.refl g) g h)) fun ov s1 ⟨x, H1, I1, rx, y, r1, N1, t1, sp1, g1, ⟨q1, f1⟩, p1⟩ => ?_)
  cases ed : dref r1 y with
  | none => simp only [ed] at p1; exact p1.elim
  | some d0 =>
    simp only [ed] at p1
    have dr0 := q1.look g1 ed
    by_cases ne : methT m d0 = ""
    · rw [if_pos ne] at p1
      exact p1.elim
    · rw [if_neg ne] at p1
      obtain ⟨z1, z2, z3⟩ := methI_of m d0 ne
      obtain ⟨w1, w2⟩ := dr0.tyO hK (methT_ty ne) ne pins σ s1 ov I1 rx
      refine ⟨methT m d0, _, z1, z2, z3, w1, w2, ?_⟩
      have hA := h2.run cpos pins s1 σ H1 _ I1 (tG_bind (rel := relL K Fa) g sp1 g1 p1)
      rw [star_cons hp'.1] at hA ⊢
      refine Calls.callWith_builtin (by show (false || (backTo cpos (starEach es X.env)).any (·.1)) = false; rw [back_any hp'.2]; rfl) (Calls.evalArgs_plain ?_)
      refine thn hA fun us s2 ⟨vs, H2, I2, rv, ys, r2, N2, t2, sp2, g2, ⟨q2, f2, n2⟩, p2⟩ => ?_
      have q1' := RR.stp q1 t2 g1
      cases e1 : dref r2 y with
      | none => simp only [e1] at p2; exact p2.elim
      | some d1 =>
        cases e2 : drefs r2 ys with
        | none => simp only [e1, e2] at p2; exact p2.elim
        | some ds =>
          simp only [e1, e2] at p2
          split at p2
          · rename_i same
            rw [methT_same same]
            exact meth_run hK hu I2 rx rv g sp2 g2 (q1'.look g2 e1) (drefs_ok g2 q2 e2) p2
          · exact p2.elim
end
end E2

set_option Elab.async false
set_option linter.all false
set_option maxRecDepth 100000
set_option maxHeartbeats 1000000
namespace E2
variable [Tbs]
open PySem PySem.Spec PyProof.Rows L2
section
variable {K : Kw} {Fa Ca : Nat → Addr} {pr : List (Nat × Addr)} {W : WX} {r r1 r' : En} {σ : L2.St} {N N1 N' : NS} {H H1 H' : Hp} {v : V} {d : D} {a : Addr} {α β γ δ : Type} {X : Cx} {G : Gs} {pos : Pos}

/-! ### isinstance(x, T) -/
theorem DR.tyX (h : DR K N H v d) (nd : ∀ kvs, d ≠ .dict kvs) : TyX K.fr H v (.type (tyName d)) := by
  rcases h with h | ⟨a, rfl, _, h⟩
  · cases h with
    | non => exact .base .non
    | bl b => exact .base (.bl b)
    | int b => exact .base (.int b)
    | str b => exact .base (.str b)
    | lst h _ =>
      rcases h with ⟨h | ⟨o, h⟩, _⟩ | ⟨o, its, n, h, hc, _⟩
      · exact .base (.lst h)
      · exact .base (.frz h)
      · exact .kList h hc
    | tup h _ =>
      rcases h with ⟨o, h, _⟩ | ⟨o, its, n, h, _, hc, _⟩
      · exact .fTuple h
      · exact .kTuple h hc
    | dk _ _ _ => exact absurd rfl (nd _)
    | dt _ _ _ _ => exact absurd rfl (nd _)
  · cases d with
    | list ds => obtain ⟨xs, h, _⟩ := h; exact .base (.lst h)
    | dict ds => exact absurd rfl (nd _)
    | _ => exact h.elim
theorem isTyD_out {t : String} {b : Bool} (h : isTyD d t = some b) : (∀ kvs, d ≠ .dict kvs) ∧ kitB (tyName d) t = some b := by
  unfold isTyD at h
  split at h
  · cases h
  · rename_i hn
    exact ⟨fun kvs z => hn kvs z, h⟩
theorem fe_isin {c : CE} {T : String} {x : Str} {p p2 : Pos} {e : Expr} (hK : X.kw = K) (hg : Gl X "isinstance") (hm : X.mg "isinstance" = none) (hg2 : Gl X x) (hm2 : X.mg x = none) (hv2 : bootBuiltins x = some (.type T)) (hn : x ≠ "__name__") (hdb : (x == ("__debug__" : Str)) = false) (hpl : plainX e = true)
    (h1 : PE X e (tE K Fa Ca pr W (evE G c))) : PE X (.Call (.Name "isinstance" p) [e, .Name x p2] [] pos) (tE K Fa Ca pr W (evE G (.isin c T))) := by
  subst hK
  have hnm : PE X (.Name x p2) (tC (.ty T)) := pe_bltn hg2 hm2 hv2 rfl hn hdb
  refine PE.imp (pe_callB (id := "isinstance") call_isi hg hm (by rfl) (pa_cons h1 (pa_cons hnm pa_nil (star_cons (by rfl))) (star_cons hpl)) (by decide) (by decide) (star_cons hpl) (back_any (by rfl))) fun σ H Q ⟨r, N, g, h⟩ => ?_
  simp only [evE] at h
  show tE X.kw Fa Ca pr W (evE G c) σ H _
  refine tG_mono (tG_bind (rel := relE X.kw Fa) g (Stp.refl g) g h) fun v H1 ⟨y, r1, N1, t1, s1, g1, ⟨q1, f1⟩, p1⟩ => ?_
  cases e : dref r1 y with
  | none => simp only [e] at p1; exact p1.elim
  | some d =>
    simp only [e] at p1
    cases e2 : isTyD d T with
    | none => simp only [e2] at p1; exact p1.elim
    | some b =>
      simp only [e2] at p1
      obtain ⟨nd, hk⟩ := isTyD_out e2
      exact ⟨v, .ty T, _, _, b, rfl, .ty T, (q1.look g1 e).tyX nd, kit_ty hk, p1.val s1 g1 (.bl b)⟩

/-! ### list(range(..)), tuple(range(..)) -/
theorem rg_rp (a b : Int) : RpA K N H (rgV a b) (rngI a b) := by
  unfold rgV rngI
  generalize List.range (b - a).toNat = l
  induction l with
  | nil => exact .nil
  | cons i l ih => exact .cons (.int _) ih
def tRgF (te : L2.St → Hp → (Int → Int → Hp → Prop) → Prop) : TE := fun σ H Q => te σ H fun a b H1 => RgOk a b ∧ NewT H1 Q (rgV a b)
theorem pe_rgF {e : Expr} {te : L2.St → Hp → (Int → Int → Hp → Prop) → Prop} {p : Pos} (hc : X.calm = true) (hg : Gl X "tuple") (hm : X.mg "tuple" = none) (he : PRg X e te) (na : plainX e = true) : PE X (.Call (.Name "tuple" p) [e] [] pos) (tRgF te) :=
  ⟨fun pins s σ H Q I h => Call_ (ld_blt I hg hm boot_tuple (PyProof.Rows.callWith_type1 (args_cons (thn (he pins s σ H _ I h) fun x s1 ⟨rr, a, b, t1, t2, t3, H1, ex, isr, I1, ok, q⟩ => args_nil (by
    subst ex
    obtain ⟨b1, b2, b3, b4, b5⟩ := ok
    refine call_tuple_range (n := (b - a).toNat) (I1.ok.hd hc) isr (small_one b1 b2 b3 b4) (rangeSize_nat a b) b5 fun h' tk acc hk hi => ?_
    have z := pushQ (I1.kept (t' := tk) hk) (vals_rg hi) (by rw [rgV_length, sizeLine_eq]; omega) q
    rw [Array.toArray_toList] at z
    exact z)) (star_cons na)) (star_cons na)))⟩
inductive RgArgs (X : Cx) (K : Kw) (Fa Ca : Nat → Addr) (pr : List (Nat × Addr)) (W : WX) (G : Gs) : List Expr → CEs → Prop
  | one {e : Expr} {c : CE} (hp : plainX e = true) (h : PE X e (tE K Fa Ca pr W (evE G c))) : RgArgs X K Fa Ca pr W G [e] (.cons c .nil)
  | two {e f : Expr} {c b : CE} (hp : plainX e = true) (hp2 : plainX f = true) (h : PE X e (tE K Fa Ca pr W (evE G c))) (h2 : PE X f (tE K Fa Ca pr W (evE G b))) : RgArgs X K Fa Ca pr W G [e, f] (.cons c (.cons b .nil))
/-- what the bounds are, and what is still to do -/
def tRgE (K : Kw) (Fa Ca : Nat → Addr) (pr : List (Nat × Addr)) (W : WX) (G : Gs) (cs : CEs) : L2.St → Hp → (Int → Int → Hp → Prop) → Prop := fun σ H Q => ∃ (r : En) (N : NS), Good K Fa pr r σ N H ∧
  match evEs G cs r with
  | .ok xs r' => ∃ ds is, drefs r' xs = some ds ∧ rngD ds = some is ∧ ∀ a b H' N', Stp r σ N H r' N' H' → Good K Fa pr r' σ N' H' → is = rngI a b → rngOk a b = true → (rngFew ds = true → (b - a).toNat ≤ 2 ^ 24) → Q a b H'
  | .exc x r' => ∀ cls d H' N', Stp r σ N H r' N' H' → Good K Fa pr r' σ N' H' → XR K Ca x cls d H' → W cls d σ H'
  | .stuck => False
theorem prg_E {es : List Expr} {cs : CEs} {p : Pos} (hg : Gl X "range") (hm : X.mg "range" = none) (ra : RgArgs X K Fa Ca pr W G es cs) : PRg X (.Call (.Name "range" p) es [] pos) (tRgE K Fa Ca pr W G cs) := by
  cases ra with
  | @one e c hp h =>
    intro pins s σ H Q I ⟨r, N, g, h'⟩
    refine prg_1 hg hm h (star_cons hp) pins s σ H Q I ⟨r, N, g, ?_⟩
    have ee : evEs G (.cons c .nil) r = (evE G c r).bind fun x r1 => .ok [x] r1 := by simp only [evEs]; rfl
    rw [ee] at h'
    cases ev : evE G c r with
    | stuck => rw [ev] at h'; exact h'.elim
    | exc x r' => rw [ev] at h'; exact h'
    | ok y r' =>
      rw [ev] at h'
      obtain ⟨ds, is, e1, e2, q⟩ := h'
      intro v H' N' st g' rl
      simp only [drefs] at e1
      split at e1
      · rename_i d ds' ed ed'
        cases ed'
        cases e1
        have lk := rl.1.look g' ed
        cases d <;> simp only [rngD] at e2 <;> try (cases e2)
        rename_i n
        split at e2
        · cases e2
          refine ⟨n, lk.int, q 0 n H' N' st g' rfl (by assumption) fun z => ?_⟩
          simpa [rngFew] using z
        · cases e2
      · cases e1
  | @two e f c b hp hp2 h h2 =>
    intro pins s σ H Q I ⟨r, N, g, h'⟩
    refine prg_2 hg hm h h2 (star_cons hp) (star_cons hp2) (back_any (by simp [hp2])) pins s σ H Q I ⟨r, N, g, ?_⟩
    have ee : evEs G (.cons c (.cons b .nil)) r = (evE G c r).bind fun x r1 => (evE G b r1).bind fun y r2 => .ok [x, y] r2 := by
      simp only [evEs]
      cases evE G c r <;> first | rfl | (simp only [Rs.bind]; rename_i y r'; cases evE G b r' <;> rfl)
    rw [ee] at h'
    cases ev : evE G c r with
    | stuck => rw [ev] at h'; exact h'.elim
    | exc x r' => rw [ev] at h'; exact h'
    | ok y r' =>
      rw [ev] at h'
      intro v H' N' st g' rl
      refine ⟨r', N', g', ?_⟩
      simp only [Rs.bind] at h'
      cases ev2 : evE G b r' with
      | stuck => rw [ev2] at h'; exact h'.elim
      | exc x r2 =>
        rw [ev2] at h'
        exact fun cls d H2 N2 st2 g2 xr => h' cls d H2 N2 (st.trans g st2) g2 xr
      | ok z r2 =>
        rw [ev2] at h'
        obtain ⟨ds, is, e1, e2, q⟩ := h'
        intro w H2 N2 st2 g2 rl2
        have rl1 := RR.stp rl.1 st2 g'
        simp only [drefs] at e1
        cases ed : dref r2 y with
        | none => rw [ed] at e1; cases e1
        | some d =>
          cases ed2 : dref r2 z with
          | none => rw [ed, ed2] at e1; cases e1
          | some d2 =>
            rw [ed, ed2] at e1
            cases e1
            have lk := rl1.look g2 ed
            have lk2 := rl2.1.look g2 ed2
            cases d <;> cases d2 <;> simp only [rngD] at e2 <;> try (cases e2)
            rename_i n m
            split at e2
            · cases e2
              refine ⟨n, m, lk.int, lk2.int, q n m H2 N2 (st.trans g st2) g2 rfl (by assumption) fun z => ?_⟩
              simpa [rngFew] using z
            · cases e2
theorem rngOk_out {a b : Int} (h : rngOk a b = true) (h2 : (b - a).toNat ≤ 2 ^ 24) : RgOk a b := by
  simp only [rngOk, decide_eq_true_eq] at h
  exact ⟨h.1, h.2.1, h.2.2.1, h.2.2.2, h2⟩
theorem fe_rngL {es : List Expr} {cs : CEs} {p p2 pos2 : Pos} (hc : X.calm = true) (hgl : Gl X "list") (hml : X.mg "list" = none) (hg : Gl X "range") (hm : X.mg "range" = none) (ra : RgArgs X K Fa Ca pr W G es cs) :
    PE X (.Call (.Name "list" p) [.Call (.Name "range" p2) es [] pos2] [] pos) (tE K Fa Ca pr W (evE G (.rng false cs))) := by
  refine PE.imp (pe_listRg hc hgl hml (prg_E hg hm ra) (star_cons (by rfl))) fun σ H Q ⟨r, N, g, h⟩ => ⟨r, N, g, ?_⟩
  simp only [evE] at h
  cases ev : evEs G cs r with
  | stuck => rw [ev] at h; exact h.elim
  | exc x r' => rw [ev] at h; exact h
  | ok xs r' =>
    rw [ev] at h
    simp only [Rs.bind] at h
    cases e1 : drefs r' xs with
    | none => simp only [e1] at h; exact h.elim
    | some ds =>
      cases e2 : rngD ds with
      | none => simp only [e1, e2] at h; exact h.elim
      | some is =>
        simp only [e1, e2] at h
        split at h
        · rename_i hf
          simp only [Bool.false_eq_true, if_false] at h
          exact ⟨ds, is, e1, e2, fun a b H' N' st g' ei ok few => ⟨rngOk_out ok (few hf), fun p hp => h.newL g st g' hp (ei ▸ rg_rp a b)⟩⟩
        · exact h.elim
theorem fe_rngT {es : List Expr} {cs : CEs} {p p2 pos2 : Pos} (hc : X.calm = true) (hgl : Gl X "tuple") (hml : X.mg "tuple" = none) (hg : Gl X "range") (hm : X.mg "range" = none) (ra : RgArgs X K Fa Ca pr W G es cs) :
    PE X (.Call (.Name "tuple" p) [.Call (.Name "range" p2) es [] pos2] [] pos) (tE K Fa Ca pr W (evE G (.rng true cs))) := by
  refine PE.imp (pe_rgF hc hgl hml (prg_E hg hm ra) (by rfl)) fun σ H Q ⟨r, N, g, h⟩ => ⟨r, N, g, ?_⟩
  simp only [evE] at h
  cases ev : evEs G cs r with
  | stuck => rw [ev] at h; exact h.elim
  | exc x r' => rw [ev] at h; exact h
  | ok xs r' =>
    rw [ev] at h
    simp only [Rs.bind] at h
    cases e1 : drefs r' xs with
    | none => simp only [e1] at h; exact h.elim
    | some ds =>
      cases e2 : rngD ds with
      | none => simp only [e1, e2] at h; exact h.elim
      | some is =>
        simp only [e1, e2] at h
        split at h
        · rename_i hf
          simp only [if_true] at h
          exact ⟨ds, is, e1, e2, fun a b H' N' st g' ei ok few => ⟨rngOk_out ok (few hf), fun p ob hp oc od => h.newT g st g' hp oc od (ei ▸ rg_rp a b)⟩⟩
        · exact h.elim

/-! ### globals: constants, defs -/
/-- a constant of the module, whatever the heap is -/
def GcR (K : Kw) (v : V) (d : D) : Prop := ∀ (N : NS) (H : Hp), Rp K N H v d
theorem fe_gc {g : Nat} {x : Str} {u : Value} {w : V} {dd : D} (hg : Gl X x) (hm : X.mg x = some u) (hr : RelV w u) (hd : G.gcs g = some dd) (hw : GcR K w dd) (hdb : (x == ("__debug__" : Str)) = false) : PE X (.Name x pos) (tE K Fa Ca pr W (evE G (.gc g))) :=
  PE.imp (pe_glob hg hm hr hdb) fun σ H Q ⟨r, N, g, h⟩ => by
    simp only [evE, hd] at h
    exact PostG.val h (Stp.refl g) g (hw N H)
theorem fe_fnv {k : Nat} {x : Str} (hL : Tbs.isL k = false) (hg : Gl X x) (hm : X.mg x = some (.ref (Fa k))) (hdb : (x == ("__debug__" : Str)) = false) : PE X (.Name x pos) (tE K Fa Ca pr W (evE G (.fnv k))) :=
  PE.imp (pe_glob hg hm (v := .ref (Fa k)) rfl hdb) fun σ H Q ⟨r, N, g, h⟩ => by
    simp only [evE] at h
    exact h (.ref (Fa k)) H N (Stp.refl g) g ⟨.inl ⟨hL, rfl, rfl⟩, trivial⟩
end
end E2

set_option Elab.async false
set_option linter.all false
set_option maxRecDepth 100000
set_option maxHeartbeats 2000000
namespace E2
variable [Tbs]
open PySem PySem.Spec PyProof.Rows L2
/-! ## lambdas called -/
/-- is b one of the cells? -/
def inCl (cl : List (Str × Addr)) (b : Addr) : Bool := cl.any fun p => decide (cl.lookup p.1 = some b)
theorem inCl_iff {cl : List (Str × Addr)} {b : Addr} : inCl cl b = true ↔ ∃ y, cl.lookup y = some b := by
  unfold inCl
  rw [List.any_eq_true]
  constructor
  · rintro ⟨p, _, h⟩
    exact ⟨p.1, of_decide_eq_true h⟩
  · rintro ⟨y, h⟩
    exact ⟨(y, b), PySem.mem_of_lookup h, decide_eq_true h⟩
/-- without the cells, as the lambda's body sees it -/
def drp (H : Hp) (cl : List (Str × Addr)) : Hp := fun b => if inCl cl b = true then none else H b
/-- with them again -/
def rea (H H' : Hp) (cl : List (Str × Addr)) : Hp := fun b => if inCl cl b = true then H b else H' b
section
variable {H H' : Hp} {cl : List (Str × Addr)} {b : Addr}
theorem drp_in (h : inCl cl b = true) : drp H cl b = none := if_pos h
theorem drp_no (h : ¬ inCl cl b = true) : drp H cl b = H b := if_neg h
theorem rea_in (h : inCl cl b = true) : rea H H' cl b = H b := if_pos h
theorem rea_no (h : ¬ inCl cl b = true) : rea H H' cl b = H' b := if_neg h
end
/-- what is tracked, not owned, no table and no cell stays so -/
def Fc (N : NS) (H : Hp) (N' : NS) (H' : Hp) : Prop := ∀ b o, H b = some o → ¬ N b → NTb o → (∀ ob, o ≠ CellO ob) → H' b = some o ∧ ¬ N' b
section
variable {K : Kw} {N N' : NS} {H H' : Hp}
mutual
theorem Rp.keepC (hs : Fc N H N' H') (ht : ∀ b, N b → Mut (H b)) : ∀ {v : V} {d : D}, Rp K N H v d → Rp K N' H' v d
  | _, _, .non => .non
  | _, _, .bl b => .bl b
  | _, _, .int i => .int i
  | _, _, .str x => .str x
  | _, _, .lst h ha => .lst (by
      rcases h with ⟨h, n⟩ | h
      · rcases h with h | ⟨o, h⟩
        · have z := hs _ _ h n (by intro _ z; cases z) (by intro _ z; cases z)
          exact .inl ⟨.inl z.1, z.2⟩
        · have z := hs _ _ h n (by intro _ z; cases z) (by intro _ z; cases z)
          exact .inl ⟨.inr ⟨o, z.1⟩, z.2⟩
      · exact .inr h) (RpA.keepC hs ht ha)
  | _, _, .tup (a := a) h ha => .tup (by
      rcases h with ⟨o, h, c⟩ | h
      · exact .inl ⟨o, (hs _ _ h (fun z => by have := ht a z; rw [h] at this; exact this) (by intro _ z; cases z) (by intro _ z; cases z)).1, c⟩
      · exact .inr h) (RpA.keepC hs ht ha)
  | _, _, .dk h n ha => .dk (hs _ _ h n (by intro _ z; cases z) (by intro _ z; cases z)).1 (hs _ _ h n (by intro _ z; cases z) (by intro _ z; cases z)).2 (RpK.keepC hs ht ha)
  | _, _, .dt h n o ha => .dt (hs _ _ h n (by intro _ z; cases z) (by intro _ z; cases z)).1 (hs _ _ h n (by intro _ z; cases z) (by intro _ z; cases z)).2 o (RpT.keepC hs ht ha)
theorem RpA.keepC (hs : Fc N H N' H') (ht : ∀ b, N b → Mut (H b)) : ∀ {v : List V} {d : List D}, RpA K N H v d → RpA K N' H' v d
  | _, _, .nil => .nil
  | _, _, .cons h t => .cons (Rp.keepC hs ht h) (RpA.keepC hs ht t)
theorem RpK.keepC (hs : Fc N H N' H') (ht : ∀ b, N b → Mut (H b)) : ∀ {v : List (Key × V)} {d : List (D × D)}, RpK K N H v d → RpK K N' H' v d
  | _, _, .nil => .nil
  | _, _, .cons h t => .cons (Rp.keepC hs ht h) (RpK.keepC hs ht t)
theorem RpT.keepC (hs : Fc N H N' H') (ht : ∀ b, N b → Mut (H b)) : ∀ {v : List (NestedKey × Addr × Value)} {d : List (D × D)}, RpT K N H v d → RpT K N' H' v d
  | _, _, .nil => .nil
  | _, _, .cons k b r h t => .cons k (Rp.keepC hs ht b) r (Rp.keepC hs ht h) (RpT.keepC hs ht t)
end
/-- the cells: tracked as such, nobody's -/
def Cells (N : NS) (H : Hp) (cl : List (Str × Addr)) : Prop := ∀ b, inCl cl b = true → (∃ (o : Obj) (u : Value), H b = some (CellO o) ∧ o.data = .cell (some u)) ∧ ¬ N b
theorem Cells.ne {cl : List (Str × Addr)} {b : Addr} {o : HO} (C : Cells N H cl) (h : H b = some o) (n : ∀ ob, o ≠ CellO ob) : ¬ inCl cl b = true := fun z => by
  obtain ⟨⟨ob, u, e, _⟩, _⟩ := C b z
  rw [h] at e
  exact n ob (Option.some.inj e)
theorem Fc.drp {cl : List (Str × Addr)} (C : Cells N H cl) : Fc N H N (drp H cl) := fun b o h n _ c => ⟨by rw [drp_no (C.ne h c)]; exact h, n⟩
end
/-- what is promised of a call with data alone -/
def specD (K : Kw) (call : List Ag → Cr) (ds : List D) : List V → Hp → VK → Prop := fun vs H Q => ∃ N, RpA K N H vs ds ∧ (∀ b, N b → Mut (H b)) ∧ TabO N H ∧
  match call (ds.map .val) with
  | .ok o d _ => ∀ v H' N', Ext (fun _ => False) N H N' H' → (∀ b, N' b → Mut (H' b)) → ResR K N N' H' v o d → Q v H'
  | _ => False
section
variable {K : Kw} {Fa Ca : Nat → Addr} {N N' : NS} {H H' : Hp} {v : V} {d : D}
theorem refAd_vals : ∀ {vs : List V} {ds : List D}, refAd vs (ds.map Ag.val) = []
  | [], [] => rfl
  | [], _ :: _ => rfl
  | v :: _, [] => by cases v <;> rfl
  | v :: vs, d :: ds => by
    rw [List.map_cons, refAd_no (by intro d z; cases z)]
    exact refAd_vals
theorem ags_vals : ∀ {vs : List V} {ds : List D}, RpA K N H vs ds → AgsR K Fa N H vs (ds.map Ag.val)
  | [], [], _ => trivial
  | _ :: _, _ :: _, .cons h t => ⟨h, ags_vals t⟩
theorem specD.to {call : List Ag → Cr} {ds : List D} {vs : List V} {Q : VK} {E : XK} (h : specD K call ds vs H Q) : spec K Fa Ca vs.length call vs H Q E := by
  obtain ⟨N, h1, h2, h3, h4⟩ := h
  refine ⟨ds.map .val, N, rfl, ags_vals h1, by rw [refAd_vals]; exact List.nodup_nil, h2, h3, ?_⟩
  cases e : call (ds.map .val) with
  | ok o d refs =>
    rw [e] at h4
    intro v H' N' E' t q _
    rw [refAd_vals] at E'
    refine h4 v H' N' ⟨fun b o h _ k => E'.keep b o h (by simp) k, E'.tab, E'.new, fun b h _ => E'.stay b h (by simp), fun _ z => z.elim, E'.there⟩ t q
  | fn k l refs => rw [e] at h4; exact h4.elim
  | exc x refs => rw [e] at h4; exact h4.elim
  | stuck => rw [e] at h4; exact h4.elim
/-- behind a lambda's body: the cells are back -/
theorem back_ext {cl : List (Str × Addr)} (C : Cells N H cl) (E : Ext (fun _ => False) N (drp H cl) N' H') (t : ∀ b, N' b → Mut (H' b)) (hn : ∀ b, inCl cl b = true → H' b = none) : Ext (fun _ => False) N H N' (rea H H' cl) := by
  refine ⟨fun b o h _ k => ?_, fun h => ?_, fun b z => ?_, E.stay, fun _ z => z.elim, fun b h => ?_⟩
  · by_cases hb : inCl cl b = true
    · rw [rea_in hb]; exact h
    · rw [rea_no hb]
      exact E.keep b o (by rw [drp_no hb]; exact h) (fun z => z) k
  · have tb : TabO N (drp H cl) := fun p hp => by
      obtain ⟨ps, h1, h2, h3⟩ := h p hp
      refine ⟨ps, by rw [drp_no (C.ne h1 (by intro _ z; cases z))]; exact h1, h2, fun pos cv hc => ?_⟩
      obtain ⟨c, e1, e2, e3⟩ := h3 pos cv hc
      exact ⟨c, e1, by rw [drp_no (C.ne e2 (by intro ob z; unfold LamX.CodeO at z; cases z))]; exact e2, e3⟩
    have no : ∀ {b o}, H' b = some o → ¬ inCl cl b = true := fun {b o} e z => by rw [hn b z] at e; cases e
    intro p hp
    obtain ⟨ps, h1, h2, h3⟩ := E.tab tb p hp
    refine ⟨ps, by rw [rea_no (no h1)]; exact h1, h2, fun pos cv hc => ?_⟩
    obtain ⟨c, e1, e2, e3⟩ := h3 pos cv hc
    exact ⟨c, e1, by rw [rea_no (no e2)]; exact e2, e3⟩
  · rcases E.new b z with q | q
    · exact .inl q
    · by_cases hb : inCl cl b = true
      · have m := t b z
        rw [hn b hb] at m
        exact m.elim
      · rw [drp_no hb] at q
        exact .inr q
  · by_cases hb : inCl cl b = true
    · rw [rea_in hb]; exact h
    · rw [rea_no hb]
      exact E.there b (by rw [drp_no hb]; exact h)
theorem back_ext2 {cl : List (Str × Addr)} (hn : ∀ b, inCl cl b = true → H' b = none) : Ext (fun _ => False) N' H' N' (rea H H' cl) := by
  have no : ∀ {b o}, H' b = some o → ¬ inCl cl b = true := fun {b o} e z => by rw [hn b z] at e; cases e
  refine ⟨fun b o h _ _ => by rw [rea_no (no h)]; exact h, fun h => h.ext (fun b o e _ => by rw [rea_no (no e)]; exact e) fun _ z => .inl z, fun _ z => .inl z, fun _ z _ => z, fun _ z => z.elim, fun b h => ?_⟩
  cases e : H' b with
  | none => exact absurd e h
  | some o => rw [rea_no (no e), e]; simp
theorem back_trk {cl : List (Str × Addr)} (t : ∀ b, N' b → Mut (H' b)) (hn : ∀ b, inCl cl b = true → H' b = none) : ∀ b, N' b → Mut (rea H H' cl b) := fun b z => by
  have m := t b z
  by_cases hb : inCl cl b = true
  · rw [hn b hb] at m
    exact m.elim
  · rw [rea_no hb]; exact m
theorem ResR.back {N0 : NS} {cl : List (Str × Addr)} {o : Bool} (h : ResR K N0 N' H' v o d) (t : ∀ b, N' b → Mut (H' b)) (hn : ∀ b, inCl cl b = true → H' b = none) : ResR K N0 N' (rea H H' cl) v o d := by
  cases o with
  | false => exact Rp.ext h (back_ext2 hn) t
  | true =>
    obtain ⟨a, h1, h2, h3, h4⟩ := h
    exact ⟨a, h1, h2, h3.ext (back_ext2 hn) t (fun z => z), h4⟩
/-- a lambda's call told without its cells -/
theorem specD_drp {call : List Ag → Cr} {ds : List D} {vs : List V} {Q : VK} {cl : List (Str × Addr)} (C : Cells N H cl) (h1 : RpA K N H vs ds) (h2 : ∀ b, N b → Mut (H b)) (h3 : TabO N H)
    (h4 : match call (ds.map .val) with
      | .ok o d _ => ∀ v H' N', Ext (fun _ => False) N H N' H' → (∀ b, N' b → Mut (H' b)) → ResR K N N' H' v o d → Q v H'
      | _ => False) : specD K call ds vs (drp H cl) (fun v H' => (∀ b, inCl cl b = true → H' b = none) → Q v (rea H H' cl)) := by
  refine ⟨N, h1.keepC (Fc.drp C) h2, fun b z => ?_, fun p hp => ?_, ?_⟩
  · by_cases hb : inCl cl b = true
    · exact absurd z (C b hb).2
    · rw [drp_no hb]; exact h2 b z
  · obtain ⟨ps, k1, k2, k3⟩ := h3 p hp
    refine ⟨ps, by rw [drp_no (C.ne k1 (by intro _ z; cases z))]; exact k1, k2, fun pos cv hc => ?_⟩
    obtain ⟨c, e1, e2, e3⟩ := k3 pos cv hc
    exact ⟨c, e1, by rw [drp_no (C.ne e2 (by intro ob z; unfold LamX.CodeO at z; cases z))]; exact e2, e3⟩
  · cases e : call (ds.map .val) with
    | ok o d refs =>
      rw [e] at h4
      exact fun v H' N' E t q hn => h4 v _ N' (back_ext C E t hn) (back_trk t hn) (q.back t hn)
    | fn k l refs => rw [e] at h4; exact h4.elim
    | exc x refs => rw [e] at h4; exact h4.elim
    | stuck => rw [e] at h4; exact h4.elim
end
/-! ### at the call -/
section
variable {P : Program} {w : World} {K : PySem.W.Frag} {mg : Str → Option Value} {base : Heap} {A : Around} {outer : List Env} {s s' : Shared} {H : Hp} {cl : List (Str × Addr)} {N : NS} {Q : VK}
theorem HOk.drp (C : Cells N H cl) (x : HOk P w H s.heap) : HOk P w (drp H cl) s.heap := fun b o e => by
  by_cases hb : inCl cl b = true
  · rw [drp_in hb] at e; cases e
  · rw [drp_no hb] at e
    refine (x b o e).stay (fun _ _ _ q => q) (fun c q => ?_) fun c xs q => ?_
    · rw [drp_no (C.ne q (by intro _ z; cases z))]; exact q
    · rw [drp_no (C.ne q (by intro _ z; cases z))]; exact q
theorem Env0.drp (C : Cells N H cl) (e : Env0 P w K mg base A outer s H) : Env0 P w K mg base A outer s (drp H cl) := by
  refine ⟨e.frames, e.mod, fun b o q => ⟨(e.bs b o q).1, ?_⟩, e.bsz, e.funs, fun b hb => ?_, HOk.drp C e.hok, e.bare⟩
  · by_cases hb : inCl cl b = true
    · exact drp_in hb
    · rw [drp_no hb]; exact (e.bs b o q).2
  · by_cases hc : inCl cl b = true
    · exact drp_in hc
    · rw [drp_no hc]; exact e.frf b hb
/-- a lambda's end, with its cells again -/
theorem cr_back {r : Result} (C : Cells N H cl) (e : Env0 P w K mg base A outer s H) (h : CR (L2.CX P w) outer P w (drp H cl) s (fun v H' => (∀ b, inCl cl b = true → H' b = none) → Q v (rea H H' cl)) (fun _ _ _ => False) r s') : CR (L2.CX P w) outer P w H s Q (fun _ _ _ => False) r s' := by
  cases r with
  | error e' =>
    obtain ⟨_, _, _, _, _, _, _, _, _, _, _, _, z⟩ := h
    exact z.elim
  | ok fl =>
    cases fl with
    | ret u =>
      obtain ⟨v, H', os, bare, un, hok, r, q⟩ := h
      have cell : ∀ b, inCl cl b = true → ∃ o, H b = some (CellO o) ∧ s.heap.get? b = some o ∧ s'.heap.get? b = some o ∧ H' b = none := fun b hb => by
        obtain ⟨⟨o, u, h1, _⟩, _⟩ := C b hb
        obtain ⟨g, _⟩ := e.hok b _ h1
        have nf : b ∉ frs outer := fun z => by
          have := e.frf b z
          rw [h1] at this
          cases this
        exact ⟨o, h1, g, un.keep b o g (drp_in hb) nf (by simp), un.free b o g (drp_in hb) (by simp)⟩
      have hn : ∀ b, inCl cl b = true → H' b = none := fun b hb => let ⟨_, _, _, _, z⟩ := cell b hb; z
      have nC : ∀ {b}, H b = none → ¬ inCl cl b = true := fun {b} n z => by
        obtain ⟨o, h1, _⟩ := cell b z
        rw [n] at h1
        cases h1
      refine ⟨v, rea H H' cl, os, bare, ⟨fun b o g n hf hx => un.keep b o g (by rw [drp_no (nC n)]; exact n) hf hx, fun b o g n hf hx => un.slot b o g (by rw [drp_no (nC n)]; exact n) hf hx, fun b o g n hx => ?_, un.there, fun b xs q => ?_, fun b o u q => ?_, fun b ps q => ?_⟩, fun b o q => ?_, r, q hn⟩
      · rw [rea_no (nC n)]
        exact un.free b o g (by rw [drp_no (nC n)]; exact n) hx
      · have nb := C.ne q (by intro _ z; cases z)
        rw [rea_no nb]
        exact un.tups b xs (by rw [drp_no nb]; exact q)
      · by_cases hb : inCl cl b = true
        · rw [rea_in hb]; exact q
        · rw [rea_no hb]
          exact un.frzs b o u (by rw [drp_no hb]; exact q)
      · have nb := C.ne q (by intro _ z; cases z)
        obtain ⟨more, z⟩ := un.tbls b ps (by rw [drp_no nb]; exact q)
        exact ⟨more, by rw [rea_no nb]; exact z⟩
      · by_cases hb : inCl cl b = true
        · obtain ⟨ob, h1, _, h3, _⟩ := cell b hb
          rw [rea_in hb, h1] at q
          cases q
          exact ⟨h3, ⟨ob, h3⟩⟩
        · rw [rea_no hb] at q
          refine (hok b o q).stay (fun _ _ _ q => q) (fun c q => ?_) fun c xs q => ?_
          · by_cases hc : inCl cl c = true
            · rw [hn c hc] at q; cases q
            · rw [rea_no hc]; exact q
          · by_cases hc : inCl cl c = true
            · rw [hn c hc] at q; cases q
            · rw [rea_no hc]; exact q
    | next => exact False.elim h
    | brk => exact False.elim h
    | cont => exact False.elim h
end
/-- the promise of the lambda k -/
structure LamOk (P : Program) (w : World) (K : Kw) (mg : Str → Option Value) (base : Heap) (G : Gs) (kr k : Nat) : Prop where
  run : ∀ (A : Around) (outer : List Env) (s : Shared) (H : Hp) (us : List Value) (vs ws : List V) (ds : List D) (q : Str) (params : Arguments) (body : Expr) (scope : Scope) (f c : Addr) (cl : List (Str × Addr)) (pm ctv : Value) (Q : VK),
    Room kr A → Env0 P w K.fr mg base A outer s H → Tbs.fit k params body scope → s.heap.get? f = some (PySem.W.kla_obj "<lambda>" q params body scope cl pm c ctv) → s.heap.CodeRec (.ref c) q → NdefX.CellsAt cl (Tbs.fr k) (ws.map some) s.heap H → Vals vs us →
    specD K (G.call k) ds (vs ++ ws) H Q → codeAny (model P w) A (.call (.ref f) ⟨us, []⟩) (CR (L2.CX P w) outer P w H s Q (fun _ _ _ => False)) s
section
variable {K : Kw} {Fa Ca : Nat → Addr} {N : NS} {H : Hp} {cl : List (Str × Addr)}
theorem ClA.vals : ∀ {fr : List Str} {ds : List D}, ClA K N H cl fr ds → ∃ ws : List V, ws.length = fr.length ∧ RpA K N H ws ds ∧ ∀ (i : Nat) (y : Str), fr[i]? = some y → ∃ (c : Addr) (o : Obj) (u : Value) (w : V), ws[i]? = some w ∧ cl.lookup y = some c ∧ H c = some (CellO o) ∧ o.data = .cell (some u) ∧ RelV w u
  | [], [], _ => ⟨[], rfl, .nil, fun i y e => by simp at e⟩
  | y :: ys, d :: ds, h => by
    obtain ⟨⟨c, o, u, w, q1, q2, q3, q4, q5⟩, t⟩ := h
    obtain ⟨ws, l, r, k⟩ := ClA.vals t
    refine ⟨w :: ws, by simp [l], .cons q5 r, fun i y' e => ?_⟩
    cases i with
    | zero =>
      simp at e
      subst e
      exact ⟨c, o, u, w, rfl, q1, q2, q3, q4⟩
    | succ i =>
      obtain ⟨c', o', u', w', z⟩ := k i y' (by simpa using e)
      exact ⟨c', o', u', w', by simpa using z.1, z.2⟩
  | [], _ :: _, h => h.elim
  | _ :: _, [], h => h.elim
theorem ClR.cells {fr : List Str} {ds : List D} (h : ClR K N H cl fr ds) : Cells N H cl := fun b hb => by
  obtain ⟨y, e⟩ := inCl_iff.mp hb
  obtain ⟨o, u, e1, e2, e3⟩ := h.all y b e
  exact ⟨⟨o, u, e1, e2⟩, e3⟩
end
section
variable {X : Cx} {pins : List (Addr × Obj)} {σ : L2.St} {H : Hp} {s : Shared} {K : Kw} {Fa : Nat → Addr} {N : NS} {G : Gs}
/-- a closure is called -/
theorem run_clo {kr k : Nat} {dd ds : List D} {v : V} {vs : List V} {us : List Value} {Q : VK} (hK : X.kw = K) (F : LamOk X.prog X.w K X.mg X.base G kr k) (hr : Room kr X.A) (I : Inv X pins σ H s) (h : CloR K N H v k ds) (r : Vals vs us) (h1 : RpA K N H vs dd) (h2 : ∀ b, N b → Mut (H b)) (h3 : TabO N H)
    (h4 : match G.call k ((dd ++ ds).map .val) with
      | .ok o d _ => ∀ v H' N', Ext (fun _ => False) N H N' H' → (∀ b, N' b → Mut (H' b)) → ResR K N N' H' v o d → Q v H'
      | _ => False) : ∃ f, v = .ref f ∧ wpAny (model X.prog X.w) X.A (call (.ref f) us) (EP X pins σ Q) X.xe s := by
  subst hK
  obtain ⟨q, params, body, scope, f, c, cl, hne, hL, hfit, rfl, hf, nf, hc, nc, hcl⟩ := h
  refine ⟨f, rfl, ?_⟩
  obtain ⟨⟨pm, ctv, hfo⟩, _, _⟩ := I.hok f _ hf
  have hcr := NdefX.codeO_at I.hok hc
  obtain ⟨ws, wl, wr, wk⟩ := hcl.has.vals
  have C := hcl.cells
  have cellAt : ∀ {b o u}, H b = some (CellO o) → o.data = .cell (some u) → s.heap.IsCell b (some u) := fun {b o u} e d => by
    obtain ⟨g, _⟩ := I.hok b _ e
    exact ⟨o, g, d⟩
  have CA : NdefX.CellsAt cl (Tbs.fr k) (ws.map some) s.heap (drp H cl) := by
    refine ⟨by rw [List.length_map, wl], fun y c e => ⟨drp_in (inCl_iff.mpr ⟨y, e⟩), ?_⟩, hcl.inj, fun i y e => ?_⟩
    · obtain ⟨o, u, e1, e2, _⟩ := hcl.all y c e
      exact ⟨_, cellAt e1 e2⟩
    · obtain ⟨c, o, u, w, k1, k2, k3, k4, k5⟩ := wk i y e
      refine ⟨c, k2, fun v hv => ⟨u, ?_, cellAt k3 k4⟩⟩
      rw [List.getElem?_map, k1] at hv
      cases hv
      exact k5
  have sp := specD_drp (call := G.call k) (ds := dd ++ ds) (vs := vs ++ ws) (Q := Q) C (h1.append wr) h2 h3 h4
  refine wpAny_call (codeAny_mono (F.run X.A X.stack s (drp H cl) us vs ws (dd ++ ds) q params body scope f c cl pm ctv _ hr (Env0.drp C I.env0) hfit hfo hcr CA r sp) fun r s' hq => ?_)
  have hq := cr_back C I.env0 hq
  cases r with
  | error e =>
    obtain ⟨_, _, _, _, _, _, _, _, _, _, _, _, z⟩ := hq
    exact z.elim
  | ok fl =>
    cases fl with
    | ret u => exact I.after hq
    | next => exact False.elim hq
    | brk => exact False.elim hq
    | cont => exact False.elim hq
end
end E2

set_option Elab.async false
set_option linter.all false
set_option maxRecDepth 100000
set_option maxHeartbeats 1000000
namespace E2
variable [Tbs]
open PySem PySem.Spec PyProof.Rows L2
section
variable {K : Kw} {Fa Ca : Nat → Addr} {pr : List (Nat × Addr)} {W : WX} {r r1 r' : En} {σ : L2.St} {N N1 N' : NS} {H H1 H' : Hp} {v : V} {d : D} {a : Addr} {α β γ δ : Type} {X : Cx} {G : Gs} {pos : Pos}

/-! ### methods that change the list in a slot -/
theorem ext_own {o : HO} (ha : N a) (hs : Mut (H a)) : Ext (fun b => b ∈ [a]) N H N (upd H a o) where
  keep := fun b u e n _ => by rw [upd_ne (fun z => n (by simp [z]))]; exact e
  tab := tabs_mut ha hs
  new := fun b h => .inl h
  stay := fun b h _ => h
  sub := fun b h => by simp only [List.mem_singleton] at h; rw [h]; exact ha
  there := fun b h => by
    by_cases z : b = a
    · subst z; rw [upd_same]; simp
    · rw [upd_ne z]; exact h
/-- the thing in slot i is written -/
theorem own_write {i : Nat} {d d' : D} {o : HO} {r0 : En} {N0 : NS} {H0 : Hp} (g0 : Good K Fa pr r0 σ N0 H0) (s : Stp r0 σ N0 H0 r N H) (g : Good K Fa pr r σ N H) (hi : r[i]? = some (some (.dat true d))) (hs : σ[i]? = some (some (.ref a))) (mo : Mut (some o))
    (rm : Fz N H N (upd H a o) → RpM K N (upd H a o) a d') : Good K Fa pr (r.set i (some (.dat true d'))) σ N (upd H a o) ∧ Stp r0 σ N0 H0 (r.set i (some (.dat true d'))) N (upd H a o) := by
  obtain ⟨v, h1, a', rfl, h2, h3⟩ := g.slot i _ hi
  rw [hs] at h1
  cases h1
  have E := ext_own (o := o) h2 (g.trk a h2)
  have sl : SlA σ r [i] [a] := ⟨⟨hs, d, hi⟩, trivial⟩
  refine put_good g0 s g sl (by simp) E (fun b hb => ?_) (ds := [d']) ⟨⟨h2, rm E.rps⟩, trivial⟩ (by simp [putRefs])
  by_cases z : b = a
  · subst z; rw [upd_same]; exact mo
  · rw [upd_ne z]; exact g.trk b hb
theorem own_list (g : Good K Fa pr r σ N H) {i : Nat} {ds : List D} (hi : r[i]? = some (some (.dat true (.list ds)))) : ∃ a xs, σ[i]? = some (some (.ref a)) ∧ N a ∧ H a = some (.lst xs) ∧ RpA K N H xs ds := by
  obtain ⟨v, h1, a, rfl, h2, xs, h3, h4⟩ := g.slot i _ hi
  exact ⟨a, xs, h1, h2, h3, h4⟩
def mutN : MMeth → Str
  | .append => "append"
  | .pop => "pop"
  | .popAt => "pop"
  | .insert => "insert"
  | .extend => "extend"
def mutI : MMeth → String
  | .append => "list.append"
  | .pop => "list.pop"
  | .popAt => "list.pop"
  | .insert => "list.insert"
  | .extend => "list.extend"
theorem mutD_list {m : MMeth} {ds : List D} {w : D × D} (h : mutD m d ds = some w) : ∃ xs, d = .list xs := by
  unfold mutD at h
  split at h <;> first | exact ⟨_, rfl⟩ | cases h
theorem RpA.oneR {vs : List V} {y : D} (h : RpA K N H vs [y]) : ∃ v, vs = [v] ∧ Rp K N H v y := by
  cases h with
  | cons h t => cases t; exact ⟨_, rfl, h⟩
theorem seqIx_pos {k : Int} {n : Nat} (h : 0 ≤ k) (l : k.toNat < n) : seqIndex? k n = some k.toNat := by
  unfold seqIndex?
  have e : (if k < 0 then k + (n : Int) else k) = k := if_neg (by omega)
  simp only [e]
  rw [if_pos (by simp only [Bool.and_eq_true, decide_eq_true_eq]; omega)]
theorem mut_run {pins : List (Addr × Obj)} {s : Shared} {m : MMeth} {vs : List V} {us : List Value} {Q : VK} {ds : List D} {i : Nat} {w d' : D} {r0 : En} {N0 : NS} {H0 : Hp} (I : Inv X pins σ H s) (rv : Vals vs us)
    (g0 : Good K Fa pr r0 σ N0 H0) (sp : Stp r0 σ N0 H0 r N H) (g : Good K Fa pr r σ N H) (hd : RpA K N H vs ds) (hi : r[i]? = some (some (.dat true d))) (e : mutD m d ds = some (w, d')) (hs : σ[i]? = some (some (.ref a)))
    (h : PostG K Fa Ca pr W (relE K Fa) r0 σ N0 H0 Q (.ok (.val false w) (r.set i (some (.dat true d'))))) :
    wpAny (model X.prog X.w) X.A (call (.builtin (mutI m)) (.ref a :: us)) (EP X pins σ Q) X.xe s := by
  obtain ⟨xs, rfl⟩ := mutD_list e
  obtain ⟨a', ys, h1, h2, h3, h4⟩ := own_list g hi
  rw [hs] at h1
  cases h1
  have fin : ∀ {zs : List V} {es : List D} {v : V}, d' = .list es → RpA K N H zs es → Rp K N H v w → Q v (upd H a (.lst zs)) := fun {zs es v} e1 q1 q2 => by
    subst e1
    obtain ⟨g', s'⟩ := own_write (o := .lst zs) (d' := .list es) g0 sp g hi hs trivial fun st => ⟨zs, upd_same, q1.keep st g.trk⟩
    exact h.val s' g' (q2.ext (ext_own h2 (g.trk a h2)) g.trk)
  unfold mutD at e
  split at e
  · rename_i xs' y q
    cases q
    split at e
    · cases e
      obtain ⟨v, rfl, rv'⟩ := hd.oneR
      exact mt_append pins s σ H (.ref a) _ (.ref a) us Q I rfl rv ⟨a, ys, v, rfl, rfl, h3, by rw [h4.length]; assumption, fin rfl (h4.append (.cons rv' .nil)) .non⟩
    · cases e
  · rename_i xs' q
    cases q
    split at e
    · rename_i y hy
      cases e
      cases hd
      obtain ⟨v, hv, rp⟩ := h4.get hy
      rw [← h4.length] at hv
      exact mt_pop pins s σ H (.ref a) _ (.ref a) us Q I rfl rv ⟨a, ys, v, rfl, rfl, h3, hv, fin rfl h4.dropLast rp⟩
    · cases e
  · rename_i xs' k q
    cases q
    split at e
    · rename_i hk
      split at e
      · rename_i y hy
        cases e
        obtain ⟨v, hv, rp⟩ := h4.get hy
        obtain ⟨v1, rfl, rk⟩ := hd.oneR
        cases rk
        have lt := (List.getElem?_eq_some_iff.mp hv).1
        exact mt_popAt pins s σ H (.ref a) _ (.ref a) us Q I rfl rv ⟨a, ys, k, k.toNat, v, rfl, rfl, h3, by omega, hk.2, seqIx_pos hk.1 lt, hv, fin rfl (h4.eraseIdx _) rp⟩
      · cases e
    · cases e
  · cases e
theorem mutF_run {pins : List (Addr × Obj)} {s : Shared} {m : MMeth} {vs : List V} {us : List Value} {Q : VK} {ys : List R} {i : Nat} {r0 : En} {N0 : NS} {H0 : Hp} (I : Inv X pins σ H s) (rv : Vals vs us)
    (g0 : Good K Fa pr r0 σ N0 H0) (sp : Stp r0 σ N0 H0 r N H) (g : Good K Fa pr r σ N H) (q2 : RRs K Fa r σ N H vs ys) (n2 : (frA vs ys).Nodup) (f2 : ∀ a ∈ frA vs ys, N0 a → own r0 σ a) (hs : σ[i]? = some (some (.ref a)))
    (h : PostG K Fa Ca pr W (relE K Fa) r0 σ N0 H0 Q (mutF m i ys r)) :
    wpAny (model X.prog X.w) X.A (call (.builtin (mutI m)) (.ref a :: us)) (EP X pins σ Q) X.xe s := by
  unfold mutF at h
  cases e1 : takes r ys with
  | none => simp only [e1] at h; exact h.elim
  | some dr =>
    obtain ⟨ds, r3⟩ := dr
    simp only [e1] at h
    obtain ⟨N3, g3, s3, q3, _⟩ := takes_ok g0 (dr := (ds, r3)) sp q2 n2 f2 g e1
    split at h
    · rename_i d ei3
      split at h
      · rename_i w d' em
        exact mut_run I rv g0 s3 g3 q3 ei3 em hs h
      · exact h.elim
    · exact h.elim
theorem ext_run {pins : List (Addr × Obj)} {s : Shared} {vs : List V} {us : List Value} {Q : VK} {zs : List D} {i : Nat} {r0 : En} {N0 : NS} {H0 : Hp} (I : Inv X pins σ H s) (rv : Vals vs us)
    (g0 : Good K Fa pr r0 σ N0 H0) (sp : Stp r0 σ N0 H0 r N H) (g : Good K Fa pr r σ N H) (q2 : RRs K Fa r σ N H vs [.val true (.list zs)]) (hs : σ[i]? = some (some (.ref a)))
    (h : PostG K Fa Ca pr W (relE K Fa) r0 σ N0 H0 Q (extR i zs r)) :
    wpAny (model X.prog X.w) X.A (call (.builtin "list.extend") (.ref a :: us)) (EP X pins σ Q) X.xe s := by
  unfold extR at h
  split at h
  · rename_i ys ei
    split at h
    · rename_i hl
      obtain ⟨a', xs, h1, h2, h3, h4⟩ := own_list g ei
      rw [hs] at h1
      cases h1
      match vs, q2 with
      | [v], ⟨⟨b, e1, nb, ⟨xs2, hb, rb⟩, _⟩, _⟩ =>
        subst e1
        have rx : RpA K N H (xs ++ xs2) (ys ++ zs) := h4.append rb
        obtain ⟨g', s'⟩ := own_write (o := .lst (xs ++ xs2)) (d' := .list (ys ++ zs)) g0 sp g ei hs trivial fun st => ⟨_, upd_same, rx.keep st g.trk⟩
        exact mt_extend pins s σ H (.ref a) _ (.ref a) us Q I rfl rv ⟨a, b, xs, xs2, rfl, rfl, h3, hb, by rw [h4.length, rb.length]; exact hl, h.val s' g' .non⟩
    · exact h.elim
  · exact h.elim
theorem mutR_run {pins : List (Addr × Obj)} {s : Shared} {m : MMeth} {vs : List V} {us : List Value} {Q : VK} {ys : List R} {i : Nat} {r0 : En} {N0 : NS} {H0 : Hp} (I : Inv X pins σ H s) (rv : Vals vs us)
    (g0 : Good K Fa pr r0 σ N0 H0) (sp : Stp r0 σ N0 H0 r N H) (g : Good K Fa pr r σ N H) (q2 : RRs K Fa r σ N H vs ys) (n2 : (frA vs ys).Nodup) (f2 : ∀ a ∈ frA vs ys, N0 a → own r0 σ a) (hs : σ[i]? = some (some (.ref a)))
    (h : PostG K Fa Ca pr W (relE K Fa) r0 σ N0 H0 Q (mutR m i ys r)) :
    wpAny (model X.prog X.w) X.A (call (.builtin (mutI m)) (.ref a :: us)) (EP X pins σ Q) X.xe s := by
  unfold mutR at h
  split at h
  · exact ext_run I rv g0 sp g q2 hs h
  · exact h.elim
  all_goals exact mutF_run I rv g0 sp g q2 n2 f2 hs h
theorem mutI_of (m : MMeth) : PlainAttrs "list" ∧ Slot "list" (mutN m) (mutI m) ∧ typeOf (.builtin (mutI m)) = pure (.type "method_descriptor") := by
  cases m
  · exact ⟨PySem.F.plainAttrs_list, PySem.F.slot_list_append, PySem.F.type_list_append⟩
  · exact ⟨PySem.F.plainAttrs_list, PySem.F.slot_list_pop, PySem.F.type_list_pop⟩
  · exact ⟨PySem.F.plainAttrs_list, PySem.F.slot_list_pop, PySem.F.type_list_pop⟩
  · exact ⟨PySem.F.plainAttrs_list, PySem.F.slot_list_insert, PySem.F.type_list_insert⟩
  · exact ⟨PySem.F.plainAttrs_list, PySem.F.slot_list_extend, PySem.F.type_list_extend⟩
theorem typeIs_list {pins : List (Addr × Obj)} {s : Shared} {xs : List V} (I : Inv X pins σ H s) (h : H a = some (.lst xs)) : s.TypeIs (.ref a) "list" ∧ ∀ b, Value.ref a = .ref b → ∃ ob, s.heap.get? b = some ob ∧ ob.dict = none :=
  tyV_is I (x := .ref a) rfl (.inl ⟨rfl, xs, .inl (.inl h)⟩)
theorem fe_mut {m : MMeth} {cs : CEs} {i : Nat} {x : Str} {p apos cpos : Pos} {e : Expr} {es : List Expr} (hN : X.N[i]? = some x) (hv : Vis X.env.scope x) (hd : (x == ("__debug__" : Str)) = false) (hcd : (x == ("__classdict__" : Str)) = false) (hbase : ∀ n, attributeBase (.Name x p) n X.env (eval (.Name x p) X.env) = eval (.Name x p) X.env) (hline : (apos.endLine == cpos.line) = true) (hp : (e :: es).all plainX = true) (hl : (e :: es).length < 30)
    (h2 : PA X (e :: es) (tL K Fa Ca pr W (evEs G cs))) : PE X (.Call (.Attribute (.Name x p) (mutN m) apos) (e :: es) [] cpos) (tE K Fa Ca pr W (evE G (.mut m i cs))) := by
  have hp' := hp
  simp only [List.all_cons, Bool.and_eq_true] at hp'
  refine ⟨fun pins s σ H Q I ⟨r, N, g, h⟩ => ?_⟩
  simp only [evE] at h
  split at h
  · rename_i ds0 ei
    obtain ⟨a, xs, k1, k2, k3, k4⟩ := own_list g ei
    refine wpAny_Call_method_late (hbase _) (back_few hp hl) hline rfl (thn ((pe_var (pos := p) hN hv hd hcd).run pins s σ H (fun v H1 => v = .ref a ∧ H1 = H) I ⟨.ref a, k1, rfl, rfl⟩) fun u s1 ⟨v, H1, I1, rx, e1, e2⟩ => ?_)
    subst e1 e2
    cases rx
    obtain ⟨z1, z2, z3⟩ := mutI_of m
    obtain ⟨w1, w2⟩ := typeIs_list I1 k3
    refine ⟨"list", _, z1, z2, z3, w1, w2, ?_⟩
    have hA := h2.run cpos pins s1 σ H1 _ I1 (tG_bind (rel := relL K Fa) g (Stp.refl g) g h)
    rw [star_cons hp'.1] at hA ⊢
    refine Calls.callWith_builtin (by show (false || (backTo cpos (starEach es X.env)).any (·.1)) = false; rw [back_any hp'.2]; rfl) (Calls.evalArgs_plain ?_)
    refine thn hA fun us s2 ⟨vs, H2, I2, rv, ys, r2, N2, t2, sp2, g2, ⟨q2, f2, n2⟩, p2⟩ => ?_
    exact mutR_run I2 rv g sp2 g2 q2 n2 f2 k1 p2
  · exact h.elim
theorem fe_mut0 {m : MMeth} {i : Nat} {x : Str} {p apos cpos : Pos} (hN : X.N[i]? = some x) (hv : Vis X.env.scope x) (hd : (x == ("__debug__" : Str)) = false) (hcd : (x == ("__classdict__" : Str)) = false) (hbase : ∀ n, attributeBase (.Name x p) n X.env (eval (.Name x p) X.env) = eval (.Name x p) X.env) (hline : (apos.endLine == cpos.line) = true) :
    PE X (.Call (.Attribute (.Name x p) (mutN m) apos) [] [] cpos) (tE K Fa Ca pr W (evE G (.mut m i .nil))) := by
  refine ⟨fun pins s σ H Q I ⟨r, N, g, h⟩ => ?_⟩
  simp only [evE, evEs, Rs.bind] at h
  split at h
  · rename_i ds0 ei
    obtain ⟨a, xs, k1, k2, k3, k4⟩ := own_list g ei
    refine wpAny_Call_method0_late (hbase _) hline (thn ((pe_var (pos := p) hN hv hd hcd).run pins s σ H (fun v H1 => v = .ref a ∧ H1 = H) I ⟨.ref a, k1, rfl, rfl⟩) fun u s1 ⟨v, H1, I1, rx, e1, e2⟩ => ?_)
    subst e1 e2
    cases rx
    obtain ⟨z1, z2, z3⟩ := mutI_of m
    obtain ⟨w1, w2⟩ := typeIs_list I1 k3
    refine ⟨"list", _, z1, z2, z3, w1, w2, Calls.callWith_builtin rfl (PySem.evalArgs_none ?_)⟩
    exact mutR_run (ys := []) I1 .nil g (Stp.refl g) g trivial .nil (fun _ z => by cases z) k1 h
  · exact h.elim

/-! ### calls of defs -/
theorem passA_len : ∀ {sig : List Bool} {xs : List R} {r : En} {used : List Nat} {w : List Ag × List Nat × En}, passA r used sig xs = some w → sig.length = xs.length
  | [], [], _, _, _, _ => rfl
  | false :: bs, .fn k ds :: xs, r, used, w, e => by
    simp only [passA] at e
    split at e
    · rename_i e1; exact congrArg (· + 1) (passA_len e1)
    · cases e
  | false :: bs, .val o d :: xs, r, used, w, e => by
    simp only [passA] at e
    split at e
    · rename_i e1; exact congrArg (· + 1) (passA_len e1)
    · cases e
  | false :: bs, .sl i :: xs, r, used, w, e => by
    simp only [passA] at e
    split at e
    · cases e
    · split at e
      · split at e
        · rename_i e1; exact congrArg (· + 1) (passA_len e1)
        · cases e
      · cases e
  | true :: bs, .sl i :: xs, r, used, w, e => by
    simp only [passA] at e
    split at e
    · cases e
    · split at e
      · split at e
        · rename_i e1; exact congrArg (· + 1) (passA_len e1)
        · cases e
      · cases e
  | [], _ :: _, _, _, _, e => by simp [passA] at e
  | _ :: _, [], _, _, _, e => by simp [passA] at e
  | true :: _, .val _ _ :: _, _, _, _, e => by simp [passA] at e
  | true :: _, .fn _ _ :: _, _, _, _, e => by simp [passA] at e
theorem RRs.length : ∀ {vs : List V} {xs : List R}, RRs K Fa r σ N H vs xs → vs.length = xs.length
  | [], [], _ => rfl
  | _ :: _, _ :: _, h => congrArg (· + 1) (RRs.length h.2)
  | [], _ :: _, h => h.elim
  | _ :: _, [], h => h.elim
/-- what is known of the def k -/
structure FD (X : Cx) (K : Kw) (Fa Ca : Nat → Addr) (G : Gs) (kr k : Nat) (fd : FuncData) (ps : List Str) : Prop where
  ok : FnOk X.prog X.w X.K X.mg X.base (L2.CX X.prog X.w) kr (Fa k) fd ps (spec K Fa Ca ps.length (G.call k))
  keep : PySem.W.keepIn X.K (.ref (Fa k)) = true
  binds : Binds X.K fd ps []
  np : (G.sig k).length = ps.length
theorem FD.spec {kr k : Nat} {fd : FuncData} {ps : List Str} (F : FD X K Fa Ca G kr k fd ps) {xs : List R} {vs : List V} {r0 : En} {N0 : NS} {H0 : Hp} {Q : VK} (g0 : Good K Fa pr r0 σ N0 H0) (s : Stp r0 σ N0 H0 r N H) (g : Good K Fa pr r σ N H) (h : RRs K Fa r σ N H vs xs) (f : ∀ a ∈ frA vs xs, N0 a → own r0 σ a) (nd : (frA vs xs).Nodup)
    (p : PostG K Fa Ca pr W (relE K Fa) r0 σ N0 H0 Q (callR G k xs r)) : E2.spec K Fa Ca ps.length (G.call k) vs H Q (WE W σ) := by
  refine callR_ok ?_ g0 s g h f nd p
  cases e : passA r [] (G.sig k) xs with
  | none => unfold callR at p; rw [e] at p; exact p.elim
  | some w => rw [h.length, ← passA_len e, F.np]
theorem fe_call {k kr : Nat} {fd : FuncData} {ps : List Str} {cs : CEs} {x : Str} {p : Pos} {e : Expr} {es : List Expr} (F : FD X K Fa Ca G kr k fd ps) (hr : Room kr X.A) (tk : Takes X W) (hg : Gl X x) (hm : X.mg x = some (.ref (Fa k))) (hdb : (x == ("__debug__" : Str)) = false) (hp : (e :: es).all plainX = true)
    (h1 : PA X (e :: es) (tL K Fa Ca pr W (evEs G cs))) : PE X (.Call (.Name x p) (e :: es) [] pos) (tE K Fa Ca pr W (evE G (.call k cs))) := by
  simp only [List.all_cons, Bool.and_eq_true] at hp
  refine PE.imp (pe_callS F.ok hr hg hm F.keep F.binds (E := WE W) (fun σ => passAt tk σ) h1 hdb (star_cons hp.1) (back_any hp.2)) fun σ H Q ⟨r, N, g, h⟩ => ?_
  simp only [evE] at h
  show tL K Fa Ca pr W (evEs G cs) σ H _
  exact tG_mono (tG_bind (rel := relL K Fa) g (Stp.refl g) g h) fun vs H1 ⟨ys, r1, N1, t1, s1, g1, ⟨q1, f1, n1⟩, p1⟩ => F.spec g s1 g1 q1 f1 n1 p1
theorem frA_nil : frA [] [] = [] := by simp [frA]
theorem fe_call0 {k kr : Nat} {fd : FuncData} {ps : List Str} {x : Str} {p : Pos} (F : FD X K Fa Ca G kr k fd ps) (hr : Room kr X.A) (tk : Takes X W) (hg : Gl X x) (hm : X.mg x = some (.ref (Fa k))) (hdb : (x == ("__debug__" : Str)) = false) :
    PE X (.Call (.Name x p) [] [] pos) (tE K Fa Ca pr W (evE G (.call k .nil))) := by
  refine ⟨fun pins s σ H Q I ⟨r, N, g, h⟩ => wpAny_Call_Name_kw (ld_glob I hg hm ?_ hdb)⟩
  simp only [evE, evEs, Rs.bind] at h
  exact PySem.W.callWith_K0 I.kIn F.keep (run_fnS (us := []) F.ok hr F.binds (passAt tk σ) I .nil (F.spec (xs := []) g (Stp.refl g) g trivial (fun a z => absurd z (by simp [frA])) (by simp [frA]) h))
/-- a def that stands in a slot -/
theorem PostG.res {o : Bool} {d : D} {r0 : En} {N0 : NS} {H0 : Hp} {Q : VK} (p : PostG K Fa Ca pr W (relE K Fa) r0 σ N0 H0 Q (.ok (.val o d) r)) (g0 : Good K Fa pr r0 σ N0 H0) (s : Stp r0 σ N0 H0 r N H) (g : Good K Fa pr r σ N H) : ∀ v H' N', Ext (fun _ => False) N H N' H' → (∀ b, N' b → Mut (H' b)) → ResR K N N' H' v o d → Q v H' := fun v H' N' E t q => by
  refine p v H' N' (s.trans g0 (g.stp0 E)) (g.ext0 E t) ⟨?_, ?_⟩
  · cases o with
    | false => exact q
    | true =>
      obtain ⟨a, h1, h2, h3, h4⟩ := q
      exact ⟨a, h1, h2, h3, fun z => h4 (g.ownN a z)⟩
  · cases o with
    | false => trivial
    | true =>
      obtain ⟨a, h1, h2, h3, h4⟩ := q
      intro b e n
      rw [h1] at e
      cases e
      by_cases z : own r0 σ a
      · exact z
      · exact absurd (s.ext.stay a n z) h4
theorem fe_callv {kr i : Nat} {cs : CEs} {x : Str} {p : Pos} {e : Expr} {es : List Expr} (hK : X.kw = K) (F : ∀ k, G.sig k ≠ [] → Tbs.isL k = false → ∃ fd ps, FD X K Fa Ca G kr k fd ps) (FL : ∀ k, Tbs.isL k = true → LamOk X.prog X.w K X.mg X.base G kr k) (hr : Room kr X.A) (tk : Takes X W) (hN : X.N[i]? = some x) (hv : Vis X.env.scope x) (hdb : (x == ("__debug__" : Str)) = false) (hcd : (x == ("__classdict__" : Str)) = false) (hp : (e :: es).all plainX = true)
    (h1 : PA X (e :: es) (tL K Fa Ca pr W (evEs G cs))) : PE X (.Call (.Name x p) (e :: es) [] pos) (tE K Fa Ca pr W (evE G (.callv i cs))) := by
  simp only [List.all_cons, Bool.and_eq_true] at hp
  refine ⟨fun pins s σ H Q I ⟨r, N, g, h⟩ => ?_⟩
  simp only [evE] at h
  split at h
  · rename_i k ds ei
    split at h
    · rename_i hs
      obtain ⟨v, h3, h4⟩ := g.slot i _ ei
      have h4 : FnR K Fa N H v k ds := h4
      rcases Or.symm h4 with h4 | ⟨hL, rfl, rfl⟩
      · have h5 := h4
        obtain ⟨q, params, body, scope, f, c, cl, hne, hL, hfit, rfl, hf, nf, hc, nc, hcl⟩ := h5
        refine wpAny_Call_Name_kw (thn ((pe_var (pos := p) hN hv hdb hcd).run pins s σ H (fun v H1 => v = .ref f ∧ H1 = H) I ⟨_, h3, rfl, rfl⟩) fun u s1 ⟨v, H1, I1, rx, e1, e2⟩ => ?_)
        subst e1 e2
        cases rx
        obtain ⟨⟨pm, ctv, hfo⟩, _, _⟩ := I1.hok f _ hf
        refine PySem.W.callWith_F ⟨_, _, _, _, hfo⟩ (thn (h1.run pos pins s1 σ H1 _ I1 (tG_bind (rel := relL K Fa) g (Stp.refl g) g h)) fun us s2 ⟨vs, H2, I2, rv, ys, r2, N2, t2, s2, g2, ⟨q2, f2, n2⟩, p2⟩ => ?_) (star_cons hp.1) (back_any hp.2)
        cases ds with
        | nil => exact absurd rfl hne
        | cons d0 ds =>
          simp only at p2
          cases e1 : takes r2 ys with
          | none => simp only [e1] at p2; exact p2.elim
          | some dr =>
            obtain ⟨dd, r3⟩ := dr
            simp only [e1] at p2
            obtain ⟨N3, g3, s3, q3, _⟩ := takes_ok g (dr := (dd, r3)) s2 q2 n2 f2 g2 e1
            have h6 : FnR K Fa N3 H2 (.ref f) k (d0 :: ds) := FnR.keep (.inr h4) s3.ext.rps g.trk
            rcases h6 with ⟨_, z, _⟩ | h6
            · cases z
            · have h7 := h6
              obtain ⟨_, _, _, _, f2', c2', _, _, _, _, e2', hf2, _, _, _, _⟩ := h7
              cases e2'
              obtain ⟨⟨pm2, ctv2, hfo2⟩, _, _⟩ := I2.hok f _ hf2
              obtain ⟨f', e', run⟩ := run_clo (Q := Q) hK (FL k hL) hr I2 h6 rv q3 g3.trk g3.tab (by
                cases ec : G.call k ((dd ++ (d0 :: ds)).map .val) with
                | ok o d refs =>
                  rw [ec] at p2
                  exact PostG.res p2 g s3 g3
                | fn k l refs => rw [ec] at p2; exact p2.elim
                | exc x refs => rw [ec] at p2; exact p2.elim
                | stuck => rw [ec] at p2; exact p2.elim)
              cases e'
              exact ⟨⟨_, _, _, _, hfo2⟩, run⟩
      obtain ⟨fd, ps, F⟩ := F k hs.2 hL
      refine wpAny_Call_Name_kw (thn ((pe_var (pos := p) hN hv hdb hcd).run pins s σ H (fun v H1 => v = .ref (Fa k) ∧ H1 = H) I ⟨_, h3, rfl, rfl⟩) fun u s1 ⟨v, H1, I1, rx, e1, e2⟩ => ?_)
      subst e1 e2
      cases rx
      refine PySem.W.callWith_K (h₀ := X.base) I1.ok.mod.kin F.keep (thn (h1.run pos pins s1 σ H1 _ I1 (tG_bind (rel := relL K Fa) g (Stp.refl g) g h)) fun us s2 ⟨vs, H2, I2, rv, ys, r2, N2, t2, s2, g2, ⟨q2, f2, n2⟩, p2⟩ => ⟨I2.kIn, ?_⟩) (star_cons hp.1) (back_any hp.2)
      exact run_fnS F.ok hr F.binds (passAt tk σ) I2 rv (F.spec g s2 g2 q2 f2 n2 p2)
    · exact h.elim
  · exact h.elim
end
end E2

set_option Elab.async false
set_option linter.all false
set_option maxRecDepth 100000
set_option maxHeartbeats 2000000
namespace E2
variable [Tbs]
open PySem PySem.Spec PyProof.Rows L2
/-! ## lambdas made and handed over -/
/-- more is tracked: nothing is lost -/
structure Gro (N : NS) (H H1 : Hp) : Prop where
  keep : ∀ b o, H b = some o → NTb o → H1 b = some o
  nn : ∀ b, H1 b = none → H b = none
  tab : TabO N H1
theorem Gro.refl {N : NS} {H : Hp} (t : TabO N H) : Gro N H H := ⟨fun _ _ h _ => h, fun _ h => h, t⟩
theorem Gro.trans {N : NS} {H H1 H2 : Hp} (a : Gro N H H1) (b : Gro N H1 H2) : Gro N H H2 := ⟨fun c o h t => b.keep c o (a.keep c o h t) t, fun c h => a.nn c (b.nn c h), b.tab⟩
theorem Gro.ext {N : NS} {H H1 : Hp} (a : Gro N H H1) : Ext (fun _ => False) N H N H1 :=
  ⟨fun b o h _ t => a.keep b o h t, fun _ => a.tab, fun _ z => .inl z, fun _ z _ => z, fun _ z => z.elim, fun b h e => h (a.nn b e)⟩
theorem Gro.trk {N : NS} {H H1 : Hp} (a : Gro N H H1) (t : ∀ b, N b → Mut (H b)) : ∀ b, N b → Mut (H1 b) := fun b z => by
  have m := t b z
  cases e : H b with
  | none => rw [e] at m; exact m.elim
  | some o =>
    rw [e] at m
    rw [a.keep b o e (fun ps q => by rw [q] at m; exact m)]
    exact m
/-- what a maker of lambdas must know of itself -/
structure LmOk (X : Cx) (q : Str) : Prop where
  ex : ∃ c P, X.env.code = .ref c ∧ LamX.TabB X.base X.mg c P ∧ (P, q) ∈ Tbs.T ∧ ∀ p ∈ Tbs.T, p.1 = P → p.2 = q
  qual : q = X.env.qual ++ "<lambda>"
  fn : ∀ y, X.fn y = true
section
variable {X : Cx} {pins : List (Addr × Obj)} {σ : L2.St} {H : Hp} {s : Shared} {N : NS}
theorem lam_make3 {q : Str} {params : Arguments} {body : Expr} {scope : Scope} {pos : Pos} {E Q : Value → Shared → Prop} (I : Inv X pins σ H s) (L : LmOk X q) (tb : TabO N H) (hN : ∀ b, N b → H b ≠ none) (hdef : defaultsOf params X.env = ([], [])) (hfree : ∀ y ∈ scope.names, y.2 = .free → ∃ c, X.env.cells.lookup y.1 = some c)
    (h : ∀ (f c : Addr) (H1 : Hp) (s1 : Shared), Inv X pins σ H1 s1 → Gro N H H1 → H f = none → H1 f = some (LamO f q params body scope (cloFrom X.env.cells scope.names []) c) → H1 c = some (LamX.CodeO c q) → ¬ N c → Q (.ref f) s1) :
    wpAny (model X.prog X.w) X.A (eval (.Lambda params body scope pos) X.env) Q E s := by
  obtain ⟨⟨cd, P, hcode, TB, hm, hu⟩, hq, _⟩ := L
  subst hq
  obtain ⟨ps, hP, ht, ha⟩ := tb _ hm
  have obj : s.heap.get? P = some { cls := .none, data := .fields ps } := I.hok P _ hP
  -- the function's object is laid on what the code object's making left
  have lay : ∀ {H2 : Hp} {h2 : Heap} {t2 : Nat} {c : Addr} {ctv : Value}, Inv X pins σ H2 { s with heap := h2, toks := t2 } → Gro N H H2 → H h2.objs.size = none → H2 c = some (LamX.CodeO c (X.env.qual ++ "<lambda>")) → ¬ N c →
      Q (.ref h2.objs.size) { s with heap := h2.push (PySem.W.kla_obj "<lambda>" (X.env.qual ++ "<lambda>") params body scope (cloFrom X.env.cells scope.names []) ((X.mg "__name__").getD .none) c ctv), toks := t2 } := by
    intro H2 h2 t2 c ctv J gr n0 hc nc
    have n2 : H2 h2.objs.size = none := J.hok.fresh (Nat.le_refl _)
    have J2 := J.laid (a := h2.objs.size) (t' := t2) (h' := h2.push (PySem.W.kla_obj "<lambda>" (X.env.qual ++ "<lambda>") params body scope (cloFrom X.env.cells scope.names []) ((X.mg "__name__").getD .none) c ctv))
      (o := LamO h2.objs.size (X.env.qual ++ "<lambda>") params body scope (cloFrom X.env.cells scope.names []) c) (fun b u e => Heap.get?_push_of_some _ e) (Nat.le_refl _)
      ⟨⟨_, ctv, Heap.get?_push_size _ rfl⟩, ⟨_, Heap.get?_push_size _ rfl⟩, fun h1 h3 ⟨pm, cv, z⟩ st => ⟨pm, cv, st _ z⟩⟩
    refine h _ c _ _ J2 (gr.trans ⟨fun b o e _ => (upd_ne (ne_of_none e n2)).trans e, fun b e => ?_, ?_⟩) n0 upd_same ((upd_ne (ne_of_none hc n2)).trans hc) nc
    · unfold upd at e
      split at e
      · cases e
      · exact e
    · exact gr.tab.ext (fun b o e _ => (upd_ne (ne_of_none e n2)).trans e) fun _ z => .inl z
  refine PySem.W.kla_eval hdef ?_
  cases hc : codeAmong pos ps.toList with
  | some cv =>
    obtain ⟨c, rfl, e2, e3⟩ := ha pos cv hc
    refine PySem.W.kla_makeFunctionHit (mg := X.mg) (c := cd) (P := P) (ps := ps) (closure_ok hfree) I.ok.glob (I.mod.glob.keeps I.bk) hcode (TB.code.keeps I.bk) obj ht hc (TB.bm.keeps I.bk) fun ctv h2 t2 kp sz => ?_
    exact lay (I.kept kp) (Gro.refl tb) (I.hok.fresh sz) e2 e3
  | none =>
    refine PySem.W.kla_makeFunction (mg := X.mg) (c := cd) (P := P) (ps := ps) (closure_ok hfree) I.ok.glob (I.mod.glob.keeps I.bk) hcode (TB.code.keeps I.bk) obj ht hc TB.gP (TB.bm.keeps I.bk) fun c ctv h2 t2 kp ge lt rec_ tbl_ => ?_
    obtain ⟨_, oc, vs, t, rz, r1, r2, r3⟩ := rec_
    cases rz
    have fresh : H c = none := I.hok.fresh ge
    have J := LamX.inv_table (t' := t2) (more := #[rawInt pos.line, rawInt pos.col, .ref c]) (h' := h2) I hP (fun b o nb e => kp b o nb e) tbl_ ge ⟨oc, vs, t, r1, r2, r3⟩
    have nP : c ≠ P := fun z => by rw [z, hP] at fresh; cases fresh
    have at1 : ∀ b, b ≠ c → b ≠ P → upd (upd H P (.tbl (ps ++ #[rawInt pos.line, rawInt pos.col, .ref c]))) c (LamX.CodeO c (X.env.qual ++ "<lambda>")) b = H b := fun b h1 h2 => (upd_ne h1).trans (upd_ne h2)
    have atP : upd (upd H P (.tbl (ps ++ #[rawInt pos.line, rawInt pos.col, .ref c]))) c (LamX.CodeO c (X.env.qual ++ "<lambda>")) P = some (.tbl (ps ++ #[rawInt pos.line, rawInt pos.col, .ref c])) := (upd_ne (fun z => nP z.symm)).trans upd_same
    have kept : ∀ b o, H b = some o → NTb o → upd (upd H P (.tbl (ps ++ #[rawInt pos.line, rawInt pos.col, .ref c]))) c (LamX.CodeO c (X.env.qual ++ "<lambda>")) b = some o := fun b o e nt => by
      rw [at1 b (ne_of_none e fresh) (fun z => by rw [z, hP] at e; exact nt _ (Option.some.inj e).symm)]
      exact e
    refine lay J ⟨kept, fun b e => ?_, fun p hp => ?_⟩ (I.hok.fresh (Nat.le_trans ge (Nat.le_of_lt lt))) upd_same (fun z => hN c z fresh)
    · by_cases h1 : b = c
      · rw [h1]; exact fresh
      · by_cases h3 : b = P
        · rw [h3, atP] at e; cases e
        · rw [at1 b h1 h3] at e; exact e
    · by_cases hb : p.1 = P
      · rw [hu p hp hb, hb]
        refine ⟨_, atP, ?_, fun p' cv hcv => ?_⟩
        · rw [Array.toList_append]
          exact PySem.TriplesOk_snoc _ _ _ _ ht
        · rw [Array.toList_append] at hcv
          rcases LamX.among_app _ ht hcv with z | z
          · obtain ⟨c0, e1, e2, e3⟩ := ha p' cv z
            exact ⟨c0, e1, kept _ _ e2 LamX.codeO_ne, e3⟩
          · exact ⟨c, z, upd_same, fun q => hN c q fresh⟩
      · obtain ⟨ps', a1, a2, a3⟩ := tb p hp
        refine ⟨ps', by rw [at1 _ (ne_of_none a1 fresh) hb]; exact a1, a2, fun p' cv hcv => ?_⟩
        obtain ⟨c0, e1, e2, e3⟩ := a3 p' cv hcv
        exact ⟨c0, e1, kept _ _ e2 LamX.codeO_ne, e3⟩
end
/-! ### the arguments -/
/-- the lambda's captured names are the maker's slots caps -/
structure LCap (X : Cx) (scope : Scope) (k : Nat) (caps : List Nat) : Prop where
  free : ∀ y ∈ scope.names, y.2 = .free → y.1 ∈ Tbs.fr k ∧ (X.env.scope.names.lookup y.1 = some .cell ∨ X.env.scope.names.lookup y.1 = some .free)
  all : ∀ y ∈ Tbs.fr k, (y, NameKind.free) ∈ scope.names
  at_ : caps.map (fun j => X.N[j]?) = (Tbs.fr k).map some
  ne : caps ≠ []
def ArgF (X : Cx) (Fa : Nat → Addr) (G : Gs) (σ : L2.St) (N : NS) (H : Hp) (v : V) : LA → Prop
  | .v i => σ[i]? = some (some v)
  | .c d => ∀ (K : Kw) (N : NS) (H : Hp), Rp K N H v d
  | .g g => ∃ dd, G.gcs g = some dd ∧ GcR X.kw v dd
  | .f k => Tbs.isL k = false ∧ v = .ref (Fa k)
  | .l k caps => ∃ (q : Str) (params : Arguments) (body : Expr) (scope : Scope) (f c : Addr), Tbs.isL k = true ∧ Tbs.fit k params body scope ∧ v = .ref f ∧ H f = some (LamO f q params body scope (cloFrom X.env.cells scope.names []) c) ∧ ¬ N f ∧ H c = some (LamX.CodeO c q) ∧ ¬ N c ∧ LCap X scope k caps
theorem ArgF.gro {X : Cx} {Fa : Nat → Addr} {G : Gs} {σ : L2.St} {N : NS} {H H1 : Hp} {v : V} (g : Gro N H H1) : ∀ {la : LA}, ArgF X Fa G σ N H v la → ArgF X Fa G σ N H1 v la
  | .v _, h => h
  | .c _, h => h
  | .g _, h => h
  | .f _, h => h
  | .l _ _, ⟨q, params, body, scope, f, c, h0, h1, h2, h3, h4, h5, h6, h7⟩ => ⟨q, params, body, scope, f, c, h0, h1, h2, g.keep _ _ h3 (by intro _ z; cases z), h4, g.keep _ _ h5 LamX.codeO_ne, h6, h7⟩
def ArgFs (X : Cx) (Fa : Nat → Addr) (G : Gs) (σ : L2.St) (N : NS) (H : Hp) : List V → List LA → Prop
  | [], [] => True
  | v :: vs, a :: as => ArgF X Fa G σ N H v a ∧ ArgFs X Fa G σ N H vs as
  | _, _ => False
theorem ArgFs.gro {X : Cx} {Fa : Nat → Addr} {G : Gs} {σ : L2.St} {N : NS} {H H1 : Hp} (g : Gro N H H1) : ∀ {vs : List V} {as : List LA}, ArgFs X Fa G σ N H vs as → ArgFs X Fa G σ N H1 vs as
  | [], [], _ => trivial
  | _ :: _, _ :: _, h => ⟨h.1.gro g, ArgFs.gro g h.2⟩
  | [], _ :: _, h => h.elim
  | _ :: _, [], h => h.elim
def tAt (X : Cx) (Fa : Nat → Addr) (G : Gs) (la : LA) : TE := fun σ H Q => ∃ N : NS, TabO N H ∧ (∀ b, N b → H b ≠ none) ∧ (∀ i, la = .v i → ∃ v, σ[i]? = some (some v)) ∧ ∀ v H1, Gro N H H1 → ArgF X Fa G σ N H1 v la → Q v H1
def tAts (X : Cx) (Fa : Nat → Addr) (G : Gs) (as : List LA) : TA := fun σ H Q => ∃ N : NS, TabO N H ∧ (∀ b, N b → H b ≠ none) ∧ (∀ i, LA.v i ∈ as → ∃ v, σ[i]? = some (some v)) ∧ ∀ vs H1, Gro N H H1 → ArgFs X Fa G σ N H1 vs as → Q vs H1
section
variable {X : Cx} {Fa : Nat → Addr} {G : Gs} {pos : Pos}
theorem la_nil : PA X [] (tAts X Fa G []) := PA.imp pa_nil fun σ H Q ⟨N, t, _, _, h⟩ => h [] H (Gro.refl t) trivial
theorem la_cons {a : LA} {as : List LA} {e : Expr} {es : List Expr} (hp : plainX e = true) (h1 : PE X e (tAt X Fa G a)) (h2 : PA X es (tAts X Fa G as)) : PA X (e :: es) (tAts X Fa G (a :: as)) :=
  PA.imp (pa_cons h1 h2 (star_cons hp)) fun σ H Q ⟨N, t, n, sl, h⟩ => ⟨N, t, n, fun i e => sl i (by rw [e]; exact List.mem_cons_self), fun v H1 g1 f1 => ⟨N, g1.tab, fun b z e => n b z (g1.nn b e), fun i e => sl i (List.mem_cons_of_mem _ e), fun vs H2 g2 f2 => h (v :: vs) H2 (g1.trans g2) ⟨f1.gro g2, f2⟩⟩⟩
theorem la_v {i : Nat} {x : Str} (hN : X.N[i]? = some x) (hv : Vis X.env.scope x) (hd : (x == ("__debug__" : Str)) = false) (hcd : (x == ("__classdict__" : Str)) = false) : PE X (.Name x pos) (tAt X Fa G (.v i)) :=
  PE.imp (pe_var hN hv hd hcd) fun σ H Q ⟨N, t, _, sl, h⟩ => by
    obtain ⟨v, e⟩ := sl i rfl
    exact ⟨v, e, h v H (Gro.refl t) e⟩
theorem la_c {d : D} {c : Const} {j : Nat} (hr : CRel c d) : PE X (.Constant c j pos) (tAt X Fa G (.c d)) := by
  cases hr with
  | non => exact PE.imp pe_non fun σ H Q ⟨N, t, _, _, h⟩ => h _ H (Gro.refl t) fun _ _ _ => .non
  | bl b => exact PE.imp pe_bl fun σ H Q ⟨N, t, _, _, h⟩ => h _ H (Gro.refl t) fun _ _ _ => .bl b
  | int i => exact PE.imp pe_int fun σ H Q ⟨N, t, _, _, h⟩ => h _ H (Gro.refl t) fun _ _ _ => .int i
  | str x => exact PE.imp pe_str fun σ H Q ⟨N, t, _, _, h⟩ => h _ H (Gro.refl t) fun _ _ _ => .str x
theorem la_g {g : Nat} {x : Str} {u : Value} {w : V} {dd : D} (hg : Gl X x) (hm : X.mg x = some u) (hr : RelV w u) (hd : G.gcs g = some dd) (hw : GcR X.kw w dd) (hdb : (x == ("__debug__" : Str)) = false) : PE X (.Name x pos) (tAt X Fa G (.g g)) :=
  PE.imp (pe_glob hg hm hr hdb) fun σ H Q ⟨N, t, _, _, h⟩ => h w H (Gro.refl t) ⟨dd, hd, hw⟩
theorem la_f {k : Nat} {x : Str} (hL : Tbs.isL k = false) (hg : Gl X x) (hm : X.mg x = some (.ref (Fa k))) (hdb : (x == ("__debug__" : Str)) = false) : PE X (.Name x pos) (tAt X Fa G (.f k)) :=
  PE.imp (pe_glob hg hm (v := .ref (Fa k)) rfl hdb) fun σ H Q ⟨N, t, _, _, h⟩ => h _ H (Gro.refl t) ⟨hL, rfl⟩
theorem la_l {k : Nat} {caps : List Nat} {q : Str} {params : Arguments} {body : Expr} {scope : Scope} (L : LmOk X q) (hL : Tbs.isL k = true) (hfit : Tbs.fit k params body scope) (hdef : defaultsOf params X.env = ([], [])) (hc : LCap X scope k caps) : PE X (.Lambda params body scope pos) (tAt X Fa G (.l k caps)) :=
  ⟨fun pins s σ H Q I ⟨N, t, n, _, h⟩ => lam_make3 I L t n hdef (fun y hy e => (hc.free y hy e).2.elim (fun z => I.ok.has _ (.inl z)) fun z => I.ok.has _ (.inr z)) fun f c H1 s1 I1 g f0 f1 c1 nc => ⟨.ref f, H1, I1, rfl, h _ H1 g ⟨q, params, body, scope, f, c, hL, hfit, rfl, f1, fun z => n f z f0, c1, nc, hc⟩⟩⟩
end
/-! ### the call -/
/-- the captured names that have a cell here -/
def capCl (X : Cx) (ns : List Str) : List (Str × Addr) := ns.filterMap fun y => (X.env.cells.lookup y).map fun c => (y, c)
theorem capCl_mem {X : Cx} {ns : List Str} {y : Str} {c : Addr} (h : (y, c) ∈ capCl X ns) : y ∈ ns ∧ X.env.cells.lookup y = some c := by
  obtain ⟨z, h1, h2⟩ := List.mem_filterMap.mp h
  obtain ⟨c', h3, h4⟩ := Option.map_eq_some_iff.mp h2
  cases h4
  exact ⟨h1, h3⟩
theorem capCl_look {X : Cx} {ns : List Str} {y : Str} {c : Addr} (h : y ∈ ns) (hc : X.env.cells.lookup y = some c) : (capCl X ns).lookup y = some c := by
  induction ns with
  | nil => cases h
  | cons z ns ih =>
    unfold capCl
    rw [List.filterMap_cons]
    by_cases e : z = y
    · subst e
      rw [hc]
      simp [List.lookup]
    · have hy : y ∈ ns := (List.mem_cons.mp h).elim (fun q => absurd q.symm e) id
      cases hz : X.env.cells.lookup z with
      | none => exact ih hy
      | some c' =>
        show List.lookup y ((z, c') :: capCl X ns) = _
        rw [List.lookup_cons, show (y == z) = false from by simpa using fun q => e q.symm]
        exact ih hy
/-- the captured cells tracked, as the callee sees it -/
def addC (H : Hp) (h : Heap) (cl : List (Str × Addr)) : Hp := fun b => if inCl cl b = true then (h.get? b).map CellO else H b
section
variable {X : Cx} {pins : List (Addr × Obj)} {σ : L2.St} {H : Hp} {s : Shared} {N : NS} {cl : List (Str × Addr)} {b : Addr}
/-- the cells hold something and are this def's own -/
structure OwnC (X : Cx) (H : Hp) (s : Shared) (cl : List (Str × Addr)) : Prop where
  at_ : ∀ b, inCl cl b = true → ∃ (o : Obj) (u : Value), s.heap.get? b = some o ∧ o.data = .cell (some u)
  no : ∀ b, inCl cl b = true → H b = none
  ge : ∀ b, inCl cl b = true → X.s_0.heap.objs.size ≤ b
  ne : ∀ b, inCl cl b = true → b ≠ X.env.locals
theorem OwnC.cells (O : OwnC X H s cl) (hN : ∀ b, N b → H b ≠ none) : Cells N (addC H s.heap cl) cl := fun b hb => by
  obtain ⟨o, u, h1, h2⟩ := O.at_ b hb
  exact ⟨⟨o, u, by unfold addC; rw [if_pos hb, h1]; rfl, h2⟩, fun z => hN b z (O.no b hb)⟩
theorem OwnC.keep (O : OwnC X H s cl) : ∀ b o, H b = some o → addC H s.heap cl b = some o := fun b o e => by
  unfold addC
  rw [if_neg fun z => by rw [O.no b z] at e; cases e]
  exact e
theorem OwnC.none_ (O : OwnC X H s cl) {b : Addr} (h : addC H s.heap cl b = none) : ¬ inCl cl b = true ∧ H b = none := by
  by_cases hb : inCl cl b = true
  · obtain ⟨o, u, h1, h2⟩ := O.at_ b hb
    unfold addC at h
    rw [if_pos hb, h1] at h
    cases h
  · unfold addC at h
    rw [if_neg hb] at h
    exact ⟨hb, h⟩
theorem OwnC.stack (O : OwnC X H s cl) (I : Inv X pins σ H s) (hb : inCl cl b = true) : b ∉ frs X.stack := fun z => by
  rcases List.mem_cons.mp (I.stkSub b z) with e | e
  · exact O.ne b hb e
  · obtain ⟨_, o, ho, _⟩ := I.ok.funs.mem e
    exact Nat.lt_irrefl _ (Nat.lt_of_lt_of_le (Heap.lt_size ho) (O.ge b hb))
theorem OwnC.env0 (O : OwnC X H s cl) (I : Inv X pins σ H s) : Env0 X.prog X.w X.K X.mg X.base X.A X.stack s (addC H s.heap cl) := by
  have e := I.env0
  refine ⟨e.frames, e.mod, fun b o q => ⟨(e.bs b o q).1, ?_⟩, e.bsz, e.funs, fun b hb => ?_, fun b o q => ?_, e.bare⟩
  · by_cases hb : inCl cl b = true
    · exact absurd (Nat.lt_of_lt_of_le (Heap.lt_size q) (Nat.le_trans I.ok.bsz (O.ge b hb))) (Nat.lt_irrefl _)
    · unfold addC; rw [if_neg hb]; exact (e.bs b o q).2
  · by_cases hc : inCl cl b = true
    · exact absurd hb (O.stack I hc)
    · unfold addC; rw [if_neg hc]; exact e.frf b hb
  · by_cases hb : inCl cl b = true
    · obtain ⟨ob, u, h1, h2⟩ := O.at_ b hb
      unfold addC at q
      rw [if_pos hb, h1] at q
      cases q
      exact ⟨h1, ⟨ob, h1⟩⟩
    · unfold addC at q
      rw [if_neg hb] at q
      exact (e.hok b o q).stay (fun _ _ _ q => q) (fun c q => O.keep c _ q) fun c xs q => O.keep c _ q
/-- the callee's end, without the cells -/
theorem OwnC.back {Q : VK} {r : Result} {s' : Shared} (O : OwnC X H s cl) (I : Inv X pins σ H s)
    (h : CR (L2.CX X.prog X.w) X.stack X.prog X.w (addC H s.heap cl) s (fun v H' => (∀ b, inCl cl b = true → H' b = addC H s.heap cl b) → Q v (drp H' cl)) (fun _ _ _ => False) r s') : CR (L2.CX X.prog X.w) X.stack X.prog X.w H s Q (fun _ _ _ => False) r s' := by
  cases r with
  | error e' =>
    obtain ⟨_, _, _, _, _, _, _, _, _, _, _, _, z⟩ := h
    exact z.elim
  | ok fl =>
    cases fl with
    | next => exact False.elim h
    | brk => exact False.elim h
    | cont => exact False.elim h
    | ret u =>
      obtain ⟨v, H', os, bare, un, hok, r, q⟩ := h
      have at_ : ∀ b, inCl cl b = true → ∃ (o : Obj) (u : Value), s.heap.get? b = some o ∧ o.data = .cell (some u) ∧ addC H s.heap cl b = some (CellO o) ∧ H' b = some (CellO o) ∧ s'.heap.get? b = some o := fun b hb => by
        obtain ⟨o, u, h1, h2⟩ := O.at_ b hb
        have e1 : addC H s.heap cl b = some (CellO o) := by unfold addC; rw [if_pos hb, h1]; rfl
        have e2 := un.frzs b o _ e1
        exact ⟨o, u, h1, h2, e1, e2, (hok b _ e2).1⟩
      have C : Cells (fun _ => False) H' cl := fun b hb => by
        obtain ⟨o, u, h1, h2, h3, h4, h5⟩ := at_ b hb
        exact ⟨⟨o, u, h4, h2⟩, fun z => z⟩
      have add0 : ∀ {b}, H b = none → ¬ inCl cl b = true → addC H s.heap cl b = none := fun {b} n hb => by unfold addC; rw [if_neg hb]; exact n
      refine ⟨v, drp H' cl, os, bare, ⟨fun b o g n hf hx => ?_, fun b o g n hf hx => ?_, fun b o g n hx => ?_, un.there, fun b xs q => ?_, fun b o u q => ?_, fun b ps q => ?_⟩, HOk.drp C hok, r, q fun b hb => ?_⟩
      · by_cases hb : inCl cl b = true
        · obtain ⟨o', u, h1, h2, h3, h4, h5⟩ := at_ b hb
          rw [g] at h1
          cases h1
          exact h5
        · exact un.keep b o g (add0 n hb) hf hx
      · exact un.slot b o g (add0 n fun hb => O.stack I hb hf) hf hx
      · by_cases hb : inCl cl b = true
        · exact drp_in hb
        · rw [drp_no hb]; exact un.free b o g (add0 n hb) hx
      · have e := un.tups b xs (O.keep b _ q)
        rw [drp_no (C.ne e (by intro _ z; cases z))]; exact e
      · have e := un.frzs b o u (O.keep b _ q)
        rw [drp_no fun hb => by rw [O.no b hb] at q; cases q]; exact e
      · obtain ⟨more, e⟩ := un.tbls b ps (O.keep b _ q)
        exact ⟨more, by rw [drp_no (C.ne e (by intro _ z; cases z))]; exact e⟩
      · obtain ⟨o, u, h1, h2, h3, h4, h5⟩ := at_ b hb
        rw [h4, h3]
end
section
variable {X : Cx} {pins : List (Addr × Obj)} {σ : L2.St} {H H1 H' : Hp} {s : Shared} {N N' : NS} {cl : List (Str × Addr)} {K : Kw} {Fa Ca : Nat → Addr} {pr : List (Nat × Addr)} {W : WX} {G : Gs} {r : En} {v : V} {d : D}
theorem drp_ext (O : OwnC X H s cl) (hN : ∀ b, N b → H b ≠ none) (E : Ext (fun _ => False) N (addC H s.heap cl) N' H') (t : ∀ b, N' b → Mut (H' b)) (hst : ∀ b, inCl cl b = true → H' b = addC H s.heap cl b) (tb : TabO N H) :
    Ext (fun _ => False) N H N' (drp H' cl) ∧ (∀ b, N' b → Mut (drp H' cl b)) ∧ Cells N' H' cl := by
  have C0 := O.cells hN
  have C : Cells N' H' cl := fun b hb => by
    obtain ⟨⟨o, u, h1, h2⟩, _⟩ := C0 b hb
    have e := hst b hb
    rw [h1] at e
    refine ⟨⟨o, u, e, h2⟩, fun z => ?_⟩
    have m := t b z
    rw [e] at m
    exact m
  refine ⟨⟨fun b o h _ k => ?_, fun h => ?_, fun b z => ?_, E.stay, fun _ z => z.elim, fun b h => ?_⟩, fun b z => ?_, C⟩
  · rw [drp_no fun hb => by rw [O.no b hb] at h; cases h]
    exact E.keep b o (O.keep b o h) (fun z => z) k
  · have := E.tab (h.ext (fun b o e _ => O.keep b o e) fun _ z => .inl z)
    intro p hp
    obtain ⟨ps, h1, h2, h3⟩ := this p hp
    refine ⟨ps, by rw [drp_no (C.ne h1 (by intro _ z; cases z))]; exact h1, h2, fun pos cv hc => ?_⟩
    obtain ⟨c, e1, e2, e3⟩ := h3 pos cv hc
    exact ⟨c, e1, by rw [drp_no (C.ne e2 (by intro ob z; unfold LamX.CodeO at z; cases z))]; exact e2, e3⟩
  · exact (E.new b z).elim .inl fun q => .inr (O.none_ q).2
  · cases e : H b with
    | none => exact absurd e h
    | some o =>
      rw [drp_no fun hb => by rw [O.no b hb] at e; cases e]
      exact E.there b (by rw [O.keep b o e]; simp)
  · rw [drp_no fun hb => (C b hb).2 z]
    exact t b z
theorem ResR.drp {N0 : NS} {o : Bool} (C : Cells N' H' cl) (t : ∀ b, N' b → Mut (H' b)) (h : ResR K N0 N' H' v o d) : ResR K N0 N' (E2.drp H' cl) v o d := by
  cases o with
  | false => exact Rp.keepC (Fc.drp C) t h
  | true =>
    obtain ⟨a, h1, h2, h3, h4⟩ := h
    refine ⟨a, h1, h2, ?_, h4⟩
    have no : ∀ {o}, H' a = some o → (∀ ob, o ≠ CellO ob) → E2.drp H' cl a = some o := fun {o} e n => by rw [drp_no (C.ne e n)]; exact e
    cases d with
    | list ds =>
      obtain ⟨xs, q1, q2⟩ := h3
      exact ⟨xs, no q1 (by intro _ z; cases z), q2.keepC (Fc.drp C) t⟩
    | dict ds =>
      rcases h3 with ⟨xs, q1, q2⟩ | ⟨ob, kvs, q1, q0, q2⟩
      · exact .inl ⟨xs, no q1 (by intro _ z; cases z), q2.keepC (Fc.drp C) t⟩
      · exact .inr ⟨ob, kvs, no q1 (by intro _ z; cases z), q0, q2.keepC (Fc.drp C) t⟩
    | _ => exact h3
def lamNs : List LA → List Str
  | [] => []
  | .l k _ :: as => Tbs.fr k ++ lamNs as
  | _ :: as => lamNs as
theorem lamNs_mem : ∀ {as : List LA} {y : Str}, y ∈ lamNs as → ∃ k caps, LA.l k caps ∈ as ∧ y ∈ Tbs.fr k
  | .l k caps :: as, y, h => by
    rcases List.mem_append.mp h with h | h
    · exact ⟨k, caps, List.mem_cons_self, h⟩
    · obtain ⟨k', caps', h1, h2⟩ := lamNs_mem h
      exact ⟨k', caps', List.mem_cons_of_mem _ h1, h2⟩
  | .v _ :: as, y, h => by obtain ⟨k', caps', h1, h2⟩ := lamNs_mem (as := as) h; exact ⟨k', caps', List.mem_cons_of_mem _ h1, h2⟩
  | .c _ :: as, y, h => by obtain ⟨k', caps', h1, h2⟩ := lamNs_mem (as := as) h; exact ⟨k', caps', List.mem_cons_of_mem _ h1, h2⟩
  | .g _ :: as, y, h => by obtain ⟨k', caps', h1, h2⟩ := lamNs_mem (as := as) h; exact ⟨k', caps', List.mem_cons_of_mem _ h1, h2⟩
  | .f _ :: as, y, h => by obtain ⟨k', caps', h1, h2⟩ := lamNs_mem (as := as) h; exact ⟨k', caps', List.mem_cons_of_mem _ h1, h2⟩
theorem lamNs_in : ∀ {as : List LA} {k : Nat} {caps : List Nat} {y : Str}, LA.l k caps ∈ as → y ∈ Tbs.fr k → y ∈ lamNs as
  | a :: as, k, caps, y, h, hy => by
    rcases List.mem_cons.mp h with e | h
    · subst e
      exact List.mem_append_left _ hy
    · have := lamNs_in h hy
      cases a with
      | l k' c' => exact List.mem_append_right _ this
      | _ => exact this
theorem laVs_mem {ags : List Ag} : ∀ {as : List LA}, laVs G r as = some ags → ∀ a ∈ as, ∃ x, laV G r a = some x := by
  intro as
  induction as generalizing ags with
  | nil => intro _ a h; cases h
  | cons a as ih =>
    intro e b hb
    simp only [laVs] at e
    split at e
    · rename_i x ex
      obtain ⟨xs, e1, _⟩ := Option.map_eq_some_iff.mp e
      rcases List.mem_cons.mp hb with rfl | hb
      · exact ⟨x, ex⟩
      · exact ih e1 b hb
    · cases e
theorem capsD_at : ∀ {caps : List Nat} {ds : List D}, capsD r caps = some ds → ∀ j ∈ caps, ∃ d, r[j]? = some (some (.dat false d))
  | i :: is, ds, e, j, hj => by
    simp only [capsD] at e
    split at e
    · rename_i d ei
      obtain ⟨xs, e1, _⟩ := Option.map_eq_some_iff.mp e
      rcases List.mem_cons.mp hj with rfl | hj
      · exact ⟨d, ei⟩
      · exact capsD_at e1 j hj
    · cases e
/-- a captured slot's cell: what it holds stands for the slot's data -/
theorem cap_cell (I : Inv X pins σ H1 s) (g : Good K Fa pr r σ N H) {j : Nat} {d : D} {y : Str} (hj : r[j]? = some (some (.dat false d))) (hN : X.N[j]? = some y) (hk : X.env.scope.names.lookup y = some .cell ∨ X.env.scope.names.lookup y = some .free) :
    ∃ (c : Addr) (u : Value) (w : V), X.env.cells.lookup y = some c ∧ s.heap.IsCell c (some u) ∧ RelV w u ∧ Rp K N H w d := by
  obtain ⟨w, h1, h2⟩ := g.slot j _ hj
  obtain ⟨m, _, hl⟩ := I.loc
  obtain ⟨u, h3, h4⟩ := hl j y w hN h1 (.inr hk)
  rcases h4 with ⟨h5, _⟩ | ⟨_, c, h6, h7⟩
  · have h5 : X.env.scope.names.lookup y = some .local := h5
    rcases hk with k | k <;> rw [k] at h5 <;> cases h5
  · exact ⟨c, u, w, h6, h7, h3, h2⟩
theorem own_of {as : List LA} {ags : List Ag} (I : Inv X pins σ H1 s) (g : Good K Fa pr r σ N H) (e : laVs G r as = some ags) (hfn : ∀ y, X.fn y = true) (hc : ∀ k caps, LA.l k caps ∈ as → ∃ scope, LCap X scope k caps) : OwnC X H1 s (capCl X (lamNs as)) := by
  have look : ∀ b, inCl (capCl X (lamNs as)) b = true → ∃ y, X.env.cells.lookup y = some b ∧ ∃ k caps, LA.l k caps ∈ as ∧ y ∈ Tbs.fr k := fun b hb => by
    obtain ⟨y, hy⟩ := inCl_iff.mp hb
    obtain ⟨h1, h2⟩ := capCl_mem (PySem.mem_of_lookup hy)
    exact ⟨y, h2, lamNs_mem h1⟩
  refine ⟨fun b hb => ?_, fun b hb => ?_, fun b hb => ?_, fun b hb => ?_⟩
  · obtain ⟨y, h1, k, caps, h2, h3⟩ := look b hb
    obtain ⟨scope, L⟩ := hc k caps h2
    obtain ⟨x, ex⟩ := laVs_mem e _ h2
    simp only [laV] at ex
    obtain ⟨ds, ed, _⟩ := Option.map_eq_some_iff.mp ex
    have hm : (some y) ∈ caps.map (fun j => X.N[j]?) := by rw [L.at_]; exact List.mem_map.mpr ⟨y, h3, rfl⟩
    obtain ⟨j, hj, hjy⟩ := List.mem_map.mp hm
    obtain ⟨d, hd⟩ := capsD_at ed j hj
    obtain ⟨c, u, w, q1, ⟨o, q2, q2'⟩, _⟩ := cap_cell I g hd hjy (L.free (y, .free) (L.all y h3) rfl).2
    rw [h1] at q1
    cases q1
    exact ⟨o, u, q2, q2'⟩
  · obtain ⟨y, h1, _⟩ := look b hb
    exact I.freeC y b h1
  · obtain ⟨y, h1, _⟩ := look b hb
    exact I.ok.cab y b (hfn y) h1
  · obtain ⟨y, h1, _⟩ := look b hb
    exact I.cne y b h1
theorem cla_of {as : List LA} {scope : Scope} (I : Inv X pins σ H1 s) (g : Good K Fa pr r σ N H) (O : OwnC X H1 s (capCl X (lamNs as))) (fz : Fz N H N (addC H1 s.heap (capCl X (lamNs as)))) {cl : List (Str × Addr)} (hcl : ∀ y c, X.env.cells.lookup y = some c → (y, NameKind.free) ∈ scope.names → cl.lookup y = some c) :
    ∀ {caps : List Nat} {fr : List Str} {ds : List D}, capsD r caps = some ds → caps.map (fun j => X.N[j]?) = fr.map some → (∀ y ∈ fr, (y, NameKind.free) ∈ scope.names ∧ y ∈ lamNs as ∧ (X.env.scope.names.lookup y = some .cell ∨ X.env.scope.names.lookup y = some .free)) →
      ClA K N (addC H1 s.heap (capCl X (lamNs as))) cl fr ds
  | [], [], ds, e, _, _ => by simp only [capsD] at e; cases e; trivial
  | [], _ :: _, _, _, h, _ => by simp at h
  | _ :: _, [], _, _, h, _ => by simp at h
  | j :: js, y :: ys, ds, e, h, hy => by
    simp only [capsD] at e
    split at e
    · rename_i d ed
      obtain ⟨ds', e1, e2⟩ := Option.map_eq_some_iff.mp e
      subst e2
      simp only [List.map_cons, List.cons.injEq] at h
      obtain ⟨h1, h2, h3⟩ := hy y List.mem_cons_self
      obtain ⟨c, u, w, q1, ⟨o, q2, q3⟩, q4, q5⟩ := cap_cell I g ed h.1 h3
      have hin : inCl (capCl X (lamNs as)) c = true := inCl_iff.mpr ⟨y, capCl_look h2 q1⟩
      refine ⟨⟨c, o, u, w, hcl y c q1 h1, ?_, q3, q4, q5.keep fz g.trk⟩, cla_of I g O fz hcl e1 h.2 fun z hz => hy z (List.mem_cons_of_mem _ hz)⟩
      unfold addC
      rw [if_pos hin, q2]; rfl
    · cases e
theorem ags_of {as0 : List LA} (hK : X.kw = K) (I : Inv X pins σ H1 s) (g : Good K Fa pr r σ N H) (O : OwnC X H1 s (capCl X (lamNs as0))) (hN : ∀ b, N b → H1 b ≠ none) (fz : Fz N H N (addC H1 s.heap (capCl X (lamNs as0)))) (k1 : ∀ b o, H1 b = some o → addC H1 s.heap (capCl X (lamNs as0)) b = some o) :
    ∀ {as : List LA} {vs : List V} {ags : List Ag}, (∀ a ∈ as, a ∈ as0) → ArgFs X Fa G σ N H1 vs as → laVs G r as = some ags → AgsR K Fa N (addC H1 s.heap (capCl X (lamNs as0))) vs ags ∧ refAd vs ags = []
  | [], [], ags, _, _, e => by simp only [laVs] at e; cases e; exact ⟨trivial, rfl⟩
  | [], _ :: _, _, _, h, _ => h.elim
  | _ :: _, [], _, _, h, _ => h.elim
  | a :: as, v :: vs, ags, hs, h, e => by
    simp only [laVs] at e
    split at e
    · rename_i x ex
      obtain ⟨ags', e1, e2⟩ := Option.map_eq_some_iff.mp e
      subst e2
      obtain ⟨q1, q2⟩ := ags_of hK I g O hN fz k1 (fun b hb => hs b (List.mem_cons_of_mem _ hb)) h.2 e1
      have hx : AgR K Fa N (addC H1 s.heap (capCl X (lamNs as0))) v x ∧ ∀ d, x ≠ .rf d := by
        cases a with
        | v i =>
          simp only [laV] at ex
          have hv : σ[i]? = some (some v) := h.1
          split at ex
          · rename_i d ei
            cases ex
            obtain ⟨v', p1, p2⟩ := g.slot i _ ei
            rw [hv] at p1
            cases p1
            exact ⟨Rp.keep fz g.trk p2, by intro _ z; cases z⟩
          · rename_i k ds ei
            cases ex
            obtain ⟨v', p1, p2⟩ := g.slot i _ ei
            rw [hv] at p1
            cases p1
            exact ⟨FnR.keep p2 fz g.trk, by intro _ z; cases z⟩
          · cases ex
        | c d =>
          simp only [laV] at ex
          cases ex
          exact ⟨h.1 K _ _, by intro _ z; cases z⟩
        | g gi =>
          simp only [laV] at ex
          obtain ⟨dd, p1, p2⟩ := Option.map_eq_some_iff.mp ex
          subst p2
          obtain ⟨dd', p3, p4⟩ := h.1
          rw [p1] at p3
          cases p3
          subst hK
          exact ⟨p4 _ _, by intro _ z; cases z⟩
        | f k =>
          simp only [laV] at ex
          cases ex
          exact ⟨.inl ⟨h.1.1, rfl, h.1.2⟩, by intro _ z; cases z⟩
        | l k caps =>
          simp only [laV] at ex
          obtain ⟨ds, p1, p2⟩ := Option.map_eq_some_iff.mp ex
          subst p2
          obtain ⟨q, params, body, scope, f, c, h0, h1, h2, h3, h4, h5, h6, L⟩ := h.1
          have hm := hs (.l k caps) List.mem_cons_self
          have hfr : ∀ y ∈ scope.names, y.2 = .free → ∃ c, X.env.cells.lookup y.1 = some c := fun y hy e => (L.free y hy e).2.elim (fun z => I.ok.has _ (.inl z)) fun z => I.ok.has _ (.inr z)
          have Cs := O.cells hN
          refine ⟨.inr ⟨q, params, body, scope, f, c, cloFrom X.env.cells scope.names [], ?_, h0, h1, h2, k1 _ _ h3, h4, k1 _ _ h5, h6, ⟨fun x y c e1 e2 => I.ok.inj x y c (NdefX.clo_cm hfr e1) (NdefX.clo_cm hfr e2), fun y c e => ?_, cla_of I g O fz (fun y c hc hy => NdefX.clo_has hfr hy hc) p1 L.at_ fun y hy => ⟨L.all y hy, lamNs_in hm hy, (L.free (y, .free) (L.all y hy) rfl).2⟩⟩⟩, by intro _ z; cases z⟩
          · intro z
            subst z
            cases caps with
            | nil => exact L.ne rfl
            | cons j js =>
              simp only [capsD] at p1
              split at p1
              · obtain ⟨_, _, z⟩ := Option.map_eq_some_iff.mp p1
                cases z
              · cases p1
          · have hc := NdefX.clo_cm hfr e
            have hy : (y, NameKind.free) ∈ scope.names := by
              rcases cloFrom_mem (PySem.mem_of_lookup e) with z | ⟨z, _⟩
              · cases z
              · exact z
            have hin : inCl (capCl X (lamNs as0)) c = true := inCl_iff.mpr ⟨y, capCl_look (lamNs_in hm (L.free _ hy rfl).1) hc⟩
            obtain ⟨⟨o, u, z1, z2⟩, z3⟩ := Cs c hin
            exact ⟨o, u, z1, z2, z3⟩
      refine ⟨⟨hx.1, q1⟩, ?_⟩
      rw [refAd_no hx.2]
      exact q2
    · cases e
theorem argFs_cap {as : List LA} : ∀ {vs : List V}, ArgFs X Fa G σ N H vs as → ∀ k caps, LA.l k caps ∈ as → ∃ scope, LCap X scope k caps := by
  induction as with
  | nil => intro vs _ k caps h; cases h
  | cons a as ih =>
    intro vs h k caps hm
    cases vs with
    | nil => exact h.elim
    | cons v vs =>
      rcases List.mem_cons.mp hm with e | hm
      · subst e
        obtain ⟨_, _, _, scope, _, _, _, _, _, _, _, _, _, L⟩ := h.1
        exact ⟨scope, L⟩
      · exact ih h.2 k caps hm
theorem argFs_len : ∀ {vs : List V} {as : List LA}, ArgFs X Fa G σ N H vs as → vs.length = as.length
  | [], [], _ => rfl
  | _ :: _, _ :: _, h => congrArg (· + 1) (argFs_len h.2)
  | [], _ :: _, h => h.elim
  | _ :: _, [], h => h.elim
/-- a def called with lambdas -/
theorem fe_callL {k kr : Nat} {fd : FuncData} {ps : List Str} {as : List LA} {x : Str} {p pos : Pos} {e : Expr} {es : List Expr} (hK : X.kw = K) (hfn : ∀ y, X.fn y = true) (F : FD X K Fa Ca G kr k fd ps) (hr : Room kr X.A) (hg : Gl X x) (hm : X.mg x = some (.ref (Fa k))) (hdb : (x == ("__debug__" : Str)) = false) (hp : (e :: es).all plainX = true)
    (h1 : PA X (e :: es) (tAts X Fa G as)) : PE X (.Call (.Name x p) (e :: es) [] pos) (tE K Fa Ca pr W (evE G (.callL k as))) := by
  simp only [List.all_cons, Bool.and_eq_true] at hp
  refine ⟨fun pins s σ H Q I ⟨r, N, g, h⟩ => wpAny_Call_Name_kw (ld_glob I hg hm ?_ hdb)⟩
  simp only [evE] at h
  split at h
  · rename_i hsig
    cases ea : laVs G r as with
    | none => simp only [ea] at h; exact h.elim
    | some ags =>
      simp only [ea] at h
      cases ec : G.call k ags with
      | fn k' l refs => simp only [ec] at h; exact h.elim
      | exc x' refs => simp only [ec] at h; exact h.elim
      | stuck => simp only [ec] at h; exact h.elim
      | ok o d refs =>
        simp only [ec] at h
        have sl : ∀ i, LA.v i ∈ as → ∃ v, σ[i]? = some (some v) := fun i hi => by
          obtain ⟨x', ex⟩ := laVs_mem ea _ hi
          simp only [laV] at ex
          split at ex
          · rename_i d ei
            obtain ⟨v, z, _⟩ := g.slot i _ ei
            exact ⟨v, z⟩
          · rename_i k' ds ei
            obtain ⟨v, z, _⟩ := g.slot i _ ei
            exact ⟨v, z⟩
          · cases ex
        have hN0 : ∀ b, N b → H b ≠ none := fun b z => mutSome (g.trk b z)
        refine PySem.W.callWith_K (h₀ := X.base) I.ok.mod.kin F.keep (thn (h1.run pos pins s σ H (fun vs H1 => Gro N H H1 ∧ ArgFs X Fa G σ N H1 vs as) I ⟨N, g.tab, hN0, sl, fun vs H1 gr af => ⟨gr, af⟩⟩) fun us s1 ⟨vs, H1, I1, rv, gr, af⟩ => ⟨I1.kIn, ?_⟩) (star_cons hp.1) (back_any hp.2)
        have hN1 : ∀ b, N b → H1 b ≠ none := fun b z e => hN0 b z (gr.nn b e)
        have O := own_of I1 g ea hfn (argFs_cap af)
        have k1 := O.keep
        have fz : Fz N H N (addC H1 s1.heap (capCl X (lamNs as))) := fun b o e n t => ⟨k1 b o (gr.keep b o e t), n⟩
        obtain ⟨q1, q2⟩ := ags_of hK I1 g O hN1 fz k1 (fun _ h => h) af ea
        have g1 : Good K Fa pr r σ N H1 := g.ext0 gr.ext (gr.trk g.trk)
        have res := PostG.res h g (g.stp0 gr.ext) g1
        have t1 : ∀ b, N b → Mut (addC H1 s1.heap (capCl X (lamNs as)) b) := fun b z => by
          have m := gr.trk g.trk b z
          cases e : H1 b with
          | none => rw [e] at m; exact m.elim
          | some o' => rw [k1 b o' e]; rw [e] at m; exact m
        have sp : spec K Fa Ca ps.length (G.call k) vs (addC H1 s1.heap (capCl X (lamNs as))) (fun v H' => (∀ b, inCl (capCl X (lamNs as)) b = true → H' b = addC H1 s1.heap (capCl X (lamNs as)) b) → Q v (drp H' (capCl X (lamNs as)))) (fun _ _ _ => False) := by
          refine ⟨ags, N, by rw [argFs_len af, hsig.2, F.np], q1, by rw [q2]; exact List.nodup_nil, t1, gr.tab.ext (fun b o e _ => k1 b o e) (fun _ z => .inl z), ?_⟩
          rw [ec, q2]
          intro v H' N' E t q _ hst
          have E' : Ext (fun _ => False) N (addC H1 s1.heap (capCl X (lamNs as))) N' H' := ⟨fun b o h _ k => E.keep b o h (by simp) k, E.tab, E.new, fun b h _ => E.stay b h (by simp), fun _ z => z.elim, E.there⟩
          obtain ⟨E2, t2, C2⟩ := drp_ext O hN1 E' t hst gr.tab
          exact res v _ N' E2 t2 (q.drp C2 t)
        have bd := F.binds s1 us I1.kIn (by rw [List.append_nil, ← rv.length, argFs_len af, hsig.2, F.np])
        rw [List.append_nil] at bd
        refine wpAny_call (codeAny_mono (F.ok.run X.A X.stack s1 _ ⟨us, []⟩ us vs _ _ hr (O.env0 I1) bd rv sp) fun rr s2 hq => ?_)
        have hq := O.back I1 hq
        cases rr with
        | error e =>
          obtain ⟨_, _, _, _, _, _, _, _, _, _, _, _, z⟩ := hq
          exact z.elim
        | ok fl =>
          cases fl with
          | ret u => exact I1.after hq
          | next => exact False.elim hq
          | brk => exact False.elim hq
          | cont => exact False.elim hq
  · exact h.elim
end
end E2

set_option Elab.async false
set_option linter.all false
set_option maxRecDepth 100000
set_option maxHeartbeats 2000000
namespace E2
variable [Tbs]
open PySem PySem.Spec PyProof.Rows L2
/-! ## {k: v} -/
theorem one_dict {prog : Program} {w : World} {A : Around} {E Q : Value → Shared → Prop} {s : Shared} {env : Env} {k v : Expr} {pos : Pos}
    (h : wpAny (model prog w) A (eval k env) (fun kv s1 => wpAny (model prog w) A (eval v env) (fun vv s2 => wpAny (model prog w) A (dictSet s.heap.objs.size kv vv) (fun _ s3 => Q (.ref s.heap.objs.size) s3) E s2) E s1) E
      { s with heap := s.heap.push { cls := .type "dict", data := .dict #[] } }) : wpAny (model prog w) A (eval (.Dict [some k] [v] pos) env) Q E s := by
  rw [arm_eval_Dict, zip_pairTrees _ _ _ _ rfl rfl, dictDisplay_pairs _ (by simp [pairTrees]) (by simp [pairTrees])]
  refine wpAny_bind (wpAny_standAt (wpAny_bind ?_))
  unfold subDict
  refine wpAny_bind (wpAny_alloc (wpAny_bind (wpAny_holding ?_)))
  rw [if_pos (by simp [pairTrees])]
  refine wpAny_bind (pairTrees_cons_walk (wpAny_mono h (fun kv s1 h1 => wpAny_mono h1 (fun vv s2 h2 => pairTrees_nil_walk (wpAny_holding ?_)) fun _ _ e => e) fun _ _ e => e))
  refine wpAny_bind ?_
  rw [List.forIn_cons]
  refine wpAny_bind (wpAny_bind (wpAny_mono h2 (fun _ s3 h3 => wpAny_pure ?_) fun _ _ e => e))
  show wpAny _ _ (forIn [] PUnit.unit _) _ _ _
  rw [List.forIn_nil]
  exact wpAny_pure (wpAny_pure (wpAny_pure (wpAny_pure h3)))
section
variable {K : Kw} {Fa Ca : Nat → Addr} {pr : List (Nat × Addr)} {W : WX} {r r1 r' : En} {σ : L2.St} {N N1 N' : NS} {H H1 H' : Hp} {v : V} {d : D} {a : Addr} {X : Cx} {G : Gs} {pos : Pos}
/-- into an empty dict -/
theorem dnew_any {pins : List (Addr × Obj)} {s : Shared} {E : Value → Shared → Prop} {u z : Value} {y x : V} {k e : D} {Q : Unit → Shared → Prop} (hK : X.kw = K) (hu : X.A.units + 65 < cLine) (I : Inv X pins σ H s)
    (hd : H a = some (.dK [])) (tr : ∀ b, N b → Mut (H b)) (hy : Rp K N H y k) (ry : RelV y u) (hx : Rp K N H x e) (rx : RelV x z) (hk : (flatK k || tupK k) = true)
    (h : ∀ o s', Mut (some o) → Inv X pins σ (upd H a o) s' → (∀ N', Fz N H N' (upd H a o) → RpM K N' (upd H a o) a (.dict [(k, e)])) → Q () s') : wpAny (model X.prog X.w) X.A (dictSet a u z) Q E s := by
  have e1 : dPut [] k e = [(k, e)] := by unfold dPut; simp
  rw [Bool.or_eq_true] at hk
  rcases hk with hk | hk
  · obtain ⟨q, rfl⟩ := flatK_key hk
    have ey : y = kV q := DR.key (.inl hy)
    subst ey
    obtain ⟨z0, hs, vs, rel, dd⟩ := dk_of I.hok hd
    have hz : vs.length ≤ sizeLine := by rw [← rel.length]; exact z0
    refine wpAny_dictSet_pairs (hsz := hz) (kV_is ry) dd fun h' dd' hsb => ?_
    have he : ∃ q, h'.get? a = some q := let ⟨q, _, _, hq, _⟩ := dd'; ⟨q, hq⟩
    refine h (.dK (putK [] q x)) _ trivial (d_write I (by rw [hd]; exact True.intro) hsb he (dk_new (by have := length_putK [] q x; rw [sizeLine_eq]; simp at this; omega) hs (rel.put q rx) dd')) fun N' st => ?_
    rw [← e1]
    exact .inl ⟨_, upd_same, (RpK.put q hx .nil).keep st tr⟩
  · obtain ⟨q, rfl, hq⟩ := tupK_key hk
    obtain ⟨b, rfl, hb⟩ := DR.tkey (.inl hy)
    cases ry
    obtain ⟨ks, dd, ns, rt, hl, mu⟩ := (show DicR K N H a [] from .inl ⟨[], hd, .nil⟩).tup I hK rfl
    refine wpAny_dictSet_heap (knd := nestedKind X.prog X.w) (hsz := hl) (show X.A.units + 8 < cLine by omega) ⟨hb.nested I hK _ _ _ rfl, hq⟩ dd (fun h' dd' sb => ?_)
    have rp := rt.put (.tup q) hq hb rx hx
    have ln : (storedH ks (.tup q) b z).length ≤ sizeLine := by
      have e1 : ks.length = 0 := rt.length
      unfold storedH
      split
      · rw [List.length_map]; exact hl
      · rw [List.length_append, e1, sizeLine_eq]; simp
    obtain ⟨o, hdo, I'⟩ := wroteT (tk := s.toks + (nestedKind X.prog X.w).draws (.tup q)) I hK mu ns ln (storedH_ne ks _ _ _) dd' sb
    refine h (isO a o) _ trivial I' fun N' st => ?_
    rw [← e1]
    exact .inr ⟨o, _, upd_same, hdo, rp.keep st tr⟩
theorem fe_dic1 {ck cv : CE} {k v : Expr} (hK : X.kw = K) (hu : X.A.units + 65 < cLine) (h1 : PE X k (tE K Fa Ca pr W (evE G ck))) (h2 : PE X v (tE K Fa Ca pr W (evE G cv))) : PE X (.Dict [some k] [v] pos) (tE K Fa Ca pr W (evE G (.dic1 ck cv))) := by
  refine ⟨fun pins s σ H Q I ⟨r, N, g, h⟩ => one_dict ?_⟩
  simp only [evE] at h
  have hp : H s.heap.objs.size = none := I.hok.fresh (Nat.le_refl _)
  have I1 := I.laid (a := s.heap.objs.size) (o := .dK []) (h' := s.heap.push { cls := .type "dict", data := .dict #[] }) (t' := s.toks) (fun _ _ q => Heap.get?_push_of_some _ q) (Nat.le_refl _) (dk_empty s.heap I.big)
  have E0 : Ext (fun _ => False) N H (fun b => N b ∨ b = s.heap.objs.size) (upd H s.heap.objs.size (.dK [])) := ext_newL hp fun _ z => z.elim
  have g0 := g.ext0 E0 (trk_newL hp trivial g.trk)
  have nO : ¬ own r σ s.heap.objs.size := g.noOwn hp
  refine thn (h1.run pins _ σ _ _ I1 (tG_bind (rel := relE K Fa) g (g.stp0 E0) g0 h)) fun ku s2 ⟨kv, H2, I2, rk, x, r1, N2, t1, s1, g1, ⟨q1, f1⟩, p1⟩ => ?_
  refine thn (h2.run pins s2 σ H2 _ I2 (tG_bind (rel := relE K Fa) g s1 g1 p1)) fun vu s3 ⟨vv, H3, I3, rv, y, r2, N3, t2, s2', g2, ⟨q2, f2⟩, p2⟩ => ?_
  cases et : takes r2 [x, y] with
  | none => simp only [et] at p2; exact p2.elim
  | some dr =>
    obtain ⟨ds, r3⟩ := dr
    simp only [et] at p2
    split at p2
    · rename_i kk w r3' e3
      cases e3
      split at p2
      · rename_i hk
        have rl : relL K Fa [x, y] r (fun b => N b ∨ b = s.heap.objs.size) r2 σ N3 H3 [kv, vv] := relL_cons t1 g1 q1 f1 t2 (relL_cons t2 g2 q2 f2 (Stp.refl g2) ⟨trivial, fun a z => absurd z (by simp [frA]), by simp [frA]⟩)
        obtain ⟨l1, l2, l3⟩ := rl
        obtain ⟨N4, g3, s4, q3, _⟩ := takes_ok g0 (dr := ([kk, w], r3)) (t1.trans g0 t2) l1 l3 l2 g2 et
        obtain ⟨qk, qv⟩ : Rp K N4 H3 kv kk ∧ Rp K N4 H3 vv w := by
          cases q3 with
          | cons a b => cases b with
            | cons b _ => exact ⟨a, b⟩
        have hD : H3 s.heap.objs.size = some (.dK []) := s4.ext.keep _ _ upd_same nO (by intro _ z; cases z)
        have nD : N4 s.heap.objs.size := s4.ext.stay _ (.inr rfl) nO
        have nO3 : ¬ own r3 σ s.heap.objs.size := fun z => nO (s4.own _ z)
        refine dnew_any hK hu I3 hD g3.trk qk rk qv rv hk fun o s5 mo I5 rm => ⟨.ref s.heap.objs.size, _, I5, rfl, ?_⟩
        have fz : Fz N4 H3 N4 (upd H3 s.heap.objs.size o) := fun b u e n _ => ⟨by rw [upd_ne (fun z => n (by rw [z]; exact nD))]; exact e, n⟩
        have sO := (g.stp0 E0).trans g s4
        have E2 : Ext (fun b => b = s.heap.objs.size) N4 H3 N4 (upd H3 s.heap.objs.size o) := ⟨fun b u e n _ => by rw [upd_ne n]; exact e, fun t => tabs_mut nD (g3.trk _ nD) t, fun _ z => .inl z, fun _ z _ => z, fun b z => by rw [show b = _ from z]; exact nD, fun b z => by
          by_cases hb : b = s.heap.objs.size
          · rw [hb, upd_same]; simp
          · rw [upd_ne hb]; exact z⟩
        have t4 : ∀ b, N4 b → Mut (upd H3 s.heap.objs.size o b) := fun b z => by
          by_cases hb : b = s.heap.objs.size
          · rw [hb, upd_same]; exact mo
          · rw [upd_ne hb]; exact g3.trk b z
        refine p2 _ _ N4 ⟨⟨fun b u e n t => ?_, fun t => E2.tab (sO.ext.tab t), sO.ext.new, sO.ext.stay, sO.ext.sub, fun b z => E2.there b (sO.ext.there b z)⟩, sO.own, sO.dat⟩ ⟨g3.len, fun i sv e => ?_, g3.inj, t4, g3.prs, E2.tab g3.tab⟩ ⟨⟨s.heap.objs.size, rfl, nD, rm N4 fz, nO3⟩, fun a e z => ?_⟩
        · rw [upd_ne (ne_of_none e hp)]
          exact sO.ext.keep b u e n t
        · obtain ⟨v', z1, z2⟩ := g3.slot i sv e
          refine ⟨v', z1, z2.ext E2 g3.trk fun a d e1 e2 z => nO3 ⟨i, d, by rw [e, e1], by rw [z1, e2, z]⟩⟩
        · cases e
          have m := g.trk _ z
          rw [hp] at m
          exact m.elim
      · exact p2.elim
    · exact p2.elim
end
end E2

set_option Elab.async false
set_option linter.all false
set_option maxRecDepth 100000
set_option maxHeartbeats 2000000
/-! ## enumerate over a tuple -/
namespace PySem
open AutoSeq1 (wpAny_loadPart')
theorem meetsEnT (l : Addr) (items : Array Value) (n : Nat) (dct : Option Addr) (sl : Array (Option Value)) :
    Meets (Builtin.«enumerate.__new__» ⟨[.type "enumerate", .ref l], []⟩) (fun _ R s => s.heap.get? l = some { cls := .type "tuple", dict := dct, data := .seq items n, slots := sl } ∧
      R (.ok (.ret (.ref (s.heap.push { cls := .type "tuple_iterator", data := .fields #[.ref l, .int 0 0] }).objs.size)))
        { s with heap := (s.heap.push { cls := .type "tuple_iterator", data := .fields #[.ref l, .int 0 0] }).push { cls := .type "enumerate", data := .fields #[.none, .bool false, .ref s.heap.objs.size, rawInt 0, .none, .none] } }) :=
  .of_wp fun prog w A R s h => by
    obtain ⟨h0, g0, d0, t0, os0⟩ := s
    obtain ⟨hl, h⟩ := h
    have sub := sub_enumerate
    have isT : Heap.IsTuple (Shared.heap ⟨h0, g0, d0, t0, os0⟩) l items := ⟨_, hl, rfl, n, rfl⟩
    wp_walk using wpAny_loadPart' hl
    refine wpAny_stack_any fun _ => wpAny_pure ?_
    split
    · rename_i c _ _ _ _ _
      by_cases hc : (c == Value.type "enumerate") = true
      · simp only [hc]
        wp_walk using wpAny_loadPart' hl, wpAny_pyIter_tuple isT
        exact ⟨_, rfl, h⟩
      · simp only [hc]
        wp_walk using wpAny_loadPart' hl, wpAny_pyIter_tuple isT
        exact ⟨_, rfl, h⟩
    · wp_walk using wpAny_loadPart' hl, wpAny_pyIter_tuple isT
      exact ⟨_, rfl, h⟩
theorem callEnT {prog : Program} {w : World} {A : Around} {E : Value → Shared → Prop} {s : Shared} {l : Addr} {items : Array Value} {Q : Value → Shared → Prop} (ht : s.heap.IsTuple l items)
    (h : ∀ h', IsEnum h' (s.heap.objs.size + 1) s.heap.objs.size 0 .none → h'.IsTupleIter s.heap.objs.size l 0 → (∀ b o, s.heap.get? b = some o → h'.get? b = some o) → Q (.ref (s.heap.objs.size + 1)) { s with heap := h' }) :
    wpAny (model prog w) A (call (.type "enumerate") [.ref l]) Q E s := by
  obtain ⟨⟨c, dct, dt, sl⟩, q1, q2, n, q3⟩ := ht
  simp only at q2 q3
  subst q2 q3
  refine callType_new F.called_enumerate (by decide) (F.typeCall_enumerate_1 _) (F.newCall_enumerate_1 _) (fun obj => F.args_object_init_2 obj _) F.entry_enumerate_new (meetsEnT l items n dct sl) ⟨q1, ?_⟩
  generalize hi : ({ cls := .type "tuple_iterator", data := .fields #[.ref l, .int 0 0] } : Obj) = ito
  have sz : (s.heap.push ito).objs.size = s.heap.objs.size + 1 := Heap.size_push ..
  rw [sz]
  have en : IsEnum ((s.heap.push ito).push { cls := .type "enumerate", data := .fields #[.none, .bool false, .ref s.heap.objs.size, rawInt 0, .none, .none] }) (s.heap.objs.size + 1) s.heap.objs.size 0 .none := by
    have z := Heap.get?_push_size (s.heap.push ito) (o := { cls := .type "enumerate", data := .fields #[.none, .bool false, .ref s.heap.objs.size, rawInt 0, .none, .none] }) rfl
    rw [sz] at z
    exact z
  have ii : (s.heap.push ito).get? s.heap.objs.size = some ito := Heap.get?_push_size _ (by subst hi; rfl)
  exact ⟨⟨_, en, rfl⟩, h _ en ⟨ito, Heap.get?_push_of_some _ ii, by subst hi; rfl, by subst hi; rfl⟩ fun b o x => Heap.get?_push_of_some _ (Heap.get?_push_of_some _ x)⟩
end PySem
namespace E2
variable [Tbs]
open PySem PySem.Spec PyProof.Rows L2
def IteT (K : PySem.W.Frag) (a : Addr) : It :=
  ⟨fun i H => ∃ (xs : List V) (x : V), SqT K H a xs ∧ xs[i]? = some x, fun i H v H' => ∃ T x, v = .ref T ∧ H T = none ∧ H' = upd H T (.tup [.int (i : Nat), x]) ∧ ∀ xs, SqT K H a xs → xs[i]? = some x, fun i H => ∃ xs : List V, SqT K H a xs ∧ xs.length ≤ i⟩
theorem turnEnT {P : Program} {w : World} {K : PySem.W.Frag} {elts : List Expr} {kk : Nat} {tpos : Pos} (a e it : Addr) :
    Turn P w K (.Tuple elts kk tpos) (IteT K a) [e, it] e (fun i h => (∃ old, IsEnum h e it ((i : Nat) : Int) old) ∧ h.IsTupleIter it a i ∧ e ≠ it) where
  mem := by simp
  obj := fun i h ⟨⟨old, he⟩, ⟨o, ho, hc, hd⟩, _⟩ b hb => by
    simp only [List.mem_cons, List.not_mem_nil, or_false] at hb
    rcases hb with rfl | rfl
    · exact ⟨_, he, fun v q => nomatch q⟩
    · exact ⟨o, ho, fun v q => by rw [hd] at q; cases q⟩
  keep := fun i h h' ⟨⟨old, he⟩, hi, hne⟩ k => ⟨⟨old, k e (by simp) _ he⟩, hi.at fun o q => k it (by simp) o q, hne⟩
  item := by
    intro X hP hw hK hc i pins s σ H E I hf ⟨⟨old, he⟩, hit, hne⟩ ⟨xs, x, hq, hx⟩
    subst hP hw hK
    obtain ⟨its, rv, p, hz⟩ := I.tuple hq
    obtain ⟨u, hu, ru⟩ := rv.get hx
    have ee : e < s.heap.objs.size := Heap.lt_size he
    have ei : it < s.heap.objs.size := by obtain ⟨_, q, _⟩ := hit; exact Heap.lt_size q
    have ha : a ≠ it := fun z => by
      have q1 := (hf it (by simp)).1
      subst z
      rcases hq with (h | ⟨o, h⟩) | ⟨o, _, _, h, hcl, _⟩
      · rw [h] at q1; cases q1
      · rw [h] at q1; cases q1
      · obtain ⟨o', h2, h3, _⟩ := hit
        rw [I.kIn _ _ h] at h2
        cases h2
        rw [hcl] at h3
        injection h3 with h3
        exact absurd h3 (by decide)
    have hae : e ∉ [it, a] := by
      simp only [List.mem_cons, List.not_mem_nil, or_false, not_or]
      refine ⟨hne, fun z => ?_⟩
      obtain ⟨o, h2, h3, _⟩ := p
      rw [← z, he] at h2
      cases h2
      injection h3 with h3
      exact absurd h3 (by decide)
    have lt : i < its.toArray.size := by
      rw [List.size_toArray]
      exact (List.getElem?_eq_some_iff.mp hu).1
    refine wpAny_pyNext_enum_itemD (Draws.tuple (A := X.A.in1) (I.ok.hd hc) it a ha its.toArray) he ⟨hit, show s.heap.IsTuple a its.toArray from p⟩ lt hne hae fun y h' tk hy ho hst hT hsz hk => ?_
    have ey : y = u := by
      have : its.toArray[i]? = some u := by simpa using hu
      rw [this] at hy
      exact (Option.some.inj hy).symm
    subst ey
    refine ⟨_, rfl, wpAny_letOwnedTupleGo_enum (s := { s with heap := h', toks := tk + 1 }) ho fun h'' he' sb => ?_⟩
    have hT2 : h''.get? s.heap.objs.size = some { cls := .type "tuple", data := .seq #[.int i tk, y] } := (sb.2 _ (Nat.ne_of_gt ee)).trans hT
    have new : ObjOk X.prog X.w (upd H s.heap.objs.size (.tup [.int (i : Nat), x])) h'' s.heap.objs.size (.tup [.int (i : Nat), x]) :=
      ⟨by show 2 ≤ sizeLine; decide, [.int i tk, y], .cons ⟨_, rfl⟩ (.cons ru .nil), _, hT2, rfl, _, rfl⟩
    have I1 := I.turnedNew (t' := tk + 1) (ch := [e, it]) (h' := h'') (fun b ob hb q => (sb.2 b (fun z => hb (by simp [z]))).trans (hk b ob (fun z => hb (by simp [z])) (fun z => hb (by simp [z])) q)) hf (Nat.le_refl _) new
    refine ⟨.ref s.heap.objs.size, _, I1, rfl, ⟨_, x, rfl, I.hok.fresh (Nat.le_refl _), rfl, fun ys hy => by rw [I.tuple_inj hy hq]; exact hx⟩, ⟨⟨y, ?_⟩, hst.1.at fun o q => (sb.2 it (Ne.symm hne)).trans q, hne⟩, fun b hb => ?_⟩
    · have e1 : ((i + 1 : Nat) : Int) = (i : Int) + 1 := by omega
      rw [e1]
      exact he'
    · have hb' : b < s.heap.objs.size := by
        simp only [List.mem_cons, List.not_mem_nil, or_false] at hb
        rcases hb with rfl | rfl <;> assumption
      rw [upd_ne (Nat.ne_of_lt hb')]
      exact (hf b hb).1
  done := by
    intro X hP hw hK hc i pins s σ H E I hf ⟨⟨old, he⟩, hit, hne⟩ ⟨xs, hq, hx⟩
    subst hP hw hK
    obtain ⟨its, rv, p, hz⟩ := I.tuple hq
    obtain ⟨f0, f1, f2, f3, f4, f5⟩ := hf it (by simp)
    have hl := rv.length
    have D : wpAny (model X.prog X.w) X.A (pyNext (.ref e)) (fun r s1 => r = none ∧ Inv X pins σ H s1) E s := by
      have hT : s.TypeIs (.ref e) "enumerate" := ⟨_, he, rfl⟩
      unfold pyNext
      refine wpAny_bind (wpAny_attempt (wpAny_callSpecial?_slot (name := Str.ofString "__next__") hT F.slot_enumerate_next (wpAny_call_entry F.slot_enumerate_next hT F.entry_enumerate_next ?_ (F.args_enumerate_next_1 _))))
      show wpAny _ _ (field (.ref e) 2 >>= _) _ _ _
      refine wpAny_bind (wpAny_field he rfl (x := .ref it) rfl ?_)
      refine wpAny_bind (wpAny_nextOf_tuple_end (I.ok.hd hc) hit (show s.heap.IsTuple a its.toArray from p) (by simp; omega) fun h' x he' ⟨o, ho, hcl⟩ => ?_)
      refine wpAny_bind (wpAny_isInstance (T := "StopIteration") (b := true) ⟨o, ho, hcl⟩ isSubtype_stop ?_)
      exact wpAny_pure ⟨rfl, I.turned (t' := s.toks) (fun b o hb q => he' b o hb q) f0 f1 f3 f4 f5⟩
    exact D
  self := fun A i s Q E ⟨⟨_, he⟩, _⟩ h => wpAny_pyIter_enum he h
end E2

set_option Elab.async false
set_option linter.all false
set_option maxRecDepth 100000
set_option maxHeartbeats 2000000
namespace E2
variable [Tbs]
open PySem PySem.Spec PyProof.Rows L2 RZ
/-! ## iterators -/
section
variable (K : Kw)
/-- an item that a walk gives: as it stands, or in a new pair -/
def ItR (tq : Tg) (N : NS) (H : Hp) (x : V) (H' : Hp) (d : D) : Prop := (H' = H ∧ Rp K N H x d) ∨ ∃ T xs es, (∃ ts, tq = .tup ts) ∧ x = .ref T ∧ H T = none ∧ H' = upd H T (.tup xs) ∧ d = .tuple es ∧ RpA K N H xs es
def WkD (tq : Tg) (J : It) (ds : List D) (N : NS) (H : Hp) : Prop := ∃ (G : Hp → Prop) (Y : Nat → Hp → V → Hp → Prop), Walk J ds.length G Y ∧ ∀ N' H', Fz N H N' H' → G H' ∧ ∀ i x H'' d, Y i H' x H'' → ds[i]? = some d → ItR K tq N' H' x H'' d
def relI (tq : Tg) : Rel (List D) It := fun ds _ _ _ _ N H J => WkD K tq J ds N H
abbrev tIt (tq : Tg) (Fa Ca : Nat → Addr) (pr : List (Nat × Addr)) (W : WX) (f : En → Rs (List D)) : TI := tG K Fa Ca pr W (relI K tq) f
end
section
variable {K : Kw} {Fa Ca : Nat → Addr} {pr : List (Nat × Addr)} {W : WX} {r r1 r' : En} {σ : L2.St} {N N1 N' : NS} {H H1 H' : Hp} {v : V} {d : D} {a : Addr} {α β γ δ : Type} {X : Cx} {G : Gs} {pos : Pos} {tg : Expr} {tq : Tg}
theorem Fz.refl : Fz N H N H := fun _ _ e n _ => ⟨e, n⟩
theorem LsR.fz {xs : List V} (h : LsR K N H a xs) (f : Fz N H N' H') : SqL K.fr H' a xs := by
  rcases h with ⟨h | ⟨o, h⟩, n⟩ | h
  · exact .inl (.inl (f _ _ h n (by intro _ z; cases z)).1)
  · exact .inl (.inr ⟨o, (f _ _ h n (by intro _ z; cases z)).1⟩)
  · exact .inr h
theorem Tp.fz {xs : List V} (h : Tp K H a xs) (t : ∀ b, N b → Mut (H b)) (f : Fz N H N' H') : SqT K.fr H' a xs := by
  rcases h with ⟨o, h, c⟩ | h
  · refine .inl (.inr ⟨o, (f _ _ h (fun z => ?_) (by intro _ z; cases z)).1⟩)
    have := t a z
    rw [h] at this
    exact this
  · exact Tp.sq (H := H') (.inr h)
theorem RpA.fz {xs : List V} {ds : List D} (h : RpA K N H xs ds) (t : ∀ b, N b → Mut (H b)) (f : Fz N H N' H') : RpA K N' H' xs ds := h.keep f t
theorem wk_list {xs : List V} {ds : List D} (h : LsR K N H a xs) (ra : RpA K N H xs ds) (t : ∀ b, N b → Mut (H b)) : WkD K tq (Itl K.fr a) ds N H := by
  refine ⟨_, YAt xs, ra.length ▸ walk_list, fun N' H' f => ⟨h.fz f, fun i x H'' d y e => .inl ⟨y.1, ?_⟩⟩⟩
  obtain ⟨z, h1, h2⟩ := (ra.fz t f).get e
  rw [y.2] at h1
  cases h1
  exact h2
theorem wk_tup {xs : List V} {ds : List D} (h : Tp K H a xs) (ra : RpA K N H xs ds) (t : ∀ b, N b → Mut (H b)) : WkD K tq (Itt K.fr a) ds N H := by
  refine ⟨_, YAt xs, ra.length ▸ walk_tup, fun N' H' f => ⟨h.fz t f, fun i x H'' d y e => .inl ⟨y.1, ?_⟩⟩⟩
  obtain ⟨z, h1, h2⟩ := (ra.fz t f).get e
  rw [y.2] at h1
  cases h1
  exact h2
theorem rngI_length (a b : Int) : (rngI a b).length = (b - a).toNat := by simp [rngI]
theorem rngI_get {a b : Int} {i : Nat} {d : D} (h : (rngI a b)[i]? = some d) : d = .int (a + i) := by
  unfold rngI at h
  rw [List.getElem?_map] at h
  obtain ⟨j, h1, h2⟩ := Option.map_eq_some_iff.mp h
  obtain ⟨h3, h4⟩ := List.getElem?_eq_some_iff.mp h1
  simp at h4
  rw [← h2, ← h4]
theorem wk_range (a b : Int) : WkD K tq (Itr a (b - a).toNat) (rngI a b) N H := by
  refine ⟨fun _ => True, YFn fun i => .int (a + i), rngI_length a b ▸ walk_range, fun N' H' f => ⟨trivial, fun i x H'' d y e => .inl ⟨y.1, ?_⟩⟩⟩
  rw [y.2, rngI_get e]
  exact .int _
theorem enumT_length : ∀ (n : Nat) (ds : List D), (enumT n ds).length = ds.length
  | _, [] => rfl
  | n, d :: ds => congrArg (· + 1) (enumT_length (n + 1) ds)
theorem enumT_get : ∀ {n : Nat} {ds : List D} {i : Nat} {d : D}, (enumT n ds)[i]? = some d → ∃ e, ds[i]? = some e ∧ d = .tuple [.int ((n + i : Nat)), e]
  | _, [], _, _, h => by simp [enumT] at h
  | n, x :: ds, 0, d, h => by
    simp only [enumT, List.getElem?_cons_zero] at h
    cases h
    exact ⟨x, rfl, rfl⟩
  | n, x :: ds, i + 1, d, h => by
    simp only [enumT, List.getElem?_cons_succ] at h
    obtain ⟨e, h1, h2⟩ := enumT_get h
    exact ⟨e, h1, by rw [h2]; congr 4; omega⟩
theorem pairItem (ht : ∃ ts, tq = .tup ts) {xs : List V} {es : List D} {x : V} {H'' : Hp} {d : D} {p q : Nat → Option V} {i : Nat} (y : YPair p q i H' x H'') (f : ∀ u w, p i = some u → q i = some w → ∃ e1 e2, d = .tuple [e1, e2] ∧ Rp K N' H' u e1 ∧ Rp K N' H' w e2) : ItR K tq N' H' x H'' d := by
  obtain ⟨T, u, w, h1, h2, h3, h4, h5⟩ := y
  obtain ⟨e1, e2, h6, h7, h8⟩ := f u w h4 h5
  exact .inr ⟨T, [u, w], [e1, e2], ht, h1, h2, h3, h6, .cons h7 (.cons h8 .nil)⟩
theorem walk_enumT {K : PySem.W.Frag} {xs : List V} : Walk (IteT K a) xs.length (fun H => SqT K H a xs) (YPair (fun i => some (.int (i : Nat))) (fun i => xs[i]?)) :=
  ⟨fun i _ hi q => ⟨xs, xs[i], q, by simp [hi]⟩, fun _ q => ⟨xs, q, Nat.le_refl _⟩, fun i _ _ _ _ q ⟨T, x, h1, h2, h3, h4⟩ => ⟨T, .int (i : Nat), x, h1, h2, h3, rfl, h4 xs q⟩⟩
theorem walk_zipT {K : PySem.W.Frag} {b : Addr} {xs ys : List V} {n : Nat} (hn : n = min xs.length ys.length) : Walk (ItzT K a b) n (fun H => SqT K H a xs ∧ SqT K H b ys) (YPair (fun i => xs[i]?) (fun i => ys[i]?)) :=
  ⟨fun i _ hi q => ⟨xs, ys, xs[i]'(by omega), ys[i]'(by omega), q.1, q.2, by simp [show i < xs.length by omega], by simp [show i < ys.length by omega]⟩, fun _ q => ⟨xs, ys, q.1, q.2, by omega⟩, fun i _ _ _ _ q ⟨T, x, z, h1, h2, h3, h4, h5⟩ => ⟨T, x, z, h1, h2, h3, h4 xs q.1, h5 ys q.2⟩⟩
theorem wk_enumL (ht : ∃ ts, tq = .tup ts) {xs : List V} {ds : List D} (h : LsR K N H a xs) (ra : RpA K N H xs ds) (t : ∀ b, N b → Mut (H b)) : WkD K tq (Ite K.fr a) (enumT 0 ds) N H := by
  refine ⟨_, _, (enumT_length 0 ds).trans ra.length.symm ▸ walk_enum, fun N' H' f => ⟨h.fz f, fun i x H'' d y e => pairItem ht (xs := []) (es := []) y fun u w p q => ?_⟩⟩
  obtain ⟨e1, h1, h2⟩ := enumT_get e
  obtain ⟨z, h3, h4⟩ := (ra.fz t f).get h1
  rw [h3] at q
  cases q
  cases p
  exact ⟨_, e1, by rw [h2, Nat.zero_add], .int _, h4⟩
theorem wk_enumT (ht : ∃ ts, tq = .tup ts) {xs : List V} {ds : List D} (h : Tp K H a xs) (ra : RpA K N H xs ds) (t : ∀ b, N b → Mut (H b)) : WkD K tq (IteT K.fr a) (enumT 0 ds) N H := by
  refine ⟨_, _, (enumT_length 0 ds).trans ra.length.symm ▸ walk_enumT, fun N' H' f => ⟨h.fz t f, fun i x H'' d y e => pairItem ht (xs := []) (es := []) y fun u w p q => ?_⟩⟩
  obtain ⟨e1, h1, h2⟩ := enumT_get e
  obtain ⟨z, h3, h4⟩ := (ra.fz t f).get h1
  rw [h3] at q
  cases q
  cases p
  exact ⟨_, e1, by rw [h2, Nat.zero_add], .int _, h4⟩
theorem zipT_length : ∀ (xs ys : List D), (zipT xs ys).length = min xs.length ys.length
  | [], _ => by simp [zipT]
  | _ :: _, [] => by simp [zipT]
  | x :: xs, y :: ys => by simp only [zipT, List.length_cons, zipT_length xs ys]; omega
theorem zipT_get : ∀ {xs ys : List D} {i : Nat} {d : D}, (zipT xs ys)[i]? = some d → ∃ e f, xs[i]? = some e ∧ ys[i]? = some f ∧ d = .tuple [e, f]
  | [], _, _, _, h => by simp [zipT] at h
  | _ :: _, [], _, _, h => by simp [zipT] at h
  | x :: xs, y :: ys, 0, d, h => by
    simp only [zipT, List.getElem?_cons_zero] at h
    cases h
    exact ⟨x, y, rfl, rfl, rfl⟩
  | x :: xs, y :: ys, i + 1, d, h => by
    simp only [zipT, List.getElem?_cons_succ] at h
    obtain ⟨e, f, h1, h2, h3⟩ := zipT_get h
    exact ⟨e, f, h1, h2, h3⟩
theorem zipV_len {xs ys : List V} {ds es : List D} (r1 : RpA K N H xs ds) (r2 : RpA K N H ys es) : (zipT ds es).length = min xs.length ys.length := by rw [zipT_length, r1.length, r2.length]
theorem wk_zipL (ht : ∃ ts, tq = .tup ts) {b : Addr} {xs ys : List V} {ds es : List D} (h : LsR K N H a xs) (ra : RpA K N H xs ds) (h2 : LsR K N H b ys) (rb : RpA K N H ys es) (t : ∀ b, N b → Mut (H b)) : WkD K tq (Itz K.fr a b) (zipT ds es) N H := by
  refine ⟨_, _, walk_zip (zipV_len ra rb), fun N' H' f => ⟨⟨h.fz f, h2.fz f⟩, fun i x H'' d y e => pairItem ht (xs := []) (es := []) y fun u w p q => ?_⟩⟩
  obtain ⟨e1, e2, h3, h4, h5⟩ := zipT_get e
  obtain ⟨z, h6, h7⟩ := (ra.fz t f).get h3
  obtain ⟨z2, h8, h9⟩ := (rb.fz t f).get h4
  rw [h6] at p
  rw [h8] at q
  cases p
  cases q
  exact ⟨e1, e2, h5, h7, h9⟩
theorem wk_zipT (ht : ∃ ts, tq = .tup ts) {b : Addr} {xs ys : List V} {ds es : List D} (h : Tp K H a xs) (ra : RpA K N H xs ds) (h2 : Tp K H b ys) (rb : RpA K N H ys es) (t : ∀ b, N b → Mut (H b)) : WkD K tq (ItzT K.fr a b) (zipT ds es) N H := by
  refine ⟨_, _, walk_zipT (zipV_len ra rb), fun N' H' f => ⟨⟨h.fz t f, h2.fz t f⟩, fun i x H'' d y e => pairItem ht (xs := []) (es := []) y fun u w p q => ?_⟩⟩
  obtain ⟨e1, e2, h3, h4, h5⟩ := zipT_get e
  obtain ⟨z, h6, h7⟩ := (ra.fz t f).get h3
  obtain ⟨z2, h8, h9⟩ := (rb.fz t f).get h4
  rw [h6] at p
  rw [h8] at q
  cases p
  cases q
  exact ⟨e1, e2, h5, h7, h9⟩

/-! ### the iterators of the program -/
theorem Inv.fresh1 {pins : List (Addr × Obj)} {s : Shared} (I : Inv X pins σ H s) : ∀ b ∈ [s.heap.objs.size], FpOk X pins H b := fun b hb => by
  rw [List.mem_singleton.mp hb]
  exact I.fpOk (Nat.le_refl _) (I.hok.fresh (Nat.le_refl _))
theorem fi_seq {c : CE} {e : Expr} (hK : X.kw = K) (h1 : PE X e (tE K Fa Ca pr W (evE G c))) : PI X tg e (tIt K tq Fa Ca pr W (evI G (.seq c))) := by
  subst hK
  refine ⟨fun pins s σ H R I ⟨r, N, g, h⟩ => ?_⟩
  simp only [evI] at h
  refine thn (h1.run pins s σ H _ I (tG_bind (rel := relE X.kw Fa) g (Stp.refl g) g h)) fun v s1 ⟨x, H1, I1, rx, y, r1, N1, t1, s1', g1, ⟨q1, f1⟩, p1⟩ => ?_
  cases e1 : take r1 y with
  | none => simp only [e1] at p1; exact p1.elim
  | some dr =>
    obtain ⟨d, r2⟩ := dr
    simp only [e1] at p1
    obtain ⟨N2, g2, s2, q2, _⟩ := RR.take (dr := (d, r2)) g s1' q1 f1 g1 e1
    cases d <;> simp only [seqOf] at p1 <;> try exact p1.elim
    · cases q2 with
      | lst hl ra =>
        cases rx
        obtain ⟨its, rv, p, hz⟩ := I1.list hl.sq
        exact wpAny_pyIter_list p.isList ⟨_, [_], _, _, H1, rfl, I1.kept (t' := s1.toks) fun b o e => Heap.get?_push_of_some _ e, turn_list _ _, ⟨_, Heap.get?_push_size _ rfl, rfl, rfl⟩, Inv.fresh1 I1, p1 _ H1 N2 s2 g2 (wk_list hl ra g2.trk)⟩
    · cases q2 with
      | tup hl ra =>
        cases rx
        obtain ⟨its, rv, p, hz⟩ := I1.tuple hl.sq
        exact wpAny_pyIter_tuple (show s1.heap.IsTuple _ its.toArray from p) ⟨_, [_], _, _, H1, rfl, I1.kept (t' := s1.toks) fun b o e => Heap.get?_push_of_some _ e, turn_tuple _ _, ⟨_, Heap.get?_push_size _ rfl, rfl, rfl⟩, Inv.fresh1 I1, p1 _ H1 N2 s2 g2 (wk_tup hl ra g2.trk)⟩
theorem PI.imp {e : Expr} {t t' : TI} (h : PI X tg e t) (i : ∀ σ H Q, t' σ H Q → t σ H Q) : PI X tg e t' := ⟨fun pins s σ H Q I q => h.run pins s σ H Q I (i σ H Q q)⟩
theorem rng_fin {ys : List R} {vs : List V} {R : It → Hp → Prop} {r0 : En} {N0 : NS} {H0 : Hp} (s : Stp r0 σ N0 H0 r N H) (g : Good K Fa pr r σ N H) (q : RRs K Fa r σ N H vs ys) (p : PostG K Fa Ca pr W (relI K tq) r0 σ N0 H0 R (match drefs r ys with
    | some ds => match rngD ds with
      | some is => .ok is r
      | none => .stuck
    | none => .stuck)) : (∃ j : Int, vs = [.int j] ∧ -(2 ^ 62) ≤ j ∧ j < 2 ^ 62 ∧ R (Itr 0 j.toNat) H) ∨ ∃ i j : Int, vs = [.int i, .int j] ∧ (-(2 ^ 62) ≤ i ∧ i < 2 ^ 62 ∧ -(2 ^ 62) ≤ j ∧ j < 2 ^ 62) ∧ R (Itr i (j - i).toNat) H := by
  cases e : drefs r ys with
  | none => simp only [e] at p; exact p.elim
  | some ds =>
    simp only [e] at p
    have dr := drefs_ok g q e
    cases e2 : rngD ds with
    | none => simp only [e2] at p; exact p.elim
    | some is =>
      simp only [e2] at p
      unfold rngD at e2
      split at e2
      · split at e2
        · rename_i n ok
          cases e2
          obtain ⟨v, rfl, hv⟩ := dr.one
          have hv := hv.int
          subst hv
          simp only [rngOk, decide_eq_true_eq] at ok
          have z := p _ H N s g (wk_range 0 n)
          rw [Int.sub_zero] at z
          exact .inl ⟨n, rfl, ok.2.2.1, ok.2.2.2, z⟩
        · cases e2
      · split at e2
        · rename_i n m ok
          cases e2
          obtain ⟨v, w, rfl, hv, hw⟩ := dr.two
          have hv := hv.int
          have hw := hw.int
          subst hv hw
          simp only [rngOk, decide_eq_true_eq] at ok
          exact .inr ⟨n, m, rfl, ok, p _ H N s g (wk_range n m)⟩
        · cases e2
      · cases e2
theorem RRs.one {y : R} (h : RR K Fa r σ N H v y) : RRs K Fa r σ N H [v] [y] := ⟨h, trivial⟩
theorem fi_rng1 {c : CE} {e : Expr} {p : Pos} (hg : Gl X "range") (hm : X.mg "range" = none) (hp : plainX e = true) (h1 : PE X e (tE K Fa Ca pr W (evE G c))) : PI X tg (.Call (.Name "range" p) [e] [] pos) (tIt K tq Fa Ca pr W (evI G (.rng (.cons c .nil)))) := by
  refine PI.imp (pi_range1 hg hm (pa_cons h1 pa_nil (star_cons hp)) (star_cons hp)) fun σ H R ⟨r, N, g, h⟩ => ?_
  simp only [evI] at h
  have ee : evEs G (.cons c .nil) r = (evE G c r).bind fun x r1 => .ok [x] r1 := by simp only [evEs]; rfl
  rw [ee] at h
  have e3 : ∀ {α β γ : Type} (x : Rs α) (f : α → En → Rs β) (k : β → En → Rs γ), (x.bind f).bind k = x.bind fun a r => (f a r).bind k := fun x f k => by cases x <;> rfl
  rw [e3] at h
  show tE K Fa Ca pr W (evE G c) σ H _
  refine tG_mono (tG_bind (rel := relE K Fa) g (Stp.refl g) g h) fun v H1 ⟨y, r1, N1, t1, s1, g1, ⟨q1, f1⟩, p1⟩ => ?_
  rcases rng_fin s1 g1 (RRs.one q1) p1 with ⟨j, e1, h2⟩ | ⟨i, j, e1, h2⟩
  · exact ⟨j, e1, h2⟩
  · cases e1
theorem fi_rng2 {c d : CE} {e f : Expr} {p : Pos} (hg : Gl X "range") (hm : X.mg "range" = none) (hp : plainX e = true) (hp2 : plainX f = true) (h1 : PE X e (tE K Fa Ca pr W (evE G c))) (h2 : PE X f (tE K Fa Ca pr W (evE G d))) : PI X tg (.Call (.Name "range" p) [e, f] [] pos) (tIt K tq Fa Ca pr W (evI G (.rng (.cons c (.cons d .nil))))) := by
  have st : ∀ {env : Env}, starEach [e, f] env = [(false, eval e env), (false, eval f env)] := fun {env} => by rw [star_cons hp, star_cons hp2]; rfl
  refine PI.imp (pi_range2 hg hm (pa_cons h1 (pa_cons h2 pa_nil (star_cons hp2)) (star_cons hp)) st (by rw [star_cons hp2]; rfl)) fun σ H R ⟨r, N, g, h⟩ => ?_
  simp only [evI] at h
  have e3 : ∀ {α β γ : Type} (x : Rs α) (f : α → En → Rs β) (k : β → En → Rs γ), (x.bind f).bind k = x.bind fun a r => (f a r).bind k := fun x f k => by cases x <;> rfl
  have ee : evEs G (.cons c (.cons d .nil)) r = (evE G c r).bind fun x r1 => (evE G d r1).bind fun y r2 => .ok [x, y] r2 := by
    simp only [evEs]
    cases evE G c r <;> first | rfl | (simp only [Rs.bind]; rename_i y r'; cases evE G d r' <;> rfl)
  rw [ee, e3] at h
  show tE K Fa Ca pr W (evE G c) σ H _
  refine tG_mono (tG_bind (rel := relE K Fa) g (Stp.refl g) g h) fun v H1 ⟨y, r1, N1, t1, s1, g1, ⟨q1, f1⟩, p1⟩ => ?_
  rw [e3] at p1
  show tE K Fa Ca pr W (evE G d) σ H1 _
  refine tG_mono (tG_bind (rel := relE K Fa) g s1 g1 p1) fun v2 H2 ⟨y2, r2, N2, t2, s2, g2, ⟨q2, f2⟩, p2⟩ => ?_
  have qq : RRs K Fa r2 σ N2 H2 [v, v2] [y, y2] := ⟨q1.stp t2 g1, q2, trivial⟩
  rcases rng_fin (vs := [v, v2]) (ys := [y, y2]) s2 g2 qq p2 with ⟨j, e1, h2⟩ | ⟨i, j, e1, h2⟩
  · cases e1
  · exact ⟨i, j, e1, h2⟩
theorem fi_enum (ht : ∃ ts, tq = .tup ts) {c : CE} {e : Expr} {p tpos : Pos} {elts : List Expr} {kk : Nat} (hK : X.kw = K) (hg : Gl X "enumerate") (hm : X.mg "enumerate" = none) (hp : plainX e = true) (h1 : PE X e (tE K Fa Ca pr W (evE G c))) :
    PI X (.Tuple elts kk tpos) (.Call (.Name "enumerate" p) [e] [] pos) (tIt K tq Fa Ca pr W (evI G (.enum (.cons c .nil)))) := by
  subst hK
  have h2 : PA X [e] (tL X.kw Fa Ca pr W (evEs G (.cons c .nil))) := fe_cons hp h1 fe_nil
  refine ⟨fun pins s σ H R I ⟨r, N, g, h⟩ => ?_⟩
  simp only [evI] at h
  refine Call_ (ld_blt I hg hm boot_enumerate (PyProof.Rows.callWith_type1 (thn (h2.run pos pins s σ H _ I (tG_bind (rel := relL X.kw Fa) g (Stp.refl g) g h)) fun us s1 ⟨vs, H1, I1, rv, ys, r1, N1, t1, sp, g1, ⟨q1, f1, n1⟩, p1⟩ => ?_) (star_cons hp) rfl))
  split at p1
  · rename_i d r2 e1
    obtain ⟨N2, g2, s2, q2, _⟩ := takes_ok g (dr := ([d], r2)) sp q1 n1 f1 g1 e1
    obtain ⟨v, rfl, rd⟩ := RpA.oneR q2
    obtain ⟨u, rfl, ru⟩ := rv.one
    have fr2 : ∀ b ∈ [s1.heap.objs.size + 1, s1.heap.objs.size], FpOk X pins H1 b := fun b hb => by
      have hle : s1.heap.objs.size ≤ b := by
        simp only [List.mem_cons, List.not_mem_nil, or_false] at hb
        omega
      exact I1.fpOk hle (I1.hok.fresh hle)
    cases d <;> simp only [seqOf] at p1 <;> try exact p1.elim
    · cases rd with
      | lst hl ra =>
        cases ru
        obtain ⟨its, rv', pl, hz⟩ := I1.list hl.sq
        exact call_enumerate_list pl.isList fun h' he hit _ hk => wpAny_pyIter_enum he ⟨_, [_, _], _, _, H1, rfl, I1.kept (t' := s1.toks) hk, turn_enum _ _ _, ⟨⟨.none, he⟩, hit, Nat.succ_ne_self _⟩, fr2, p1 _ H1 N2 s2 g2 (wk_enumL ht hl ra g2.trk)⟩
    · cases rd with
      | tup hl ra =>
        cases ru
        obtain ⟨its, rv', pl, hz⟩ := I1.tuple hl.sq
        exact callEnT (show s1.heap.IsTuple _ its.toArray from pl) fun h' he hit hk => wpAny_pyIter_enum he ⟨_, [_, _], _, _, H1, rfl, I1.kept (t' := s1.toks) hk, turnEnT _ _ _, ⟨⟨.none, he⟩, hit, Nat.succ_ne_self _⟩, fr2, p1 _ H1 N2 s2 g2 (wk_enumT ht hl ra g2.trk)⟩
  · exact p1.elim
theorem fi_zip (ht : ∃ ts, tq = .tup ts) {cs : CEs} {e f : Expr} {p tpos : Pos} {elts : List Expr} {kk : Nat} (hK : X.kw = K) (hg : Gl X "zip") (hm : X.mg "zip" = none) (hp : plainX e = true) (hp2 : plainX f = true) (h1 : PA X [e, f] (tL K Fa Ca pr W (evEs G cs))) :
    PI X (.Tuple elts kk tpos) (.Call (.Name "zip" p) [e, f] [] pos) (tIt K tq Fa Ca pr W (evI G (.zip cs))) := by
  subst hK
  refine PI.imp (pi_zipA hg hm h1 (star_cons hp) (back_any (by simp [hp2]))) fun σ H R ⟨r, N, g, h⟩ => ?_
  simp only [evI] at h
  show tL X.kw Fa Ca pr W (evEs G cs) σ H _
  refine tG_mono (tG_bind (rel := relL X.kw Fa) g (Stp.refl g) g h) fun vs H1 ⟨ys, r1, N1, t1, s1, g1, ⟨q1, f1, n1⟩, p1⟩ => ?_
  split at p1
  · rename_i d e' r2 e1
    obtain ⟨N2, g2, s2, q2, _⟩ := takes_ok g (dr := ([d, e'], r2)) s1 q1 n1 f1 g1 e1
    cases q2 with
    | cons rd q2 =>
      obtain ⟨w, rfl, rw'⟩ := RpA.oneR q2
      unfold zipD at p1
      split at p1
      · rename_i zs ez
        split at ez
        · cases ez
          cases rd with
          | lst h2 ra =>
            cases rw' with
            | lst h3 rb => exact ⟨_, _, _, _, rfl, .inl ⟨h2.sq, h3.sq, p1 _ H1 N2 s2 g2 (wk_zipL ht h2 ra h3 rb g2.trk)⟩⟩
        · cases ez
          cases rd with
          | tup h2 ra =>
            cases rw' with
            | tup h3 rb => exact ⟨_, _, _, _, rfl, .inr ⟨h2.sq, h3.sq, p1 _ H1 N2 s2 g2 (wk_zipT ht h2 ra h3 rb g2.trk)⟩⟩
        · cases ez
      · exact p1.elim
  · exact p1.elim
end
end E2

set_option Elab.async false
set_option linter.all false
set_option maxRecDepth 100000
set_option maxHeartbeats 2000000
namespace E2
variable [Tbs]
open PySem PySem.Spec PyProof.Rows L2
/-! ## slots written -/
/-- slots that are not by-reference parameters -/
def NoPr (pr : List (Nat × Addr)) (i : Nat) : Prop := ∀ p ∈ pr, p.1 ≠ i
section
variable {K : Kw} {Fa Ca : Nat → Addr} {pr : List (Nat × Addr)} {W : WX} {r r1 r2 r' : En} {σ σ2 : L2.St} {N N1 N' : NS} {H H1 H' : Hp} {v : V} {d : D} {a : Addr} {α β γ δ : Type} {X : Cx} {G : Gs} {pos : Pos} {tg : Expr} {tq : Tg}
theorem set_ne {α : Type} {l : List α} {i j : Nat} {x : α} (h : i ≠ j) : (l.set i x)[j]? = l[j]? := List.getElem?_set_ne h
theorem set_eq {α : Type} {l : List α} {i : Nat} {x y : α} (h : (l.set i x)[i]? = some y) : x = y := by
  rw [List.getElem?_set] at h
  split at h
  · split at h
    · exact Option.some.inj h
    · cases h
  · exact absurd rfl (by assumption)
theorem own_put {i : Nat} {s : Option Sv} {u : Option V} {b : Addr} (h : own (r.set i s) (σ.set i u) b) : own r σ b ∨ ∃ d, s = some (.dat true d) ∧ u = some (.ref b) := by
  obtain ⟨j, d, h1, h2⟩ := h
  by_cases z : i = j
  · subst z
    exact .inr ⟨d, set_eq h1, set_eq h2⟩
  · rw [set_ne z] at h1 h2
    exact .inl ⟨j, d, h1, h2⟩
theorem Good.put {i : Nat} {s : Sv} (g : Good K Fa pr r σ N H) (hi : i < r.length) (np : NoPr pr i) (h : SvR K Fa N H v s) (na : ∀ a d, s = .dat true d → v = .ref a → ¬ own r σ a) : Good K Fa pr (r.set i (some s)) (σ.set i (some v)) N H := by
  refine ⟨by rw [List.length_set, List.length_set]; exact g.len, fun j s' e => ?_, fun j k d e a h1 h2 h3 h4 => ?_, g.trk, fun p hp => by rw [set_ne (Ne.symm (np p hp))]; exact g.prs p hp, g.tab⟩
  · by_cases z : i = j
    · subst z
      have := set_eq e
      cases this
      exact ⟨v, getset_self (by rw [← g.len]; exact hi), h⟩
    · rw [set_ne z] at e ⊢
      exact g.slot j s' e
  · by_cases z : i = j
    · by_cases z2 : i = k
      · exact z.symm.trans z2
      · subst z
        rw [set_ne z2] at h2 h4
        have e1 := set_eq h1
        have e2 := set_eq h3
        exact absurd ⟨k, e, h2, h4⟩ (na a d (Option.some.inj e1) (Option.some.inj e2))
    · rw [set_ne z] at h1 h3
      by_cases z2 : i = k
      · subst z2
        have e1 := set_eq h2
        have e2 := set_eq h4
        exact absurd ⟨j, d, h1, h3⟩ (na a e (Option.some.inj e1) (Option.some.inj e2))
      · rw [set_ne z2] at h2 h4
        exact g.inj j k d e a h1 h2 h3 h4
theorem Good.drop {i : Nat} {u : Option V} (g : Good K Fa pr r σ N H) (np : NoPr pr i) : Good K Fa pr (r.set i none) (σ.set i u) N H := by
  have ne : ∀ {j : Nat} {s : Sv}, (r.set i none)[j]? = some (some s) → i ≠ j ∧ r[j]? = some (some s) := fun {j s} e => by
    by_cases z : i = j
    · subst z
      have := set_eq e
      cases this
    · exact ⟨z, by rwa [set_ne z] at e⟩
  refine ⟨by rw [List.length_set, List.length_set]; exact g.len, fun j s' e => ?_, fun j k d e a h1 h2 h3 h4 => ?_, g.trk, fun p hp => by rw [set_ne (Ne.symm (np p hp))]; exact g.prs p hp, g.tab⟩
  · obtain ⟨z, e⟩ := ne e
    rw [set_ne z]
    exact g.slot j s' e
  · obtain ⟨z1, h1⟩ := ne h1
    obtain ⟨z2, h2⟩ := ne h2
    rw [set_ne z1] at h3
    rw [set_ne z2] at h4
    exact g.inj j k d e a h1 h2 h3 h4
/-- a slot of which less is said -/
theorem Good.wipe : ∀ {vs : List Nat}, (∀ i ∈ vs, NoPr pr i) → Good K Fa pr r σ N H → Good K Fa pr (wipeE r vs) (L2.wipe σ vs) N H
  | [], _, g => g
  | v :: vs, np, g => (Good.wipe (vs := vs) (fun i hi => np i (List.mem_cons_of_mem _ hi)) g).drop (np v List.mem_cons_self)
theorem wipeE_len : ∀ vs : List Nat, (wipeE r vs).length = r.length
  | [] => rfl
  | v :: vs => by unfold wipeE; rw [List.length_set, wipeE_len vs]
theorem wipeE_out {j : Nat} : ∀ {vs : List Nat}, j ∉ vs → (wipeE r vs)[j]? = r[j]?
  | [], _ => rfl
  | v :: vs, h => by
    simp only [List.mem_cons, not_or] at h
    unfold wipeE
    rw [set_ne (Ne.symm h.1), wipeE_out h.2]
theorem wipe_out {j : Nat} : ∀ {vs : List Nat}, j ∉ vs → (L2.wipe σ vs)[j]? = σ[j]?
  | [], _ => rfl
  | v :: vs, h => by
    simp only [List.mem_cons, not_or] at h
    unfold L2.wipe
    rw [set_ne (Ne.symm h.1), wipe_out h.2]
theorem wipeE_in {j : Nat} {s : Sv} : ∀ {vs : List Nat}, (wipeE r vs)[j]? = some (some s) → j ∉ vs ∧ r[j]? = some (some s)
  | [], h => ⟨by simp, h⟩
  | v :: vs, h => by
    unfold wipeE at h
    by_cases z : v = j
    · subst z
      have := set_eq h
      cases this
    · rw [set_ne z] at h
      obtain ⟨h1, h2⟩ := wipeE_in h
      exact ⟨by simp only [List.mem_cons, not_or]; exact ⟨fun e => z e.symm, h1⟩, h2⟩
theorem wipe_in {j : Nat} {u : V} : ∀ {vs : List Nat}, (L2.wipe σ vs)[j]? = some (some u) → j ∉ vs ∧ σ[j]? = some (some u) := fun h => ⟨(wipe_some h).2, (wipe_some h).1⟩
theorem own_wipe {vs : List Nat} {b : Addr} (h : own (wipeE r vs) (L2.wipe σ vs) b) : own r σ b := by
  obtain ⟨j, d, h1, h2⟩ := h
  exact ⟨j, d, (wipeE_in h1).2, (wipe_in h2).2⟩
theorem wipe_len (vs : List Nat) : (L2.wipe σ vs).length = σ.length := wipe_length σ vs
theorem wipe_at {j : Nat} : ∀ {vs : List Nat}, j ∈ vs → (L2.wipe σ vs)[j]? = if j < σ.length then some none else none
  | v :: vs, h => by
    unfold L2.wipe
    by_cases z : v = j
    · subst z
      rw [List.getElem?_set, if_pos rfl, wipe_length]
    · rw [set_ne z]
      exact wipe_at ((List.mem_cons.mp h).resolve_left fun e => z e.symm)
/-- two states that differ in vs at most are one when these are wiped -/
theorem wipe_eq {vs : List Nat} (hl : σ2.length = σ.length) (h : ∀ j, j ∉ vs → σ2[j]? = σ[j]?) : L2.wipe σ2 vs = L2.wipe σ vs :=
  List.ext_getElem? fun j => by
    by_cases z : j ∈ vs
    · rw [wipe_at z, wipe_at z, hl]
    · rw [wipe_out z, wipe_out z, h j z]

/-! ### targets -/
mutual
def tgS : Tg → List Nat
  | .nm i => [i]
  | .tup ts => tgSs ts
def tgSs : List Tg → List Nat
  | [] => []
  | t :: ts => tgS t ++ tgSs ts
end
section
variable (K : Kw)
mutual
def gB : Tg → TG
  | .nm i => gName i
  | .tup ts => gTup K.fr ts.length (gBs ts)
def gBs : List Tg → TGs
  | [] => gNil
  | t :: ts => gCons (gB t) (gBs ts)
end
end
/-- what a store into names leaves -/
structure Bnd (r r2 : En) (σ σ2 : L2.St) (js : List Nat) : Prop where
  len : r2.length = r.length
  lenσ : σ2.length = σ.length
  out : ∀ j, j ∉ js → r2[j]? = r[j]? ∧ σ2[j]? = σ[j]?
  ins : ∀ j ∈ js, ∃ d, r2[j]? = some (some (.dat false d))
theorem Bnd.own {js : List Nat} (b : Bnd r r2 σ σ2 js) {x : Addr} (h : E2.own r2 σ2 x) : E2.own r σ x := by
  obtain ⟨j, d, h1, h2⟩ := h
  by_cases z : j ∈ js
  · obtain ⟨d', e⟩ := b.ins j z
    rw [h1] at e
    cases e
  · obtain ⟨e1, e2⟩ := b.out j z
    exact ⟨j, d, e1 ▸ h1, e2 ▸ h2⟩
theorem Bnd.trans {r3 : En} {σ3 : L2.St} {js ks : List Nat} (b : Bnd r r2 σ σ2 js) (c : Bnd r2 r3 σ2 σ3 ks) : Bnd r r3 σ σ3 (js ++ ks) where
  len := c.len.trans b.len
  lenσ := c.lenσ.trans b.lenσ
  out := fun j hj => by
    simp only [List.mem_append, not_or] at hj
    exact ⟨(c.out j hj.2).1.trans (b.out j hj.1).1, (c.out j hj.2).2.trans (b.out j hj.1).2⟩
  ins := fun j hj => by
    by_cases z : j ∈ ks
    · exact c.ins j z
    · rw [(c.out j z).1]
      exact b.ins j ((List.mem_append.mp hj).resolve_right z)
/-- what may be bound to a target -/
def ItV (K : Kw) (N : NS) (H : Hp) (v : V) (d : D) : Tg → Prop
  | .nm _ => Rp K N H v d
  | .tup _ => Rp K N H v d ∨ ∃ a xs ds, v = .ref a ∧ d = .tuple ds ∧ SqT K.fr H a xs ∧ RpA K N H xs ds
theorem Rp.itV {tq : Tg} (h : Rp K N H v d) : ItV K N H v d tq := by
  cases tq with
  | nm i => exact h
  | tup ts => exact .inl h
mutual
theorem bind_ok : ∀ (t : Tg) {v : V} {d : D} {r r2 : En} {σ : L2.St} {Q : L2.St → Hp → Prop}, bindT d r t = some r2 → Good K Fa pr r σ N H → (∀ j ∈ tgS t, NoPr pr j) → ItV K N H v d t → (∀ σ2, Good K Fa pr r2 σ2 N H → Bnd r r2 σ σ2 (tgS t) → Q σ2 H) → gB K t v σ H Q
  | .nm i, v, d, r, r2, σ, Q, e, g, np, hv, q => by
    unfold bindT at e
    split at e
    · rename_i hi
      cases e
      refine q (σ.set i (some v)) (g.put hi (np i (by simp [tgS])) (s := .dat false d) hv fun a d e => nomatch e) ⟨List.length_set, List.length_set, fun j hj => ?_, fun j hj => ⟨d, ?_⟩⟩
      · simp only [tgS, List.mem_singleton] at hj
        exact ⟨set_ne (Ne.symm hj), set_ne (Ne.symm hj)⟩
      · simp only [tgS, List.mem_singleton] at hj
        subst hj
        exact getset_self hi
    · cases e
  | .tup ts, v, d, r, r2, σ, Q, e, g, np, hv, q => by
    unfold bindT at e
    split at e
    · rename_i ds
      have hv' : ∃ a xs, v = .ref a ∧ SqT K.fr H a xs ∧ RpA K N H xs ds := by
        rcases hv with hv | ⟨a, xs, ds', h1, h2, h3, h4⟩
        · cases hv with
          | tup h1 h2 => exact ⟨_, _, rfl, h1.sq, h2⟩
        · cases h2
          exact ⟨a, xs, h1, h3, h4⟩
      obtain ⟨a, xs, h1, h2, h3⟩ := hv'
      obtain ⟨hl, hb⟩ := bind_oks ts e g np h3 q
      exact ⟨a, xs, h1, h2, hl, hb⟩
    · cases e
theorem bind_oks : ∀ (ts : List Tg) {xs : List V} {ds : List D} {r r2 : En} {σ : L2.St} {Q : L2.St → Hp → Prop}, bindTs ds r ts = some r2 → Good K Fa pr r σ N H → (∀ j ∈ tgSs ts, NoPr pr j) → RpA K N H xs ds → (∀ σ2, Good K Fa pr r2 σ2 N H → Bnd r r2 σ σ2 (tgSs ts) → Q σ2 H) → xs.length = ts.length ∧ gBs K ts xs σ H Q
  | [], xs, ds, r, r2, σ, Q, e, g, np, hv, q => by
    unfold bindTs at e
    split at e
    · cases e
      cases hv
      exact ⟨rfl, rfl, q σ g ⟨rfl, rfl, fun _ _ => ⟨rfl, rfl⟩, fun j hj => absurd hj (by simp [tgSs])⟩⟩
    · cases e
  | t :: ts, xs, ds, r, r2, σ, Q, e, g, np, hv, q => by
    unfold bindTs at e
    split at e
    · rename_i d ds'
      split at e
      · rename_i r1 e1
        cases hv with
        | @cons v vs _ _ h1 h2 =>
          have len : vs.length = ts.length := bindTs_len ts e ▸ h2.length
          refine ⟨congrArg (· + 1) len, v, vs, rfl, bind_ok t e1 g (fun j hj => np j (by simp [tgSs, hj])) h1.itV fun σ1 g1 b1 => ?_⟩
          exact (bind_oks ts e g1 (fun j hj => np j (by simp [tgSs, hj])) h2 fun σ2 g2 b2 => q σ2 g2 (b1.trans b2)).2
      · cases e
    · cases e
theorem bindTs_len : ∀ (ts : List Tg) {ds : List D} {r r2 : En}, bindTs ds r ts = some r2 → ds.length = ts.length
  | [], ds, r, r2, e => by
    unfold bindTs at e
    split at e
    · rfl
    · cases e
  | t :: ts, ds, r, r2, e => by
    unfold bindTs at e
    split at e
    · split at e
      · exact congrArg (· + 1) (bindTs_len ts e)
      · cases e
    · cases e
end
end
end E2

set_option Elab.async false
set_option linter.all false
set_option maxRecDepth 100000
set_option maxHeartbeats 2000000
namespace E2
variable [Tbs]
open PySem PySem.Spec PyProof.Rows L2
/-! ## comprehensions -/
abbrev WF : WX := fun _ _ _ _ => False
section
variable {K : Kw} {Fa Ca : Nat → Addr} {pr : List (Nat × Addr)} {W : WX} {r r1 r2 r' : En} {σ σ2 : L2.St} {N N1 N' : NS} {H H1 H' : Hp} {v : V} {d : D} {a : Addr} {α β γ δ : Type} {X : Cx} {G : Gs} {pos : Pos} {tg : Expr} {tq : Tg} {vs : List Nat} {Dr : Addr}
theorem Ext.mono {O O' : NS} (E : Ext O N H N' H') (i : ∀ b, O b → O' b) (s : ∀ b, O' b → N b) : Ext O' N H N' H' := ⟨fun b o e n t => E.keep b o e (fun z => n (i b z)) t, E.tab, E.new, fun b h n => E.stay b h fun z => n (i b z), s, E.there⟩
theorem wipe_twice (vs : List Nat) : L2.wipe (L2.wipe σ vs) vs = L2.wipe σ vs := wipe_eq (wipe_length σ vs) fun j hj => wipe_out hj
/-- between the turns of a comprehension that began at (r1, N1, H1): the new thing at Dr holds dd -/
structure LcI (K : Kw) (Fa : Nat → Addr) (pr : List (Nat × Addr)) (vs : List Nat) (r1 : En) (σ : L2.St) (N1 : NS) (H1 : Hp) (Dr : Addr) (dd : D) (r' : En) (N' : NS) (H' : Hp) : Prop where
  len : r'.length = r1.length
  g : Good K Fa pr (wipeE r' vs) (L2.wipe σ vs) N' H'
  s : Stp (wipeE r1 vs) (L2.wipe σ vs) N1 H1 (wipeE r' vs) N' H'
  nD : N' Dr
  m : RpM K N' H' Dr dd
  no : ¬ own (wipeE r' vs) (L2.wipe σ vs) Dr
  t1 : ∀ b, N1 b → H1 b ≠ none
theorem LcI.start (g : Good K Fa pr r1 σ N1 H1) (np : ∀ i ∈ vs, NoPr pr i) (hD : H1 Dr = none) {o : HO} (mo : Mut (some o)) (m : ∀ N', RpM K N' (upd H1 Dr o) Dr d) : LcI K Fa pr vs r1 σ N1 H1 Dr d r1 (fun b => N1 b ∨ b = Dr) (upd H1 Dr o) := by
  have gw := g.wipe np
  have E : Ext (fun _ => False) N1 H1 (fun b => N1 b ∨ b = Dr) (upd H1 Dr o) := ext_newL hD fun _ z => z.elim
  exact ⟨rfl, gw.ext0 E (trk_newL hD mo g.trk), gw.stp0 E, .inr rfl, m _, gw.noOwn hD, fun b z => mutSome (g.trk b z)⟩
theorem LcI.fz {dd : D} (I : LcI K Fa pr vs r1 σ N1 H1 Dr dd r' N' H') : Fz N1 H1 N' H' := I.s.ext.rps
/-- inside a turn -/
structure InI (K : Kw) (Fa : Nat → Addr) (pr : List (Nat × Addr)) (vs : List Nat) (r1 : En) (σ : L2.St) (N1 : NS) (H1 : Hp) (Dr : Addr) (dd : D) (r : En) (σ2 : L2.St) (N : NS) (H : Hp) : Prop where
  len : r.length = r1.length
  t1 : ∀ b, N1 b → H1 b ≠ none
  g : Good K Fa pr r σ2 N H
  nD : N Dr
  m : RpM K N H Dr dd
  no : ¬ own r σ2 Dr
  sw : L2.wipe σ2 vs = L2.wipe σ vs
  base : Stp (wipeE r1 vs) (L2.wipe σ vs) N1 H1 (wipeE r vs) N H
  ow : ∀ b, own r σ2 b → own (wipeE r1 vs) (L2.wipe σ vs) b
theorem wipe_sub {us : List Nat} (h : ∀ i ∈ us, i ∈ vs) : L2.wipe (L2.wipe σ us) vs = L2.wipe σ vs := wipe_eq (wipe_length σ us) fun j hj => wipe_out fun z => hj (h j z)
theorem wipeE_at {j : Nat} : ∀ {vs : List Nat}, j ∈ vs → (wipeE r vs)[j]? = if j < r.length then some none else none
  | v :: vs, h => by
    unfold wipeE
    by_cases z : v = j
    · subst z
      rw [List.getElem?_set, if_pos rfl, wipeE_len]
    · rw [set_ne z]
      exact wipeE_at ((List.mem_cons.mp h).resolve_left fun e => z e.symm)
theorem wipeE_eq {vs : List Nat} (hl : r2.length = r.length) (h : ∀ j, j ∉ vs → r2[j]? = r[j]?) : wipeE r2 vs = wipeE r vs :=
  List.ext_getElem? fun j => by
    by_cases z : j ∈ vs
    · rw [wipeE_at z, wipeE_at z, hl]
    · rw [wipeE_out z, wipeE_out z, h j z]
theorem wipeE_sub {us : List Nat} (h : ∀ i ∈ us, i ∈ vs) : wipeE (wipeE r us) vs = wipeE r vs := wipeE_eq (wipeE_len us) fun j hj => wipeE_out fun z => hj (h j z)
theorem wipeE_twice (vs : List Nat) : wipeE (wipeE r vs) vs = wipeE r vs := wipeE_sub fun _ h => h
theorem LcI.inn {dd : D} (I : LcI K Fa pr vs r1 σ N1 H1 Dr dd r' N' H') : InI K Fa pr vs r1 σ N1 H1 Dr dd (wipeE r' vs) (L2.wipe σ vs) N' H' :=
  ⟨(wipeE_len vs).trans I.len, I.t1, I.g, I.nD, I.m, I.no, wipe_twice vs, (wipeE_twice (r := r') vs).symm ▸ I.s, I.s.own⟩
theorem InI.lcI {dd : D} (J : InI K Fa pr vs r1 σ N1 H1 Dr dd r σ2 N H) (np : ∀ i ∈ vs, NoPr pr i) : LcI K Fa pr vs r1 σ N1 H1 Dr dd r N H :=
  ⟨J.len, J.sw ▸ J.g.wipe np, J.base, J.nD, J.m, fun z => J.no (own_wipe (σ := σ2) (vs := vs) (J.sw ▸ z)), J.t1⟩
/-- steps inside a turn -/
theorem InI.step {dd : D} {r5 : En} {N5 : NS} {H5 : Hp} (J : InI K Fa pr vs r1 σ N1 H1 Dr dd r σ2 N H) (s : Stp r σ2 N H r5 N5 H5) (g : Good K Fa pr r5 σ2 N5 H5) : InI K Fa pr vs r1 σ N1 H1 Dr dd r5 σ2 N5 H5 := by
  refine ⟨(g.len.trans J.g.len.symm).trans J.len, J.t1, g, s.ext.stay _ J.nD J.no, J.m.ext s.ext J.g.trk J.no, fun z => J.no (s.own _ z), J.sw, ⟨J.base.ext.trans s.ext (fun b h => .inl (J.ow b h)) J.t1, fun b h => J.ow b (s.own b (own_wipe (σ := σ2) (vs := vs) (J.sw.symm ▸ h))), fun i h => ?_⟩, fun b h => J.ow b (s.own b h)⟩
  obtain ⟨o, d, h1⟩ := J.base.dat i h
  obtain ⟨hi, h2⟩ := wipeE_in h1
  obtain ⟨o', d', h3⟩ := s.dat i ⟨o, d, h2⟩
  exact ⟨o', d', by rw [wipeE_out hi]; exact h3⟩
theorem InI.out {dd : D} {r5 : En} {N5 : NS} {H5 : Hp} (J : InI K Fa pr vs r1 σ N1 H1 Dr dd r σ2 N H) (np : ∀ i ∈ vs, NoPr pr i) (s : Stp r σ2 N H r5 N5 H5) (g : Good K Fa pr r5 σ2 N5 H5) : LcI K Fa pr vs r1 σ N1 H1 Dr dd r5 N5 H5 := (J.step s g).lcI np
/-- fewer slots are seen -/
theorem InI.wipe {dd : D} {us : List Nat} (J : InI K Fa pr vs r1 σ N1 H1 Dr dd r σ2 N H) (np : ∀ i ∈ us, NoPr pr i) (h : ∀ i ∈ us, i ∈ vs) : InI K Fa pr vs r1 σ N1 H1 Dr dd (wipeE r us) (L2.wipe σ2 us) N H :=
  ⟨(wipeE_len us).trans J.len, J.t1, J.g.wipe np, J.nD, J.m, fun z => J.no (own_wipe z), (wipe_sub h).trans J.sw, (wipeE_sub (r := r) h).symm ▸ J.base, fun b z => J.ow b (own_wipe z)⟩
/-- a new pair -/
theorem InI.pair {dd : D} {T : Addr} {o : HO} (J : InI K Fa pr vs r1 σ N1 H1 Dr dd r σ2 N H) (hT : H T = none) : InI K Fa pr vs r1 σ N1 H1 Dr dd r σ2 N (upd H T o) := by
  have E : Ext (fun _ => False) N H N (upd H T o) := ext_newT hT fun _ z => z.elim
  exact J.step (J.g.stp0 E) (J.g.ext0 E (trk_newT hT J.g.trk))
/-- names are bound -/
theorem InI.bnd {dd : D} {rb : En} {σ3 : L2.St} {js : List Nat} (J : InI K Fa pr vs r1 σ N1 H1 Dr dd r σ2 N H) (g : Good K Fa pr rb σ3 N H) (b : Bnd r rb σ2 σ3 js) (hj : ∀ j ∈ js, j ∈ vs) : InI K Fa pr vs r1 σ N1 H1 Dr dd rb σ3 N H := by
  have sw : L2.wipe σ3 vs = L2.wipe σ2 vs := wipe_eq b.lenσ fun j h => (b.out j fun z => h (hj j z)).2
  have ew : wipeE rb vs = wipeE r vs := wipeE_eq b.len fun j h => (b.out j fun z => h (hj j z)).1
  exact ⟨b.len.trans J.len, J.t1, g, J.nD, J.m, fun z => J.no (b.own z), sw.trans J.sw, ew.symm ▸ J.base, fun x z => J.ow x (b.own z)⟩
/-- an item comes and is bound -/
theorem InI.item {dd : D} {x : V} {H'' : Hp} {rb : En} {us : List Nat} {R : L2.St → Hp → Prop} (J : InI K Fa pr vs r1 σ N1 H1 Dr dd (wipeE r us) (L2.wipe σ2 us) N' H') (np : ∀ i ∈ us, NoPr pr i) (hu : ∀ i ∈ us, i ∈ vs) (hj : ∀ j ∈ tgS tq, j ∈ us) (it : ItR K tq N' H' x H'' d) (e : bindT d (wipeE r us) tq = some rb)
    (h : ∀ σ3, InI K Fa pr vs r1 σ N1 H1 Dr dd rb σ3 N' H'' → L2.wipe σ3 us = L2.wipe σ2 us → R σ3 H'') : gB K tq x (L2.wipe σ2 us) H'' fun σ3 H2 => L2.wipe σ3 us = L2.wipe σ2 us ∧ R σ3 H2 := by
  have st : InI K Fa pr vs r1 σ N1 H1 Dr dd (wipeE r us) (L2.wipe σ2 us) N' H'' ∧ ItV K N' H'' x d tq := by
    rcases it with ⟨rfl, h⟩ | ⟨T, xs, es, ⟨ts, rfl⟩, rfl, hT, rfl, rfl, ra⟩
    · exact ⟨J, h.itV⟩
    · have E : Ext (fun _ => False) N' H' N' (upd H' T (.tup xs)) := ext_newT hT fun _ z => z.elim
      exact ⟨J.pair hT, .inr ⟨T, xs, es, rfl, rfl, .inl (.inl upd_same), ra.ext E J.g.trk⟩⟩
  obtain ⟨J2, iv⟩ := st
  refine bind_ok tq e J2.g (fun j hj' => np j (hj j hj')) iv fun σ3 g3 b3 => ?_
  have hw : L2.wipe σ3 us = L2.wipe σ2 us := (wipe_eq b3.lenσ fun j hj' => (b3.out j fun z => hj' (hj j z)).2).trans (wipe_twice us)
  exact ⟨hw, h σ3 (J2.bnd g3 b3 fun j z => hu j (hj j z)) hw⟩
theorem LcI.item {dd : D} {x : V} {H'' : Hp} {rb : En} {R : L2.St → Hp → Prop} (I : LcI K Fa pr vs r1 σ N1 H1 Dr dd r' N' H') (np : ∀ i ∈ vs, NoPr pr i) (hj : ∀ j ∈ tgS tq, j ∈ vs) (it : ItR K tq N' H' x H'' d) (e : bindT d (wipeE r' vs) tq = some rb)
    (h : ∀ σ2, InI K Fa pr vs r1 σ N1 H1 Dr dd rb σ2 N' H'' → L2.wipe σ2 vs = L2.wipe σ vs → R σ2 H'') : gB K tq x (L2.wipe σ vs) H'' fun σ2 H2 => L2.wipe σ2 vs = L2.wipe σ vs ∧ R σ2 H2 :=
  InI.item I.inn np (fun _ h => h) hj it e h
/-- Dr is written -/
theorem InI.write {dd dd' : D} {o : HO} (J : InI K Fa pr vs r1 σ N1 H1 Dr dd r σ2 N H) (hD : H1 Dr = none) (mo : Mut (some o)) (m : Fz N H N (upd H Dr o) → RpM K N (upd H Dr o) Dr dd') : InI K Fa pr vs r1 σ N1 H1 Dr dd' r σ2 N (upd H Dr o) := by
  have E : Ext (fun b => b = Dr) N H N (upd H Dr o) := ⟨fun b u e n _ => by rw [upd_ne n]; exact e, tabs_mut J.nD (J.g.trk _ J.nD), fun b h => .inl h, fun b h _ => h, fun b h => h ▸ J.nD, fun b h => by
    by_cases z : b = Dr
    · subst z; rw [upd_same]; simp
    · rw [upd_ne z]; exact h⟩
  have t2 : ∀ b, N b → Mut (upd H Dr o b) := fun b h => by
    by_cases z : b = Dr
    · subst z; rw [upd_same]; exact mo
    · rw [upd_ne z]; exact J.g.trk b h
  refine ⟨J.len, J.t1, ⟨J.g.len, fun i s e => ?_, J.g.inj, t2, J.g.prs, E.tab J.g.tab⟩, J.nD, m E.rps, J.no, J.sw, ⟨J.base.ext.trans E (fun b h => .inr (h ▸ hD)) J.t1, J.base.own, J.base.dat⟩, J.ow⟩
  obtain ⟨v, h1, h2⟩ := J.g.slot i s e
  exact ⟨v, h1, h2.ext E J.g.trk fun a d e1 e2 z => J.no (z ▸ ⟨i, d, e1 ▸ e, e2 ▸ h1⟩)⟩
theorem backE_len (r0 : En) : ∀ vs : List Nat, (backE r0 r vs).length = r.length
  | [] => rfl
  | v :: vs => by unfold backE; rw [List.length_set, backE_len r0 vs]
theorem backE_out {r0 : En} {j : Nat} : ∀ {vs : List Nat}, j ∉ vs → (backE r0 r vs)[j]? = r[j]?
  | [], _ => rfl
  | v :: vs, h => by
    simp only [List.mem_cons, not_or] at h
    unfold backE
    rw [set_ne (Ne.symm h.1), backE_out h.2]
theorem backE_in {r0 : En} {j : Nat} {s : Sv} : ∀ {vs : List Nat}, j ∈ vs → (backE r0 r vs)[j]? = some (some s) → r0[j]? = some (some s)
  | v :: vs, h, e => by
    unfold backE at e
    by_cases z : v = j
    · subst z
      have q := set_eq e
      cases q2 : r0[v]? with
      | none => rw [q2] at q; cases q
      | some u => rw [q2] at q; rw [show u = some s from q]
    · rw [set_ne z] at e
      exact backE_in ((List.mem_cons.mp h).resolve_left fun q => z q.symm) e
theorem backE_to {r0 : En} {j : Nat} {s : Sv} (hl : r.length = r0.length) : ∀ {vs : List Nat}, j ∈ vs → r0[j]? = some (some s) → (backE r0 r vs)[j]? = some (some s)
  | v :: vs, h, e => by
    unfold backE
    by_cases z : v = j
    · subst z
      rw [List.getElem?_set, if_pos rfl, backE_len, hl, if_pos (List.getElem?_eq_some_iff.mp e).1, e]
      rfl
    · rw [set_ne z]
      exact backE_to hl ((List.mem_cons.mp h).resolve_left fun q => z q.symm) e
/-- behind a comprehension -/
theorem LcI.fin {dd : D} (I : LcI K Fa pr vs r1 σ N1 H1 Dr dd r' N' H') (g : Good K Fa pr r1 σ N1 H1) : Good K Fa pr (backE r1 r' vs) σ N' H' ∧ Stp r1 σ N1 H1 (backE r1 r' vs) N' H' := by
  -- a slot of the whole, behind
  have slot : ∀ {j : Nat} {s : Sv}, (backE r1 r' vs)[j]? = some (some s) → (j ∈ vs ∧ r1[j]? = some (some s)) ∨ (j ∉ vs ∧ (wipeE r' vs)[j]? = some (some s)) := fun {j s} e => by
    by_cases z : j ∈ vs
    · exact .inl ⟨z, backE_in z e⟩
    · exact .inr ⟨z, by rw [wipeE_out z, ← backE_out (r0 := r1) z]; exact e⟩
  have apart : ∀ {j : Nat} {d : D} {a : Addr}, j ∈ vs → r1[j]? = some (some (.dat true d)) → σ[j]? = some (some (.ref a)) → ¬ own (wipeE r1 vs) (L2.wipe σ vs) a := fun {j d a} hj h1 h2 ⟨k, e, h3, h4⟩ => by
    obtain ⟨hk, h3⟩ := wipeE_in h3
    obtain ⟨_, h4⟩ := wipe_in h4
    have := g.inj j k d e a h1 h3 h2 h4
    exact hk (this ▸ hj)
  have ow : ∀ b, own (backE r1 r' vs) σ b → own r1 σ b := fun b ⟨j, d, h1, h2⟩ => by
    rcases slot h1 with ⟨hj, h3⟩ | ⟨hj, h3⟩
    · exact ⟨j, d, h3, h2⟩
    · exact own_wipe (I.s.own b ⟨j, d, h3, by rw [wipe_out hj]; exact h2⟩)
  refine ⟨⟨by rw [backE_len]; exact I.len.trans g.len, fun j s e => ?_, fun i j d e a h1 h2 h3 h4 => ?_, I.g.trk, g.prs, I.g.tab⟩, ⟨I.s.ext.mono (fun b h => own_wipe h) g.ownN, ow, fun j ⟨o, d, h⟩ => ?_⟩⟩
  · rcases slot e with ⟨hj, h1⟩ | ⟨hj, h1⟩
    · obtain ⟨v, h2, h3⟩ := g.slot j s h1
      exact ⟨v, h2, h3.ext I.s.ext g.trk fun a d e1 e2 => apart hj (e1 ▸ h1) (e2 ▸ h2)⟩
    · obtain ⟨v, h2, h3⟩ := I.g.slot j s h1
      exact ⟨v, by rw [wipe_out hj] at h2; exact h2, h3⟩
  · rcases slot h1 with ⟨hi, q1⟩ | ⟨hi, q1⟩ <;> rcases slot h2 with ⟨hj, q2⟩ | ⟨hj, q2⟩
    · exact g.inj i j d e a q1 q2 h3 h4
    · exact absurd (I.s.own a ⟨j, e, q2, by rw [wipe_out hj]; exact h4⟩) (apart hi q1 h3)
    · exact absurd (I.s.own a ⟨i, d, q1, by rw [wipe_out hi]; exact h3⟩) (apart hj q2 h4)
    · exact I.g.inj i j d e a q1 q2 (by rw [wipe_out hi]; exact h3) (by rw [wipe_out hj]; exact h4)
  · by_cases z : j ∈ vs
    · exact ⟨o, d, backE_to I.len z h⟩
    · obtain ⟨o', d', h'⟩ := I.s.dat j ⟨o, d, by rw [wipeE_out z]; exact h⟩
      rw [wipeE_out z] at h'
      exact ⟨o', d', by rw [backE_out z]; exact h'⟩
theorem LcI.value {dd : D} {Q : VK} {r0 : En} {N0 : NS} {H0 : Hp} (I : LcI K Fa pr vs r1 σ N1 H1 Dr dd r' N' H') (hD : H1 Dr = none) (g0 : Good K Fa pr r0 σ N0 H0) (s : Stp r0 σ N0 H0 r1 N1 H1) (g : Good K Fa pr r1 σ N1 H1)
    (p : PostG K Fa Ca pr W (relE K Fa) r0 σ N0 H0 Q (.ok (.val true dd) (backE r1 r' vs))) : Q (.ref Dr) H' := by
  obtain ⟨g', s'⟩ := I.fin g
  refine p (.ref Dr) H' N' (s.trans g0 s') g' ⟨⟨Dr, rfl, I.nD, I.m, fun z => g.noOwn hD (s'.own _ z)⟩, fun a e z => ?_⟩
  cases e
  exact absurd z (g0.noN0 s hD)
end
end E2

set_option Elab.async false
set_option linter.all false
set_option maxRecDepth 100000
set_option maxHeartbeats 2000000
namespace E2
variable [Tbs]
open PySem PySem.Spec PyProof.Rows L2
section
variable {K : Kw} {Fa Ca : Nat → Addr} {pr : List (Nat × Addr)} {W : WX} {r r1 r2 r' : En} {σ σ2 : L2.St} {N N1 N' : NS} {H H1 H' : Hp} {v : V} {d : D} {a : Addr} {α β γ δ : Type} {X : Cx} {G : Gs} {pos : Pos} {tg : Expr} {tq : Tg} {vs : List Nat} {Dr : Addr}
theorem LcI.wiped {dd : D} (I : LcI K Fa pr vs r1 σ N1 H1 Dr dd r' N' H') : LcI K Fa pr vs r1 σ N1 H1 Dr dd (wipeE r' vs) N' H' :=
  ⟨(wipeE_len vs).trans I.len, (wipeE_twice (r := r') vs).symm ▸ I.g, (wipeE_twice (r := r') vs).symm ▸ I.s, I.nD, I.m, (wipeE_twice (r := r') vs).symm ▸ I.no, I.t1⟩
/-! ### the tests of a clause -/
theorem PTs.imp {ifs : List Expr} {t t' : TT} (h : PTs X ifs t) (i : ∀ σ H Q, t' σ H Q → t σ H Q) : PTs X ifs t' := ⟨fun pins s σ H Q I q => h.run pins s σ H Q I (i σ H Q q)⟩
theorem fc_non : PTs X [] (tB K Fa Ca pr W (evC G .non)) := PTs.imp pts_nil fun σ H Q ⟨r, N, g, h⟩ => by
  simp only [evC] at h
  exact h true H N (Stp.refl g) g rfl
theorem fc_som {c : CT} {e : Expr} (h : PT X e (tB K Fa Ca pr W (evT G c))) : PTs X [e] (tB K Fa Ca pr W (evC G (.som c))) := PTs.imp (pts_one h) fun σ H Q ⟨r, N, g, h⟩ => by
  simp only [evC] at h
  exact ⟨r, N, g, h⟩
/-- what stands between the turns -/
def LcP (K : Kw) (Fa : Nat → Addr) (pr : List (Nat × Addr)) (vs : List Nat) (r1 : En) (σ : L2.St) (N1 : NS) (H1 : Hp) (Dr : Addr) (P : List D → En → Prop) (H' : Hp) : Prop := ∃ r' N' acc, LcI K Fa pr vs r1 σ N1 H1 Dr (.list acc) r' N' H' ∧ P acc r'
theorem lc_turn {cond : CTo} {elt : CE} {acc : List D} {rb : En} {H'' : Hp} {Z : Rs (List D) → Prop} {f : List D → En → Rs (List D)} (hZ : Z .stuck → False) (hD : H1 Dr = none) (np : ∀ i ∈ vs, NoPr pr i) (J : InI K Fa pr vs r1 σ N1 H1 Dr (.list acc) rb σ2 N' H'')
    (h : Z (match evC G cond rb with
      | .ok true r2 => match evE G elt r2 with
        | .ok x r3 => match take r3 x with
          | some (y, r4) => if acc.length < sizeLine then f (acc ++ [y]) (wipeE r4 vs) else .stuck
          | none => .stuck
        | _ => .stuck
      | .ok false r2 => f acc (wipeE r2 vs)
      | _ => .stuck)) :
    tB K Fa Ca pr WF (evC G cond) σ2 H'' fun b H3 => if b = true then tE K Fa Ca pr WF (evE G elt) σ2 H3 fun y H4 => ∃ xs, H4 Dr = some (.lst xs) ∧ xs.length < sizeLine ∧ LcP K Fa pr vs r1 σ N1 H1 Dr (fun acc r => Z (f acc r)) (upd H4 Dr (.lst (xs ++ [y]))) else LcP K Fa pr vs r1 σ N1 H1 Dr (fun acc r => Z (f acc r)) H3 := by
  refine ⟨rb, N', J.g, ?_⟩
  cases e1 : evC G cond rb with
  | stuck => rw [e1] at h; exact hZ h
  | exc x r2 => rw [e1] at h; exact (hZ h).elim
  | ok k r2 =>
    rw [e1] at h
    intro b H3 N3 s3 g3 hb
    cases (show b = k from hb)
    have J3 := J.step s3 g3
    cases k with
    | false =>
      rw [if_neg Bool.false_ne_true]
      exact ⟨_, N3, acc, (J.out np s3 g3).wiped, h⟩
    | true =>
      rw [if_pos rfl]
      refine ⟨r2, N3, g3, ?_⟩
      cases e2 : evE G elt r2 with
      | stuck => simp only [e2] at h; exact hZ h
      | exc x r3 => simp only [e2] at h; exact (hZ h).elim
      | ok x r3 =>
        simp only [e2] at h
        intro v H4 N4 s4 g4 rf
        cases e3 : take r3 x with
        | none => simp only [e3] at h; exact (hZ h).elim
        | some yr =>
          obtain ⟨y, r4⟩ := yr
          simp only [e3] at h
          obtain ⟨N5, g5, s5, q5, _⟩ := RR.take (dr := (y, r4)) g3 s4 rf.1 rf.2 g4 e3
          split at h
          · rename_i hlen
            have I5 := J3.step s5 g5
            obtain ⟨xs, hx, ra⟩ := I5.m
            refine ⟨xs, hx, by rw [ra.length]; exact hlen, _, N5, acc ++ [y], ((I5.write (o := .lst (xs ++ [v])) (dd' := .list (acc ++ [y])) hD trivial fun st => ⟨_, upd_same, (ra.append (.cons q5 .nil)).keep st I5.g.trk⟩).lcI np).wiped, h⟩
          · exact (hZ h).elim
theorem lc_imp {own : List (Str × Nat)} {it : CI} {cond : CTo} {elt : CE} {Q : VK} (np : ∀ i ∈ own.map (·.2), NoPr pr i) (hj : ∀ j ∈ tgS tq, j ∈ own.map (·.2)) (hq : tE K Fa Ca pr W (evE G (.lc own tq it cond elt)) σ H Q) :
    tLc (tIt K tq Fa Ca pr W (evI G it)) (gB K tq) (tB K Fa Ca pr WF (evC G cond)) (tE K Fa Ca pr WF (evE G elt)) (own.map (·.2)) σ H Q := by
  obtain ⟨r, N, g, h⟩ := hq
  simp only [evE] at h
  show tIt K tq Fa Ca pr W (evI G it) σ H _
  refine tG_mono (tG_bind (rel := relI K tq) g (Stp.refl g) g h) fun J H1 ⟨xs, r1, N1, t1, s1, g1, ⟨GG, YY, walk, wst⟩, p1⟩ => fun Dr hD => ?_
  have fin0 : ∀ {Z : Rs (List D)}, Z = .stuck → ¬ PostG K Fa Ca pr W (relE K Fa) r σ N H Q (Z.bind fun ys r2 => .ok (.val true (.list ys)) (backE r1 r2 (own.map (·.2)))) := fun {Z} e z => by rw [e] at z; exact z
  refine lc_it walk (fun i H' => LcP K Fa pr (own.map (·.2)) r1 σ N1 H1 Dr (fun acc r' => PostG K Fa Ca pr W (relE K Fa) r σ N H Q ((lcGo (own.map (·.2)) (fun d r => bindT d r tq) (evC G cond) (evE G elt) (xs.drop i) acc r').bind fun ys r2 => .ok (.val true (.list ys)) (backE r1 r2 (own.map (·.2))))) H') ?_ ?_ ?_ ?_
  · exact ⟨r1, _, [], LcI.start g1 np hD (o := .lst []) trivial fun N' => ⟨[], upd_same, .nil⟩, p1⟩
  · rintro i H' _ ⟨r', N', acc, I, _⟩
    exact (wst N' H' I.fz).1
  · rintro i x H' H'' hi ⟨r', N', acc, I, p⟩ y
    have ei : xs.drop i = xs[i] :: xs.drop (i + 1) := List.drop_eq_getElem_cons hi
    have item := (wst N' H' I.fz).2 i x H'' xs[i] y (List.getElem?_eq_getElem hi)
    rw [ei] at p
    cases eb : bindT xs[i] (wipeE r' (own.map (·.2))) tq with
    | none => simp only [lcGo, eb] at p; exact p.elim
    | some rb =>
      simp only [lcGo, eb] at p
      refine I.item np hj item eb fun σ2 J hw => ?_
      exact lc_turn (Z := fun Z => PostG K Fa Ca pr W (relE K Fa) r σ N H Q (Z.bind fun ys r2 => .ok (.val true (.list ys)) (backE r1 r2 (own.map (·.2))))) (fun z => z) hD np J p
  · rintro H' ⟨r', N', acc, I, p⟩
    rw [List.drop_length] at p
    exact I.value hD g s1 g1 p
theorem fe_lc {own : List (Str × Nat)} {it : CI} {cond : CTo} {elt : CE} {elte tge itere : Expr} {ifs : List Expr} {scope : Scope} (hc : X.calm = true) (hN : X.N.Nodup) (hi : PI X tge itere (tIt K tq Fa Ca pr W (evI G it))) (ok : BlkOk X.N X.env.scope scope own)
    (np : ∀ i ∈ own.map (·.2), NoPr pr i) (hj : ∀ j ∈ tgS tq, j ∈ own.map (·.2))
    (hg : ∀ (s : Shared) (H : Hp) (C : Addr) (cl : List (Str × Addr)) (fp : List Addr), PG (X.blk s H scope (compEnvC scope cl C X.env) fp) tge (gB K tq)) (ht : ∀ (s : Shared) (H : Hp) (C : Addr) (cl : List (Str × Addr)) (fp : List Addr), PTs (X.blk s H scope (compEnvC scope cl C X.env) fp) ifs (tB K Fa Ca pr WF (evC G cond)))
    (he : ∀ (s : Shared) (H : Hp) (C : Addr) (cl : List (Str × Addr)) (fp : List Addr), PE (X.blk s H scope (compEnvC scope cl C X.env) fp) elte (tE K Fa Ca pr WF (evE G elt))) (hs : ∀ x, foldedSetIterable itere X.env x = pure x) :
    PE X (.ListComp elte [⟨tge, itere, ifs, 0⟩] scope pos) (tE K Fa Ca pr W (evE G (.lc own tq it cond elt))) := by
  exact PE.imp (pe_lc hc hN hi ok hg ht he hs) fun σ H Q h => lc_imp np hj h
end
end E2

set_option Elab.async false
set_option linter.all false
set_option maxRecDepth 100000
set_option maxHeartbeats 2000000
namespace E2
variable [Tbs]
open PySem PySem.Spec PyProof.Rows L2
section
variable {K : Kw} {Fa Ca : Nat → Addr} {pr : List (Nat × Addr)} {W : WX} {r r1 r2 r' : En} {σ σ2 : L2.St} {N N1 N' : NS} {H H1 H' : Hp} {v : V} {d : D} {a : Addr} {α β γ δ : Type} {X : Cx} {G : Gs} {pos : Pos} {tg : Expr} {tq tq1 : Tg} {vs us : List Nat} {Dr : Addr}
theorem loop_it {J : It} {n : Nat} {GG : Hp → Prop} {Y : Nat → Hp → V → Hp → Prop} {H0 : Hp} (w : Walk J n GG Y) (B : (Hp → Prop) → V → Hp → Prop) (F : Hp → Prop) (Pv : Nat → Hp → Prop) (h0 : Pv 0 H0) (hG : ∀ i H, Pv i H → GG H) (hs : ∀ i x H H', i < n → Pv i H → Y i H x H' → B (Pv (i + 1)) x H') (hd : ∀ H, Pv n H → F H) :
    ∃ W : Nat → Nat → Hp → Prop, (∃ m, W 0 m H0) ∧ ∀ i m H, W i m H → (J.stop i H ∧ F H) ∨ (J.go i H ∧ ∃ Nx : Hp → Prop, (∀ H', Nx H' → ∃ m', m' < m ∧ W (i + 1) m' H') ∧ ∀ x H', J.yld i H x H' → B Nx x H') := by
  refine ⟨fun i m H => (m = n - i ∧ i ≤ n) ∧ Pv i H, ⟨n - 0, ⟨rfl, Nat.zero_le _⟩, h0⟩, fun i m H ⟨⟨em, le⟩, p⟩ => ?_⟩
  rcases Nat.lt_or_ge i n with lt | ge
  · exact .inr ⟨w.goes i H lt (hG i H p), Pv (i + 1), fun H' p' => ⟨n - (i + 1), by omega, ⟨rfl, lt⟩, p'⟩, fun x H' y => hs i x H H' lt p (w.yields i H x H' lt (hG i H p) y)⟩
  · have e : i = n := Nat.le_antisymm le ge
    subst e
    exact .inl ⟨w.stops H (hG i H p), hd H p⟩
theorem InI.fz {dd : D} (J : InI K Fa pr vs r1 σ N1 H1 Dr dd r σ2 N H) : Fz N1 H1 N H := J.base.ext.rps
/-- between the turns of an inner walk -/
def InP (K : Kw) (Fa : Nat → Addr) (pr : List (Nat × Addr)) (vs : List Nat) (r1 : En) (σ : L2.St) (N1 : NS) (H1 : Hp) (Dr : Addr) (us : List Nat) (σ2 : L2.St) (Fr : NS → Hp → Prop) (P : List D → En → Prop) (H' : Hp) : Prop := ∃ r' N' acc, InI K Fa pr vs r1 σ N1 H1 Dr (.list acc) (wipeE r' us) (L2.wipe σ2 us) N' H' ∧ Fr N' H' ∧ P acc r'
theorem in_turn {cond : CTo} {elt : CE} {acc : List D} {rb : En} {σ3 : L2.St} {H'' : Hp} {Z : Rs (List D) → Prop} {f : List D → En → Rs (List D)} {Fr : NS → Hp → Prop} (hZ : Z .stuck → False) (hD : H1 Dr = none) (np : ∀ i ∈ us, NoPr pr i) (hu : ∀ i ∈ us, i ∈ vs) (J : InI K Fa pr vs r1 σ N1 H1 Dr (.list acc) rb σ3 N' H'') (hw : L2.wipe σ3 us = L2.wipe σ2 us)
    (fr0 : Fr N' H'') (frS : ∀ N2 H2 N3 H3, Fr N2 H2 → Fz N2 H2 N3 H3 → Fr N3 H3)
    (h : Z (match evC G cond rb with
      | .ok true r2 => match evE G elt r2 with
        | .ok x r3 => match take r3 x with
          | some (y, r4) => if acc.length < sizeLine then f (acc ++ [y]) (wipeE r4 us) else .stuck
          | none => .stuck
        | _ => .stuck
      | .ok false r2 => f acc (wipeE r2 us)
      | _ => .stuck)) :
    tB K Fa Ca pr WF (evC G cond) σ3 H'' fun b H3 => if b = true then tE K Fa Ca pr WF (evE G elt) σ3 H3 fun y H4 => ∃ xs, H4 Dr = some (.lst xs) ∧ xs.length < sizeLine ∧ InP K Fa pr vs r1 σ N1 H1 Dr us σ2 Fr (fun acc r => Z (f acc r)) (upd H4 Dr (.lst (xs ++ [y]))) else InP K Fa pr vs r1 σ N1 H1 Dr us σ2 Fr (fun acc r => Z (f acc r)) H3 := by
  refine ⟨rb, N', J.g, ?_⟩
  cases e1 : evC G cond rb with
  | stuck => rw [e1] at h; exact hZ h
  | exc x r2 => rw [e1] at h; exact (hZ h).elim
  | ok k r2 =>
    rw [e1] at h
    intro b H3 N3 s3 g3 hb
    cases (show b = k from hb)
    have J3 := J.step s3 g3
    have f3 := frS _ _ _ _ fr0 s3.ext.rps
    cases k with
    | false =>
      rw [if_neg Bool.false_ne_true]
      exact ⟨wipeE r2 us, N3, acc, by rw [wipeE_twice, ← hw]; exact J3.wipe np hu, f3, h⟩
    | true =>
      rw [if_pos rfl]
      refine ⟨r2, N3, g3, ?_⟩
      cases e2 : evE G elt r2 with
      | stuck => simp only [e2] at h; exact hZ h
      | exc x r3 => simp only [e2] at h; exact (hZ h).elim
      | ok x r3 =>
        simp only [e2] at h
        intro v H4 N4 s4 g4 rf
        cases e3 : take r3 x with
        | none => simp only [e3] at h; exact (hZ h).elim
        | some yr =>
          obtain ⟨y, r4⟩ := yr
          simp only [e3] at h
          obtain ⟨N5, g5, s5, q5, _⟩ := RR.take (dr := (y, r4)) g3 s4 rf.1 rf.2 g4 e3
          split at h
          · rename_i hlen
            have J5 := J3.step s5 g5
            have f5 := frS _ _ _ _ f3 s5.ext.rps
            obtain ⟨xs, hx, ra⟩ := J5.m
            have Jw := J5.write (o := .lst (xs ++ [v])) (dd' := .list (acc ++ [y])) hD trivial fun st => ⟨_, upd_same, (ra.append (.cons q5 .nil)).keep st J5.g.trk⟩
            refine ⟨xs, hx, by rw [ra.length]; exact hlen, wipeE r4 us, N5, acc ++ [y], by rw [wipeE_twice, ← hw]; exact Jw.wipe np hu, frS _ _ _ _ f5 fun b u e n _ => ⟨by rw [upd_ne fun z => n (by rw [z]; exact J5.nD)]; exact e, n⟩, h⟩
          · exact (hZ h).elim
theorem frz_trans {N2 : NS} {H2 : Hp} {N3 : NS} {H3 : Hp} (f : Fz N H N2 H2) (g : Fz N2 H2 N3 H3) : Fz N H N3 H3 := fun b o e n t => g b o (f b o e n t).1 (f b o e n t).2 t
theorem lc2_imp {own : List (Str × Nat)} {vs1 : List Nat} {it it1 : CI} {cond cond1 : CTo} {elt : CE} {Q : VK} (hv : ∀ i ∈ vs1, i ∈ own.map (·.2)) (np : ∀ i ∈ own.map (·.2), NoPr pr i) (hj : ∀ j ∈ tgS tq, j ∈ own.map (·.2)) (hj1 : ∀ j ∈ tgS tq1, j ∈ vs1) (hq : tE K Fa Ca pr W (evE G (.lc2 own vs1 tq it cond tq1 it1 cond1 elt)) σ H Q) :
    tLc2 (tIt K tq Fa Ca pr W (evI G it)) (gB K tq) (tB K Fa Ca pr WF (evC G cond)) (tIt K tq1 Fa Ca pr WF (evI G it1)) (gB K tq1) (tB K Fa Ca pr WF (evC G cond1)) (tE K Fa Ca pr WF (evE G elt)) (own.map (·.2)) vs1 σ H Q := by
  obtain ⟨r, N, g, h⟩ := hq
  simp only [evE] at h
  show tIt K tq Fa Ca pr W (evI G it) σ H _
  refine tG_mono (tG_bind (rel := relI K tq) g (Stp.refl g) g h) fun J H1 ⟨xs, r1, N1, t1, s1, g1, ⟨GG, YY, walk, wst⟩, p1⟩ => fun Dr hD => ?_
  have npv : ∀ i ∈ vs1, NoPr pr i := fun i hi => np i (hv i hi)
  let Z : Rs (List D) → Prop := fun Z => PostG K Fa Ca pr W (relE K Fa) r σ N H Q (Z.bind fun ys r2 => .ok (.val true (.list ys)) (backE r1 r2 (own.map (·.2))))
  let f : Nat → List D → En → Rs (List D) := fun i acc r' => lc2Go (own.map (·.2)) vs1 (fun d r => bindT d r tq) (evC G cond) (evI G it1) (fun d r => bindT d r tq1) (evC G cond1) (evE G elt) (xs.drop i) acc r'
  refine loop_it walk (fun Nx x H' => gB K tq x (L2.wipe σ (own.map (·.2))) H' fun σ2 H2 => L2.wipe σ2 (own.map (·.2)) = L2.wipe σ (own.map (·.2)) ∧ tB K Fa Ca pr WF (evC G cond) σ2 H2 fun b H3 =>
    if b = true then tIt K tq1 Fa Ca pr WF (evI G it1) σ2 H3 fun J1 H4 => ∃ W1 : Nat → Nat → Hp → Prop, (∃ m, W1 0 m H4) ∧ ∀ j k H, W1 j k H →
      (J1.stop j H ∧ Nx H) ∨ (J1.go j H ∧ ∃ Nx1 : Hp → Prop, (∀ H', Nx1 H' → ∃ k', k' < k ∧ W1 (j + 1) k' H') ∧ ∀ x H', J1.yld j H x H' → gB K tq1 x (L2.wipe σ2 vs1) H' fun σ3 H5 => L2.wipe σ3 vs1 = L2.wipe σ2 vs1 ∧ tB K Fa Ca pr WF (evC G cond1) σ3 H5 fun b H6 =>
        if b = true then tE K Fa Ca pr WF (evE G elt) σ3 H6 fun y H7 => ∃ acc, H7 Dr = some (.lst acc) ∧ acc.length < sizeLine ∧ Nx1 (upd H7 Dr (.lst (acc ++ [y]))) else Nx1 H6)
    else Nx H3) _ (fun i H' => LcP K Fa pr (own.map (·.2)) r1 σ N1 H1 Dr (fun acc r' => Z (f i acc r')) H') ?_ ?_ ?_ ?_
  · exact ⟨r1, _, [], LcI.start g1 np hD (o := .lst []) trivial fun N' => ⟨[], upd_same, .nil⟩, p1⟩
  · rintro i H' ⟨r', N', acc, I, _⟩
    exact (wst N' H' I.fz).1
  · rintro i x H' H'' hi ⟨r', N', acc, I, p⟩ y
    have ei : xs.drop i = xs[i] :: xs.drop (i + 1) := List.drop_eq_getElem_cons hi
    have item := (wst N' H' I.fz).2 i x H'' xs[i] y (List.getElem?_eq_getElem hi)
    simp only [f] at p
    rw [ei] at p
    cases eb : bindT xs[i] (wipeE r' (own.map (·.2))) tq with
    | none => simp only [lc2Go, eb] at p; exact p.elim
    | some rb =>
      simp only [lc2Go, eb] at p
      refine I.item np hj item eb fun σ2 J hw => ⟨rb, N', J.g, ?_⟩
      cases e1 : evC G cond rb with
      | stuck => simp only [e1] at p; exact p.elim
      | exc x r2 => simp only [e1] at p; exact p.elim
      | ok k r2 =>
        simp only [e1] at p
        intro b H3 N3 s3 g3 hb
        cases (show b = k from hb)
        have J3 := J.step s3 g3
        cases k with
        | false =>
          rw [if_neg Bool.false_ne_true]
          exact ⟨_, N3, acc, (J3.lcI np).wiped, p⟩
        | true =>
          rw [if_pos rfl]
          refine ⟨r2, N3, g3, ?_⟩
          cases e2 : evI G it1 r2 with
          | stuck => simp only [e2] at p; exact p.elim
          | exc x r3 => simp only [e2] at p; exact p.elim
          | ok ys r3 =>
            simp only [e2] at p
            intro J1 H4 N4 s4 g4 ⟨G1, Y1, walk1, wst1⟩
            have J4 := J3.step s4 g4
            let Z1 : Rs (List D) → Prop := fun q => Z (match q with
              | .ok acc1 r4 => f (i + 1) acc1 (wipeE r4 (own.map (·.2)))
              | _ => .stuck)
            refine loop_it walk1 _ _ (fun j H' => InP K Fa pr (own.map (·.2)) r1 σ N1 H1 Dr vs1 σ2 (Fz N4 H4) (fun acc r' => Z1 (lcGo vs1 (fun d r => bindT d r tq1) (evC G cond1) (evE G elt) (ys.drop j) acc r')) H') ?_ ?_ ?_ ?_
            · exact ⟨r3, N4, acc, J4.wipe npv hv, Fz.refl, p⟩
            · rintro j H' ⟨r', N', acc, I, fz, _⟩
              exact (wst1 N' H' fz).1
            · rintro j x H5 H6 hj' ⟨r', N', acc, I, fz, q⟩ y1
              have ej : ys.drop j = ys[j] :: ys.drop (j + 1) := List.drop_eq_getElem_cons hj'
              have item1 := (wst1 N' H5 fz).2 j x H6 ys[j] y1 (List.getElem?_eq_getElem hj')
              rw [ej] at q
              cases eb1 : bindT ys[j] (wipeE r' vs1) tq1 with
              | none => simp only [lcGo, eb1] at q; exact q.elim
              | some rb1 =>
                simp only [lcGo, eb1] at q
                refine I.item npv hv hj1 item1 eb1 fun σ3 Jb hw1 => ?_
                refine in_turn (Z := Z1) (Fr := Fz N4 H4) (fun z => z) hD npv hv Jb hw1 ?_ (fun N2 H2 N3 H3 f g => frz_trans f g) q
                rcases item1 with ⟨rfl, _⟩ | ⟨T, _, _, _, _, hT, rfl, _⟩
                · exact fz
                · exact frz_trans fz fun b o e n _ => ⟨upd_keep hT b o e, n⟩
            · rintro H5 ⟨r', N', acc, I, fz, q⟩
              rw [List.drop_length] at q
              have q2 : Z (f (i + 1) acc (wipeE r' (own.map fun x => x.2))) := by
                simp only [lcGo, Z1] at q
                exact q
              refine ⟨wipeE r' (own.map fun x => x.2), N', acc, ?_, q2⟩
              have z := (I.lcI np).wiped
              rw [wipeE_sub hv] at z
              exact z
  · rintro H' ⟨r', N', acc, I, p⟩
    simp only [f, List.drop_length] at p
    exact I.value hD g s1 g1 p
theorem fe_lc2 {own : List (Str × Nat)} {vs1 : List Nat} {it it1 : CI} {cond cond1 : CTo} {elt : CE} {elte tge itere tge1 itere1 : Expr} {ifs ifs1 : List Expr} {scope : Scope} (hc : X.calm = true) (hN : X.N.Nodup) (hi : PI X tge itere (tIt K tq Fa Ca pr W (evI G it))) (ok : BlkOk X.N X.env.scope scope own) (hv : ∀ i ∈ vs1, i ∈ own.map (·.2))
    (np : ∀ i ∈ own.map (·.2), NoPr pr i) (hj : ∀ j ∈ tgS tq, j ∈ own.map (·.2)) (hj1 : ∀ j ∈ tgS tq1, j ∈ vs1)
    (hg : ∀ (s : Shared) (H : Hp) (C : Addr) (cl : List (Str × Addr)) (fp : List Addr), PG (X.blk s H scope (compEnvC scope cl C X.env) fp) tge (gB K tq)) (ht : ∀ (s : Shared) (H : Hp) (C : Addr) (cl : List (Str × Addr)) (fp : List Addr), PTs (X.blk s H scope (compEnvC scope cl C X.env) fp) ifs (tB K Fa Ca pr WF (evC G cond)))
    (hi1 : ∀ (s : Shared) (H : Hp) (C : Addr) (cl : List (Str × Addr)) (fp : List Addr), PI (X.blk s H scope (compEnvC scope cl C X.env) fp) tge1 itere1 (tIt K tq1 Fa Ca pr WF (evI G it1)))
    (hg1 : ∀ (s : Shared) (H : Hp) (C : Addr) (cl : List (Str × Addr)) (fp : List Addr), PG (X.blk s H scope (compEnvC scope cl C X.env) fp) tge1 (gB K tq1)) (ht1 : ∀ (s : Shared) (H : Hp) (C : Addr) (cl : List (Str × Addr)) (fp : List Addr), PTs (X.blk s H scope (compEnvC scope cl C X.env) fp) ifs1 (tB K Fa Ca pr WF (evC G cond1)))
    (he : ∀ (s : Shared) (H : Hp) (C : Addr) (cl : List (Str × Addr)) (fp : List Addr), PE (X.blk s H scope (compEnvC scope cl C X.env) fp) elte (tE K Fa Ca pr WF (evE G elt))) (hs : ∀ x, foldedSetIterable itere X.env x = pure x) (hs1 : ∀ env x, foldedSetIterable itere1 env x = pure x) :
    PE X (.ListComp elte [⟨tge, itere, ifs, 0⟩, ⟨tge1, itere1, ifs1, 0⟩] scope pos) (tE K Fa Ca pr W (evE G (.lc2 own vs1 tq it cond tq1 it1 cond1 elt))) := by
  exact PE.imp (pe_lc2 hc hN hi ok hv hg ht hi1 hg1 ht1 he hs hs1) fun σ H Q h => lc2_imp hv np hj hj1 h
end
end E2

set_option Elab.async false
set_option linter.all false
set_option maxRecDepth 100000
set_option maxHeartbeats 2000000
namespace E2
variable [Tbs]
open PySem PySem.Spec PyProof.Rows L2
section
variable {K : Kw} {Fa Ca : Nat → Addr} {pr : List (Nat × Addr)} {W : WX} {r r1 r2 r' : En} {σ σ2 : L2.St} {N N1 N' : NS} {H H1 H' : Hp} {v : V} {d : D} {a : Addr} {α β γ δ : Type} {X : Cx} {G : Gs} {pos : Pos} {tg : Expr} {tq tq1 : Tg} {vs us : List Nat} {Dr : Addr}
theorem RpA.twoR {vs : List V} {y z : D} (h : RpA K N H vs [y, z]) : ∃ v w, vs = [v, w] ∧ Rp K N H v y ∧ Rp K N H w z := by
  cases h with
  | cons h t =>
    obtain ⟨w, rfl, h2⟩ := RpA.oneR t
    exact ⟨_, w, rfl, h, h2⟩
def DcP (K : Kw) (Fa : Nat → Addr) (pr : List (Nat × Addr)) (vs : List Nat) (r1 : En) (σ : L2.St) (N1 : NS) (H1 : Hp) (Dr : Addr) (P : List (D × D) → En → Prop) (H' : Hp) : Prop := ∃ r' N' acc, LcI K Fa pr vs r1 σ N1 H1 Dr (.dict acc) r' N' H' ∧ P acc r'
theorem dc_turn {cond : CTo} {ek ev : CE} {acc : List (D × D)} {rb : En} {H'' : Hp} {Z : Rs (List (D × D)) → Prop} {f : List (D × D) → En → Rs (List (D × D))} (hZ : Z .stuck → False) (hD : H1 Dr = none) (np : ∀ i ∈ vs, NoPr pr i) (J : InI K Fa pr vs r1 σ N1 H1 Dr (.dict acc) rb σ2 N' H'')
    (h : Z (match evC G cond rb with
      | .ok true r2 => match evE G ek r2 with
        | .ok x r3 => match evE G ev r3 with
          | .ok y r4 => match takes r4 [x, y] with
            | some ([k, v], r6) => if (acc.all (fun p => flatK p.1) && flatK k) = true ∧ acc.length < sizeLine then f (dPut acc k v) (wipeE r6 vs) else .stuck
            | _ => .stuck
          | _ => .stuck
        | _ => .stuck
      | .ok false r2 => f acc (wipeE r2 vs)
      | _ => .stuck)) :
    tB K Fa Ca pr WF (evC G cond) σ2 H'' fun b H3 => if b = true then tE K Fa Ca pr WF (evE G ek) σ2 H3 fun y H4 => tE K Fa Ca pr WF (evE G ev) σ2 H4 fun z H5 => ∃ kvs k, y = kV k ∧ H5 Dr = some (.dK kvs) ∧ kvs.length < sizeLine ∧ DcP K Fa pr vs r1 σ N1 H1 Dr (fun acc r => Z (f acc r)) (upd H5 Dr (.dK (putK kvs k z))) else DcP K Fa pr vs r1 σ N1 H1 Dr (fun acc r => Z (f acc r)) H3 := by
  refine ⟨rb, N', J.g, ?_⟩
  cases e1 : evC G cond rb with
  | stuck => rw [e1] at h; exact hZ h
  | exc x r2 => rw [e1] at h; exact (hZ h).elim
  | ok k r2 =>
    rw [e1] at h
    intro b H3 N3 s3 g3 hb
    cases (show b = k from hb)
    have J3 := J.step s3 g3
    cases k with
    | false =>
      rw [if_neg Bool.false_ne_true]
      exact ⟨_, N3, acc, (J3.lcI np).wiped, h⟩
    | true =>
      rw [if_pos rfl]
      refine ⟨r2, N3, g3, ?_⟩
      cases e2 : evE G ek r2 with
      | stuck => simp only [e2] at h; exact hZ h
      | exc x r3 => simp only [e2] at h; exact (hZ h).elim
      | ok x r3 =>
        simp only [e2] at h
        intro v H4 N4 s4 g4 rf
        refine ⟨r3, N4, g4, ?_⟩
        cases e3 : evE G ev r3 with
        | stuck => simp only [e3] at h; exact hZ h
        | exc x r3 => simp only [e3] at h; exact (hZ h).elim
        | ok y r4 =>
          simp only [e3] at h
          intro w H5 N5 s5 g5 rf5
          have rl : relL K Fa [x, y] r2 N3 r4 σ2 N5 H5 [v, w] := relL_cons s4 g4 rf.1 rf.2 s5 (relL_cons s5 g5 rf5.1 rf5.2 (Stp.refl g5) relL_nil)
          split at h
          · rename_i kk vv r6 et
            obtain ⟨N6, g6, s6, q6, _⟩ := takes_ok g3 (dr := ([kk, vv], r6)) (s4.trans g3 s5) rl.1 rl.2.2 rl.2.1 g5 et
            split at h
            · rename_i hc
              obtain ⟨v', w', e6, hk, hv⟩ := RpA.twoR q6
              cases e6
              simp only [Bool.and_eq_true] at hc
              obtain ⟨q, rfl⟩ := flatK_key hc.1.2
              have ey := DR.key (q := q) (.inl hk)
              subst ey
              have J6 := J3.step s6 g6
              obtain ⟨kvs, h1, rk⟩ := DicR.flat (show DicR K N6 H5 Dr acc from J6.m) hc.1.1
              refine ⟨kvs, q, rfl, h1, by rw [rk.length]; exact hc.2, _, N6, dPut acc (kD q) vv, ((J6.write (o := .dK (putK kvs q w)) (dd' := .dict (dPut acc (kD q) vv)) hD trivial fun st => .inl ⟨_, upd_same, (rk.put q hv).keep st J6.g.trk⟩).lcI np).wiped, h⟩
            · exact (hZ h).elim
          · exact (hZ h).elim
theorem fe_dc {own : List (Str × Nat)} {it : CI} {cond : CTo} {ek ev : CE} {ke ve tge itere : Expr} {ifs : List Expr} {scope : Scope} (hc : X.calm = true) (hN : X.N.Nodup) (hi : PI X tge itere (tIt K tq Fa Ca pr W (evI G it))) (ok : BlkOk X.N X.env.scope scope own)
    (np : ∀ i ∈ own.map (·.2), NoPr pr i) (hj : ∀ j ∈ tgS tq, j ∈ own.map (·.2))
    (hg : ∀ (s : Shared) (H : Hp) (C : Addr) (cl : List (Str × Addr)) (fp : List Addr), PG (X.blk s H scope (compEnvC scope cl C X.env) fp) tge (gB K tq)) (ht : ∀ (s : Shared) (H : Hp) (C : Addr) (cl : List (Str × Addr)) (fp : List Addr), PTs (X.blk s H scope (compEnvC scope cl C X.env) fp) ifs (tB K Fa Ca pr WF (evC G cond)))
    (hk : ∀ (s : Shared) (H : Hp) (C : Addr) (cl : List (Str × Addr)) (fp : List Addr), PE (X.blk s H scope (compEnvC scope cl C X.env) fp) ke (tE K Fa Ca pr WF (evE G ek)))
    (he : ∀ (s : Shared) (H : Hp) (C : Addr) (cl : List (Str × Addr)) (fp : List Addr), PE (X.blk s H scope (compEnvC scope cl C X.env) fp) ve (tE K Fa Ca pr WF (evE G ev))) (hs : ∀ x, foldedSetIterable itere X.env x = pure x) :
    PE X (.DictComp ke ve [⟨tge, itere, ifs, 0⟩] scope pos) (tE K Fa Ca pr W (evE G (.dc own tq it cond ek ev))) := by
  refine PE.imp (pe_dc hc hN hi ok hg ht hk he hs) fun σ H Q ⟨r, N, g, h⟩ => ?_
  simp only [evE] at h
  show tIt K tq Fa Ca pr W (evI G it) σ H _
  refine tG_mono (tG_bind (rel := relI K tq) g (Stp.refl g) g h) fun J H1 ⟨xs, r1, N1, t1, s1, g1, ⟨GG, YY, walk, wst⟩, p1⟩ => fun Dr hD => ?_
  let Z : Rs (List (D × D)) → Prop := fun Z => PostG K Fa Ca pr W (relE K Fa) r σ N H Q (Z.bind fun ys r2 => .ok (.val true (.dict ys)) (backE r1 r2 (own.map (·.2))))
  refine loop_it walk (fun Nx x H' => gB K tq x (L2.wipe σ (own.map (·.2))) H' fun σ2 H2 => L2.wipe σ2 (own.map (·.2)) = L2.wipe σ (own.map (·.2)) ∧ tB K Fa Ca pr WF (evC G cond) σ2 H2 fun b H3 =>
    if b = true then tE K Fa Ca pr WF (evE G ek) σ2 H3 fun y H4 => tE K Fa Ca pr WF (evE G ev) σ2 H4 fun z H5 => ∃ kvs k, y = kV k ∧ H5 Dr = some (.dK kvs) ∧ kvs.length < sizeLine ∧ Nx (upd H5 Dr (.dK (putK kvs k z))) else Nx H3) _
    (fun i H' => DcP K Fa pr (own.map (·.2)) r1 σ N1 H1 Dr (fun acc r' => Z (dcGo (own.map (·.2)) (fun d r => bindT d r tq) (evC G cond) (evE G ek) (evE G ev) (xs.drop i) acc r')) H') ?_ ?_ ?_ ?_
  · exact ⟨r1, _, [], LcI.start g1 np hD (o := .dK []) trivial fun N' => .inl ⟨[], upd_same, .nil⟩, p1⟩
  · rintro i H' ⟨r', N', acc, I, _⟩
    exact (wst N' H' I.fz).1
  · rintro i x H' H'' hi ⟨r', N', acc, I, p⟩ y
    have ei : xs.drop i = xs[i] :: xs.drop (i + 1) := List.drop_eq_getElem_cons hi
    have item := (wst N' H' I.fz).2 i x H'' xs[i] y (List.getElem?_eq_getElem hi)
    rw [ei] at p
    cases eb : bindT xs[i] (wipeE r' (own.map (·.2))) tq with
    | none => simp only [dcGo, eb] at p; exact p.elim
    | some rb =>
      simp only [dcGo, eb] at p
      refine I.item np hj item eb fun σ2 J hw => ?_
      exact dc_turn (Z := Z) (fun z => z) hD np J p
  · rintro H' ⟨r', N', acc, I, p⟩
    rw [List.drop_length] at p
    simp only [dcGo, Z] at p
    exact I.value hD g s1 g1 p
end
end E2

set_option Elab.async false
set_option linter.all false
set_option maxRecDepth 100000
set_option maxHeartbeats 2000000
namespace E2
variable [Tbs]
open PySem PySem.Spec PyProof.Rows L2
/-! ## statements -/
section
variable (K : Kw) (Fa Ca : Nat → Addr) (pr : List (Nat × Addr)) (W : WX) (refs : List Addr) (N0 : NS) (H0 : Hp)
/-- how a def's body stands to its start -/
structure FrI (r : En) (σ : L2.St) (N : NS) (H : Hp) : Prop where
  g : Good K Fa pr r σ N H
  ext : Ext (fun b => b ∈ refs) N0 H0 N H
  ow : ∀ b, own r σ b → b ∈ refs ∨ H0 b = none
  t0 : ∀ b, N0 b → H0 b ≠ none
/-- what a body returns -/
def RetR (r : En) (σ : L2.St) (N : NS) (H : Hp) (v : V) (x : R) : Prop := RR K Fa r σ N H v x ∧ ∀ d a, x = .val true d → v = .ref a → ¬ N0 a ∨ a ∈ refs
def PostS (N : NS) (H : Hp) (D : Ends) : So → Prop
  | .nx r' => ∀ σ' N' H', FrI K Fa pr refs N0 H0 r' σ' N' H' → Fz N H N' H' → D.nx σ' H'
  | .brk r' => ∀ σ' N' H', FrI K Fa pr refs N0 H0 r' σ' N' H' → Fz N H N' H' → D.bk σ' H'
  | .cont r' => ∀ σ' N' H', FrI K Fa pr refs N0 H0 r' σ' N' H' → Fz N H N' H' → D.ct σ' H'
  | .ret x r' => ∀ v σ' N' H', FrI K Fa pr refs N0 H0 r' σ' N' H' → Fz N H N' H' → RetR K Fa refs N0 r' σ' N' H' v x → D.rt v H'
  | .exc x r' => ∀ cls d σ' N' H', FrI K Fa pr refs N0 H0 r' σ' N' H' → Fz N H N' H' → XR K Ca x cls d H' → W cls d σ' H'
  | .stuck => False
def tS (f : En → So) : TS := fun D σ H => ∃ r N, FrI K Fa pr refs N0 H0 r σ N H ∧ PostS K Fa Ca pr W refs N0 H0 N H D (f r)
end
section
variable {K : Kw} {Fa Ca : Nat → Addr} {pr : List (Nat × Addr)} {W : WX} {refs : List Addr} {N0 : NS} {H0 : Hp} {r r1 r2 r' : En} {σ σ2 : L2.St} {N N1 N' : NS} {H H1 H' : Hp} {v : V} {d : D} {a : Addr} {α β γ δ : Type} {X : Cx} {G : Gs} {pos : Pos} {tg : Expr} {tq tq1 : Tg} {vs us : List Nat} {Dr : Addr} {De : Ends}
theorem PS.imp {e : Stmt} {t t' : TS} (h : PS X e t) (i : ∀ D σ H, t' D σ H → t D σ H) : PS X e t' := ⟨fun pins s σ H D I q => h.run pins s σ H D I (i D σ H q)⟩
theorem PSs.imp {e : List Stmt} {t t' : TS} (h : PSs X e t) (i : ∀ D σ H, t' D σ H → t D σ H) : PSs X e t' := ⟨fun pins s σ H D I q => h.run pins s σ H D I (i D σ H q)⟩
theorem FrI.step (I : FrI K Fa pr refs N0 H0 r σ N H) (s : Stp r σ N H r' N' H') (g : Good K Fa pr r' σ N' H') : FrI K Fa pr refs N0 H0 r' σ N' H' :=
  ⟨g, I.ext.trans s.ext (fun b h => I.ow b h) I.t0, fun b h => I.ow b (s.own b h), I.t0⟩
theorem PostS.fz {o : So} (f : Fz N H N' H') (h : PostS K Fa Ca pr W refs N0 H0 N H De o) : PostS K Fa Ca pr W refs N0 H0 N' H' De o := by
  cases o with
  | nx r' => exact fun σ' N2 H2 I f2 => h σ' N2 H2 I (frz_trans f f2)
  | brk r' => exact fun σ' N2 H2 I f2 => h σ' N2 H2 I (frz_trans f f2)
  | cont r' => exact fun σ' N2 H2 I f2 => h σ' N2 H2 I (frz_trans f f2)
  | ret x r' => exact fun v σ' N2 H2 I f2 => h v σ' N2 H2 I (frz_trans f f2)
  | exc x r' => exact fun c d σ' N2 H2 I f2 => h c d σ' N2 H2 I (frz_trans f f2)
  | stuck => exact h
/-- an expression, then the rest of the statement -/
theorem so_bind {rel : Rel α β} {f : En → Rs α} {k : α → En → So} (I : FrI K Fa pr refs N0 H0 r σ N H) (h : PostS K Fa Ca pr W refs N0 H0 N H De ((f r).so k)) :
    tG K Fa Ca pr W rel f σ H (fun v H1 => ∃ y r1 N1, Stp r σ N H r1 N1 H1 ∧ FrI K Fa pr refs N0 H0 r1 σ N1 H1 ∧ rel y r N r1 σ N1 H1 v ∧ PostS K Fa Ca pr W refs N0 H0 N1 H1 De (k y r1)) := by
  refine ⟨r, N, I.g, ?_⟩
  cases e : f r with
  | ok y r' =>
    rw [e] at h
    exact fun v H' N' s' g' q => ⟨y, r', N', s', I.step s' g', q, PostS.fz s'.ext.rps h⟩
  | exc x r' =>
    rw [e] at h
    exact fun c d H' N' s' g' q => h c d σ N' H' (I.step s' g') s'.ext.rps q
  | stuck =>
    rw [e] at h
    exact h
theorem so_bind0 {rel : Rel α β} {f : En → Rs α} {k : α → En → So} (I : FrI K Fa pr refs N0 H0 r σ N H) (h : PostS K Fa Ca pr W refs N0 H0 N H De ((f r).so k)) :
    tG K Fa Ca pr W rel f σ H (fun v H1 => ∃ y r1 N1, Stp r σ N H r1 N1 H1 ∧ FrI K Fa pr refs N0 H0 r1 σ N1 H1 ∧ rel y r N r1 σ N1 H1 v ∧ PostS K Fa Ca pr W refs N0 H0 N H De (k y r1)) := by
  refine ⟨r, N, I.g, ?_⟩
  cases e : f r with
  | ok y r' =>
    rw [e] at h
    exact fun v H' N' s' g' q => ⟨y, r', N', s', I.step s' g', q, h⟩
  | exc x r' =>
    rw [e] at h
    exact fun c d H' N' s' g' q => h c d σ N' H' (I.step s' g') s'.ext.rps q
  | stuck =>
    rw [e] at h
    exact h
theorem fs_nil : PSs X [] (tS K Fa Ca pr W refs N0 H0 (evSs G .nil)) := PSs.imp pss_nil fun D σ H ⟨r, N, I, h⟩ => by
  simp only [evSs] at h
  exact h σ N H I Fz.refl
theorem fs_cons {s : CS} {ss : CSs} {st : Stmt} {rest : List Stmt} (h1 : PS X st (tS K Fa Ca pr W refs N0 H0 (evS G s))) (h2 : PSs X rest (tS K Fa Ca pr W refs N0 H0 (evSs G ss))) : PSs X (st :: rest) (tS K Fa Ca pr W refs N0 H0 (evSs G (.cons s ss))) := by
  refine PSs.imp (pss_cons h1 h2) fun D σ H ⟨r, N, I, h⟩ => ⟨r, N, I, ?_⟩
  simp only [evSs] at h
  cases e : evS G s r with
  | nx r' => rw [e] at h; exact fun σ' N' H' I' f => ⟨r', N', I', PostS.fz f h⟩
  | brk r' => rw [e] at h; exact h
  | cont r' => rw [e] at h; exact h
  | ret x r' => rw [e] at h; exact h
  | exc x r' => rw [e] at h; exact h
  | stuck => rw [e] at h; exact h
theorem fs_pass : PS X (.Pass pos) (tS K Fa Ca pr W refs N0 H0 (evS G .pass)) := PS.imp ps_pass fun D σ H ⟨r, N, I, h⟩ => by
  simp only [evS] at h
  exact h σ N H I Fz.refl
theorem fs_brk : PS X (.Break pos) (tS K Fa Ca pr W refs N0 H0 (evS G .brk)) := PS.imp ps_break fun D σ H ⟨r, N, I, h⟩ => by
  simp only [evS] at h
  exact h σ N H I Fz.refl
theorem fs_cont : PS X (.Continue pos) (tS K Fa Ca pr W refs N0 H0 (evS G .cont)) := PS.imp ps_continue fun D σ H ⟨r, N, I, h⟩ => by
  simp only [evS] at h
  exact h σ N H I Fz.refl
/-- a fresh list was not of the start -/
theorem FrI.fresh {x : R} (I : FrI K Fa pr refs N0 H0 r σ N H) (f : Fsh r σ N v x) : ∀ d a, x = .val true d → v = .ref a → ¬ N0 a ∨ a ∈ refs := fun d a e1 e2 => by
  subst e1
  by_cases z : a ∈ refs
  · exact .inr z
  · by_cases n : N0 a
    · rcases I.ow a (f a e2 (I.ext.stay a n z)) with q | q
      · exact absurd q z
      · exact absurd q (I.t0 a n)
    · exact .inl n
theorem fs_ret {c : CE} {e : Expr} (h1 : PE X e (tE K Fa Ca pr W (evE G c))) : PS X (.Return (some e) pos) (tS K Fa Ca pr W refs N0 H0 (evS G (.ret c))) := by
  refine PS.imp (ps_ret h1) fun D σ H ⟨r, N, I, h⟩ => ?_
  simp only [evS] at h
  show tE K Fa Ca pr W (evE G c) σ H _
  refine tG_mono (so_bind (rel := relE K Fa) I h) fun v H1 ⟨y, r1, N1, s1, I1, ⟨q1, f1⟩, p1⟩ => p1 v σ N1 H1 I1 Fz.refl ⟨q1, I.fresh f1⟩
theorem fs_retN : PS X (.Return none pos) (tS K Fa Ca pr W refs N0 H0 (evS G .retN)) := PS.imp ps_retN fun D σ H ⟨r, N, I, h⟩ => by
  simp only [evS] at h
  exact h .non σ N H I Fz.refl ⟨Rp.non, fun d a e => by cases e⟩
theorem fs_ex {c : CE} {e : Expr} (h1 : PE X e (tE K Fa Ca pr W (evE G c))) (hs : swapsWith e none pos.line X.env = pure false) : PS X (.Expr e pos) (tS K Fa Ca pr W refs N0 H0 (evS G (.ex c))) := by
  refine PS.imp (ps_expr h1 hs) fun D σ H ⟨r, N, I, h⟩ => ?_
  simp only [evS] at h
  show tE K Fa Ca pr W (evE G c) σ H _
  exact tG_mono (so_bind (rel := relE K Fa) I h) fun v H1 ⟨y, r1, N1, s1, I1, ⟨q1, f1⟩, p1⟩ => p1 σ N1 H1 I1 Fz.refl
theorem fs_ite {t : CT} {a b : CSs} {c : Expr} {sa sb : List Stmt} (hc : PT X c (tB K Fa Ca pr W (evT G t))) (ha : PSs X sa (tS K Fa Ca pr W refs N0 H0 (evSs G a))) (hb : PSs X sb (tS K Fa Ca pr W refs N0 H0 (evSs G b))) : PS X (.If c sa sb pos) (tS K Fa Ca pr W refs N0 H0 (evS G (.ite t a b))) := by
  refine PS.imp (ps_if hc ha hb) fun D σ H ⟨r, N, I, h⟩ => ?_
  simp only [evS] at h
  show tB K Fa Ca pr W (evT G t) σ H _
  refine tG_mono (so_bind (rel := relB) I h) fun k H1 ⟨y, r1, N1, s1, I1, q1, p1⟩ => ?_
  cases (show k = y from q1)
  cases k with
  | true => rw [if_pos rfl]; exact ⟨r1, N1, I1, p1⟩
  | false => rw [if_neg Bool.false_ne_true]; exact ⟨r1, N1, I1, p1⟩
/-! ### stores into names -/
theorem putO {i : Nat} {s : Sv} (I : FrI K Fa pr refs N0 H0 r σ N H) (hi : i < r.length) (np : NoPr pr i) (h : SvR K Fa N H v s) (na : ∀ a d, s = .dat true d → v = .ref a → ¬ own r σ a ∧ (a ∈ refs ∨ H0 a = none)) : FrI K Fa pr refs N0 H0 (r.set i (some s)) (σ.set i (some v)) N H := by
  refine ⟨I.g.put hi np h fun a d e1 e2 => (na a d e1 e2).1, I.ext, fun b hb => ?_, I.t0⟩
  rcases own_put hb with z | ⟨d, e1, e2⟩
  · exact I.ow b z
  · cases e1
    cases e2
    exact (na b d rfl rfl).2
theorem FrI.freshO {x : R} (I : FrI K Fa pr refs N0 H0 r1 σ N1 H1) (q : RR K Fa r1 σ N1 H1 v x) (f : ∀ d a, x = .val true d → v = .ref a → ¬ N0 a ∨ a ∈ refs) : ∀ d a, x = .val true d → v = .ref a → a ∈ refs ∨ H0 a = none := fun d a e1 e2 => by
  rcases f d a e1 e2 with n | n
  · subst e1
    obtain ⟨b, e3, h1, _⟩ := q
    rw [e2] at e3
    cases e3
    exact .inr ((I.ext.new a h1).resolve_left n)
  · exact .inl n
theorem putSlot_ok {i : Nat} {x : R} {r0 : En} {N00 : NS} {H00 : Hp} (I0 : FrI K Fa pr refs N0 H0 r0 σ N00 H00) (s : Stp r0 σ N00 H00 r N H) (I : FrI K Fa pr refs N0 H0 r σ N H) (np : NoPr pr i) (q : RF K Fa r0 N00 r σ N H v x) (e : putSlot i x r = some r2) : ∃ N2, FrI K Fa pr refs N0 H0 r2 (σ.set i (some v)) N2 H ∧ Fz N H N2 H := by
  unfold putSlot at e
  split at e
  · rename_i hi
    split at e
    · rename_i o d
      cases e
      refine ⟨N, putO I hi np (s := .dat o d) ?_ ?_, Fz.refl⟩
      · cases o with
        | false => exact q.1
        | true => obtain ⟨a, h1, h2, h3, _⟩ := q.1; exact ⟨a, h1, h2, h3⟩
      · intro a d' e1 e2
        cases e1
        obtain ⟨b, h1, h2, h3, h4⟩ := q.1
        rw [e2] at h1
        cases h1
        exact ⟨h4, I.freshO q.1 (I0.fresh q.2) d a rfl e2⟩
    · rename_i k ds
      cases e
      exact ⟨N, putO I hi np (s := .fn k ds) q.1 (fun a d e => nomatch e), Fz.refl⟩
    · rename_i j
      split at e
      · rename_i o d ej
        cases e
        have et : take r (.sl j) = some (d, r.set j (some (.dat false d))) := by simp only [take, ej]
        obtain ⟨N2, g2, s2, q2, _⟩ := RR.take (dr := (d, r.set j (some (.dat false d)))) I.g (Stp.refl I.g) q.1 trivial I.g et
        have I2 := I.step s2 g2
        exact ⟨N2, putO I2 (by rw [List.length_set]; exact hi) np (s := .dat false d) q2 (fun a d e => nomatch e), s2.ext.rps⟩
      · cases e
  · cases e
theorem fs_set {i : Nat} {c : CE} {x : Str} {e : Expr} {pos' : Pos} (np : NoPr pr i) (hN : X.N.Nodup) (hi : X.N[i]? = some x) (hx : Loc X.env.scope x) (hf : X.fn x = true ∨ X.env.scope.names.lookup x = some .local) (hs : swapsWith e (some (.Name x pos')) pos.line X.env = pure false) (h1 : PE X e (tE K Fa Ca pr W (evE G c))) :
    PS X (.Assign [.Name x pos'] e pos) (tS K Fa Ca pr W refs N0 H0 (evS G (.set i c))) := by
  refine PS.imp (ps_set hN hi hx h1 hs hf) fun D σ H ⟨r, N, I, h⟩ => ?_
  simp only [evS] at h
  show tE K Fa Ca pr W (evE G c) σ H _
  refine tG_mono (so_bind (rel := relE K Fa) I h) fun v H1 ⟨y, r1, N1, s1, I1, q1, p1⟩ => ?_
  cases e : putSlot i y r1 with
  | none => simp only [e] at p1; exact p1.elim
  | some r2 =>
    simp only [e] at p1
    obtain ⟨N2, I2, f2⟩ := putSlot_ok I s1 I1 np q1 e
    exact p1 _ N2 H1 I2 f2
end
end E2

set_option Elab.async false
set_option linter.all false
set_option maxRecDepth 100000
set_option maxHeartbeats 2000000
namespace E2
variable [Tbs]
open PySem PySem.Spec PyProof.Rows L2
section
variable {K : Kw} {Fa Ca : Nat → Addr} {pr : List (Nat × Addr)} {W : WX} {refs : List Addr} {N0 : NS} {H0 : Hp} {r r1 r2 r' : En} {σ σ2 : L2.St} {N N1 N' : NS} {H H1 H' : Hp} {v : V} {d : D} {a : Addr} {α β γ δ : Type} {X : Cx} {G : Gs} {pos : Pos} {tg : Expr} {tq tq1 : Tg} {vs us : List Nat} {Dr : Addr} {De : Ends}
/-- name = [..] on one line -/
theorem fs_setLc {i : Nat} {y : Str} {py spos : Pos} {own : List (Str × Nat)} {it : CI} {cond : CTo} {elt : CE} {elte tge itere : Expr} {ifs : List Expr} {scope : Scope} (npi : NoPr pr i) (hc : X.calm = true) (hN : X.N.Nodup) (hy : X.N[i]? = some y) (hyl : X.env.scope.names.lookup y = some .local)
    (hsw : swapsWith (.ListComp elte [⟨tge, itere, ifs, 0⟩] scope pos) (some (.Name y py)) spos.line X.env = pure true) (hi : PI X tge itere (tIt K tq Fa Ca pr W (evI G it))) (ok : BlkOk X.N X.env.scope scope own)
    (np : ∀ i ∈ own.map (·.2), NoPr pr i) (hj : ∀ j ∈ tgS tq, j ∈ own.map (·.2))
    (hg : ∀ (s : Shared) (H : Hp) (C : Addr) (cl : List (Str × Addr)) (fp : List Addr), PG (X.blk s H scope (compEnvC scope cl C X.env) fp) tge (gB K tq)) (ht : ∀ (s : Shared) (H : Hp) (C : Addr) (cl : List (Str × Addr)) (fp : List Addr), PTs (X.blk s H scope (compEnvC scope cl C X.env) fp) ifs (tB K Fa Ca pr WF (evC G cond)))
    (he : ∀ (s : Shared) (H : Hp) (C : Addr) (cl : List (Str × Addr)) (fp : List Addr), PE (X.blk s H scope (compEnvC scope cl C X.env) fp) elte (tE K Fa Ca pr WF (evE G elt))) (hs : ∀ x, foldedSetIterable itere X.env x = pure x) :
    PS X (.Assign [.Name y py] (.ListComp elte [⟨tge, itere, ifs, 0⟩] scope pos) spos) (tS K Fa Ca pr W refs N0 H0 (evS G (.set i (.lc own tq it cond elt)))) := by
  refine PS.imp (ps_setLc hc hN hy hyl hsw hi ok hg ht he hs) fun D σ H ⟨r, N, I, h⟩ => ?_
  simp only [evS] at h
  refine lc_imp np hj (tG_mono (so_bind (rel := relE K Fa) I h) fun v H1 ⟨y, r1, N1, s1, I1, q1, p1⟩ => ?_)
  cases e : putSlot i y r1 with
  | none => simp only [e] at p1; exact p1.elim
  | some r2 =>
    simp only [e] at p1
    obtain ⟨N2, I2, f2⟩ := putSlot_ok I s1 I1 npi q1 e
    exact p1 _ N2 H1 I2 f2
theorem fs_setLc2 {i : Nat} {y : Str} {py spos : Pos} {own : List (Str × Nat)} {vs1 : List Nat} {it it1 : CI} {cond cond1 : CTo} {elt : CE} {elte tge itere tge1 itere1 : Expr} {ifs ifs1 : List Expr} {scope : Scope} (npi : NoPr pr i) (hc : X.calm = true) (hN : X.N.Nodup) (hy : X.N[i]? = some y) (hyl : X.env.scope.names.lookup y = some .local)
    (hsw : swapsWith (.ListComp elte [⟨tge, itere, ifs, 0⟩, ⟨tge1, itere1, ifs1, 0⟩] scope pos) (some (.Name y py)) spos.line X.env = pure true) (hi : PI X tge itere (tIt K tq Fa Ca pr W (evI G it))) (ok : BlkOk X.N X.env.scope scope own) (hv : ∀ i ∈ vs1, i ∈ own.map (·.2))
    (np : ∀ i ∈ own.map (·.2), NoPr pr i) (hj : ∀ j ∈ tgS tq, j ∈ own.map (·.2)) (hj1 : ∀ j ∈ tgS tq1, j ∈ vs1)
    (hg : ∀ (s : Shared) (H : Hp) (C : Addr) (cl : List (Str × Addr)) (fp : List Addr), PG (X.blk s H scope (compEnvC scope cl C X.env) fp) tge (gB K tq)) (ht : ∀ (s : Shared) (H : Hp) (C : Addr) (cl : List (Str × Addr)) (fp : List Addr), PTs (X.blk s H scope (compEnvC scope cl C X.env) fp) ifs (tB K Fa Ca pr WF (evC G cond)))
    (hi1 : ∀ (s : Shared) (H : Hp) (C : Addr) (cl : List (Str × Addr)) (fp : List Addr), PI (X.blk s H scope (compEnvC scope cl C X.env) fp) tge1 itere1 (tIt K tq1 Fa Ca pr WF (evI G it1)))
    (hg1 : ∀ (s : Shared) (H : Hp) (C : Addr) (cl : List (Str × Addr)) (fp : List Addr), PG (X.blk s H scope (compEnvC scope cl C X.env) fp) tge1 (gB K tq1)) (ht1 : ∀ (s : Shared) (H : Hp) (C : Addr) (cl : List (Str × Addr)) (fp : List Addr), PTs (X.blk s H scope (compEnvC scope cl C X.env) fp) ifs1 (tB K Fa Ca pr WF (evC G cond1)))
    (he : ∀ (s : Shared) (H : Hp) (C : Addr) (cl : List (Str × Addr)) (fp : List Addr), PE (X.blk s H scope (compEnvC scope cl C X.env) fp) elte (tE K Fa Ca pr WF (evE G elt))) (hs : ∀ x, foldedSetIterable itere X.env x = pure x) (hs1 : ∀ env x, foldedSetIterable itere1 env x = pure x) :
    PS X (.Assign [.Name y py] (.ListComp elte [⟨tge, itere, ifs, 0⟩, ⟨tge1, itere1, ifs1, 0⟩] scope pos) spos) (tS K Fa Ca pr W refs N0 H0 (evS G (.set i (.lc2 own vs1 tq it cond tq1 it1 cond1 elt)))) := by
  refine PS.imp (ps_setLc2 hc hN hy hyl hsw hi ok hv hg ht hi1 hg1 ht1 he hs hs1) fun D σ H ⟨r, N, I, h⟩ => ?_
  simp only [evS] at h
  refine lc2_imp hv np hj hj1 (tG_mono (so_bind (rel := relE K Fa) I h) fun v H1 ⟨y, r1, N1, s1, I1, q1, p1⟩ => ?_)
  cases e : putSlot i y r1 with
  | none => simp only [e] at p1; exact p1.elim
  | some r2 =>
    simp only [e] at p1
    obtain ⟨N2, I2, f2⟩ := putSlot_ok I s1 I1 npi q1 e
    exact p1 _ N2 H1 I2 f2

/-! ### loops -/
theorem fs_whl {t : CT} {b : CSs} {c : Expr} {body : List Stmt} (hp : PassesOwn (model X.prog X.w) X.A X.env X.xe) (hc : PT X c (tB K Fa Ca pr W (evT G t))) (hb : PSs X body (tS K Fa Ca pr W refs N0 H0 (evSs G b))) : PS X (.While c body [] pos) (tS K Fa Ca pr W refs N0 H0 (evS G (.whl t b))) := by
  refine PS.imp (ps_while hp hc hb) fun D σ H ⟨r, N, I, h⟩ => ?_
  simp only [evS] at h
  refine ⟨fun m σ H => ∃ r' N', FrI K Fa pr refs N0 H0 r' σ N' H ∧ PostS K Fa Ca pr W refs N0 H0 N' H D (whileF (evT G t) (evSs G b) m r'), ⟨G.fuel, r, N, I, h⟩, ?_⟩
  rintro m σ H ⟨r', N', I', h'⟩
  cases m with
  | zero => exact h'.elim
  | succ m =>
    simp only [whileF] at h'
    show tB K Fa Ca pr W (evT G t) σ H _
    refine tG_mono (so_bind (rel := relB) I' h') fun k H1 ⟨y, r1, N1, s1, I1, q1, p1⟩ => ?_
    cases (show k = y from q1)
    cases k with
    | false => rw [if_neg Bool.false_ne_true]; exact p1 σ N1 H1 I1 Fz.refl
    | true =>
      rw [if_pos rfl]
      refine ⟨fun σ2 H2 => ∃ r2 N2, FrI K Fa pr refs N0 H0 r2 σ2 N2 H2 ∧ PostS K Fa Ca pr W refs N0 H0 N2 H2 D (whileF (evT G t) (evSs G b) m r2), fun σ2 H2 q => ⟨m, Nat.lt_succ_self m, q⟩, r1, N1, I1, ?_⟩
      cases e : evSs G b r1 with
      | nx r2 => simp only [e] at p1; exact fun σ2 N2 H2 I2 f2 => ⟨r2, N2, I2, PostS.fz f2 p1⟩
      | cont r2 => simp only [e] at p1; exact fun σ2 N2 H2 I2 f2 => ⟨r2, N2, I2, PostS.fz f2 p1⟩
      | brk r2 => simp only [e] at p1; exact p1
      | ret x r2 => simp only [e] at p1; exact p1
      | exc x r2 => simp only [e] at p1; exact p1
      | stuck => simp only [e] at p1; exact p1
theorem FrI.item {x : V} {H'' : Hp} {rb : En} {R : L2.St → Hp → Prop} (I : FrI K Fa pr refs N0 H0 r σ N H) (np : ∀ j ∈ tgS tq, NoPr pr j) (it : ItR K tq N H x H'' d) (e : bindT d r tq = some rb) (h : ∀ σ2, FrI K Fa pr refs N0 H0 rb σ2 N H'' → Fz N H N H'' → R σ2 H'') : gB K tq x σ H'' R := by
  have st : FrI K Fa pr refs N0 H0 r σ N H'' ∧ ItV K N H'' x d tq ∧ Fz N H N H'' := by
    rcases it with ⟨rfl, h⟩ | ⟨T, xs, es, ⟨ts, rfl⟩, rfl, hT, rfl, rfl, ra⟩
    · exact ⟨I, h.itV, Fz.refl⟩
    · have E : Ext (fun _ => False) N H N (upd H T (.tup xs)) := ext_newT hT fun _ z => z.elim
      exact ⟨I.step (I.g.stp0 E) (I.g.ext0 E (trk_newT hT I.g.trk)), .inr ⟨T, xs, es, rfl, rfl, .inl (.inl upd_same), ra.ext E I.g.trk⟩, E.rps⟩
  obtain ⟨J, iv, f⟩ := st
  exact bind_ok tq e J.g np iv fun σ2 g2 b2 => h σ2 ⟨g2, J.ext, fun b hb => J.ow b (b2.own hb), J.t0⟩ f
theorem fs_for {it : CI} {b : CSs} {tge itere : Expr} {body : List Stmt} (hp : PassesOwn (model X.prog X.w) X.A X.env X.xe) (hc : X.calm = true) (np : ∀ j ∈ tgS tq, NoPr pr j) (hi : PI X tge itere (tIt K tq Fa Ca pr W (evI G it))) (hg : PG X tge (gB K tq)) (hb : PSs X body (tS K Fa Ca pr W refs N0 H0 (evSs G b))) (hs : ∀ x, foldedSetIterable itere X.env x = pure x) :
    PS X (.For tge itere body [] pos) (tS K Fa Ca pr W refs N0 H0 (evS G (.for tq it b))) := by
  refine PS.imp (ps_for hp hc hi hg hb hs) fun D σ H ⟨r, N, I, h⟩ => ?_
  simp only [evS] at h
  show tIt K tq Fa Ca pr W (evI G it) σ H _
  refine tG_mono (so_bind (rel := relI K tq) I h) fun J H1 ⟨xs, r1, N1, s1, I1, ⟨GG, YY, walk, wst⟩, p1⟩ => ?_
  refine for_it walk (fun i σ' H' => ∃ r' N', FrI K Fa pr refs N0 H0 r' σ' N' H' ∧ Fz N1 H1 N' H' ∧ PostS K Fa Ca pr W refs N0 H0 N' H' D (forF (fun d r => bindT d r tq) (evSs G b) (xs.drop i) r')) ⟨r1, N1, I1, Fz.refl, p1⟩ ?_ ?_ ?_
  · rintro i σ' H' hi ⟨r', N', I', f', _⟩
    exact (wst N' H' f').1
  · rintro i x σ' H' H'' hi ⟨r', N', I', f', p'⟩ y
    have ei : xs.drop i = xs[i] :: xs.drop (i + 1) := List.drop_eq_getElem_cons hi
    have item := (wst N' H' f').2 i x H'' xs[i] y (List.getElem?_eq_getElem hi)
    rw [ei] at p'
    cases eb : bindT xs[i] r' tq with
    | none => simp only [forF, eb] at p'; exact p'.elim
    | some rb =>
      simp only [forF, eb] at p'
      refine I'.item np item eb fun σ2 I2 f2 => ⟨rb, N', I2, ?_⟩
      have p' := PostS.fz f2 p'
      cases e : evSs G b rb with
      | nx r3 => simp only [e] at p'; exact fun σ3 N3 H3 I3 f3 => ⟨r3, N3, I3, frz_trans (frz_trans f' f2) f3, PostS.fz f3 p'⟩
      | cont r3 => simp only [e] at p'; exact fun σ3 N3 H3 I3 f3 => ⟨r3, N3, I3, frz_trans (frz_trans f' f2) f3, PostS.fz f3 p'⟩
      | brk r3 => simp only [e] at p'; exact p'
      | ret x r3 => simp only [e] at p'; exact p'
      | exc x r3 => simp only [e] at p'; exact p'
      | stuck => simp only [e] at p'; exact p'
  · rintro σ' H' ⟨r', N', I', f', p'⟩
    rw [List.drop_length] at p'
    exact p' σ' N' H' I' Fz.refl
end
end E2

set_option Elab.async false
set_option linter.all false
set_option maxRecDepth 100000
set_option maxHeartbeats 2000000
namespace E2
variable [Tbs]
open PySem PySem.Spec PyProof.Rows L2
section
variable {K : Kw} {Fa Ca : Nat → Addr} {pr : List (Nat × Addr)} {W : WX} {refs : List Addr} {N0 : NS} {H0 : Hp} {r r1 r2 r' : En} {σ σ2 : L2.St} {N N1 N' : NS} {H H1 H' : Hp} {v : V} {d : D} {a : Addr} {α β γ δ : Type} {X : Cx} {G : Gs} {pos : Pos} {tg : Expr} {tq tq1 : Tg} {vs us : List Nat} {Dr : Addr} {De : Ends}
/-! ### a, b = x, y -/
theorem settle_ok : ∀ {xs : List R} {vs : List V} {r : En} {N : NS} {ys : List R} {r' : En}, Good K Fa pr r σ N H → RRs K Fa r σ N H vs xs → settle r xs = some (ys, r') →
    ∃ N', Good K Fa pr r' σ N' H ∧ Stp r σ N H r' N' H ∧ RRs K Fa r' σ N' H vs ys ∧ (∀ v' x', RR K Fa r σ N H v' x' → RR K Fa r' σ N' H v' x') ∧ frA vs ys = frA vs xs ∧ ∀ y ∈ ys, ∃ o d, y = .val o d
  | [], [], r, N, ys, r', g, _, e => by
    simp only [settle] at e
    cases e
    exact ⟨N, g, Stp.refl g, trivial, fun _ _ h => h, rfl, fun y hy => absurd hy (by simp)⟩
  | .val o d :: xs, v :: vs, r, N, ys, r', g, h, e => by
    simp only [settle] at e
    split at e
    · rename_i ys1 r1 e1
      cases e
      obtain ⟨N1, g1, s1, q1, k1, f1, z1⟩ := settle_ok g h.2 e1
      refine ⟨N1, g1, s1, ⟨k1 _ _ h.1, q1⟩, k1, ?_, fun y hy => ?_⟩
      · cases v <;> cases o <;> simp [frA, f1]
      · rcases List.mem_cons.mp hy with rfl | hy
        · exact ⟨o, d, rfl⟩
        · exact z1 y hy
    · cases e
  | .sl i :: xs, v :: vs, r, N, ys, r', g, h, e => by
    simp only [settle] at e
    split at e
    · rename_i d r1 e1
      split at e
      · rename_i ys1 r2 e2
        cases e
        obtain ⟨N1, g1, s1, q1, k1, k2⟩ := RR.take (dr := (d, r1)) g (Stp.refl g) h.1 trivial g e1
        have kk : ∀ v' x', RR K Fa r σ N H v' x' → RR K Fa r1 σ N1 H v' x' := fun v' x' hr => k2 v' x' hr fun a d e _ z _ _ => nomatch z
        have q : RRs K Fa r1 σ N1 H vs xs := RRs.of_less (fun w y hw _ => kk w y hw) h.2
        obtain ⟨N2, g2, s2, q2, k3, f2, z2⟩ := settle_ok g1 q e2
        refine ⟨N2, g2, s1.trans g s2, ⟨k3 _ (.val false d) q1, q2⟩, fun v' x' hr => k3 _ _ (kk _ _ hr), ?_, fun y hy => ?_⟩
        · cases v <;> simp [frA, f2]
        · rcases List.mem_cons.mp hy with rfl | hy
          · exact ⟨false, d, rfl⟩
          · exact z2 y hy
      · cases e
    · cases e
  | .fn k ds :: xs, _ :: _, _, _, _, _, _, _, e => by simp [settle] at e
  | [], _ :: _, _, _, _, _, _, h, _ => h.elim
  | _ :: _, [], _, _, _, _, _, h, _ => h.elim
def setPar : L2.St → List Nat → List V → L2.St
  | σ, i :: is, v :: vs => setPar (σ.set i (some v)) is vs
  | σ, _, _ => σ
/-- a result that stands for itself, slots aside -/
def VlR (K : Kw) (N : NS) (H : Hp) (v : V) : R → Prop
  | .val false d => Rp K N H v d
  | .val true d => ∃ a, v = .ref a ∧ N a ∧ RpM K N H a d
  | _ => True
def VlsR (K : Kw) (N : NS) (H : Hp) : List V → List R → Prop
  | [], [] => True
  | v :: vs, x :: xs => VlR K N H v x ∧ VlsR K N H vs xs
  | _, _ => False
theorem RRs.vl : ∀ {vs : List V} {ys : List R}, RRs K Fa r σ N H vs ys → VlsR K N H vs ys
  | [], [], _ => trivial
  | v :: vs, y :: ys, h => ⟨by
      cases y with
      | val o d => cases o with
        | false => exact h.1
        | true => obtain ⟨a, h1, h2, h3, _⟩ := h.1; exact ⟨a, h1, h2, h3⟩
      | sl i => trivial
      | fn k ds => trivial, RRs.vl h.2⟩
  | [], _ :: _, h => h.elim
  | _ :: _, [], h => h.elim
theorem RRs.noown : ∀ {vs : List V} {ys : List R}, RRs K Fa r σ N H vs ys → ∀ a ∈ frA vs ys, N a ∧ ¬ own r σ a
  | [], [], _, a, ha => absurd ha (by simp [frA])
  | v :: vs, y :: ys, h, a, ha => by
    unfold frA at ha
    split at ha
    · rename_i e1 e2
      cases e1
      cases e2
      rcases List.mem_cons.mp ha with rfl | ha
      · obtain ⟨b, h1, h2, h3, h4⟩ := h.1
        cases h1
        exact ⟨h2, h4⟩
      · exact RRs.noown h.2 a ha
    · rename_i e1 e2
      cases e1
      cases e2
      exact RRs.noown h.2 a ha
    · exact absurd ha (by simp)
  | [], _ :: _, h, _, _ => h.elim
  | _ :: _, [], h, _, _ => h.elim
theorem putPar_ok : ∀ {is : List Nat} {ys : List R} {vs : List V} {r r2 : En} {σ : L2.St}, FrI K Fa pr refs N0 H0 r σ N H → VlsR K N H vs ys → (∀ a ∈ frA vs ys, ¬ own r σ a ∧ (a ∈ refs ∨ H0 a = none)) → (frA vs ys).Nodup → (∀ i ∈ is, NoPr pr i) → putPar is ys r = some r2 → FrI K Fa pr refs N0 H0 r2 (setPar σ is vs) N H
  | [], [], vs, r, r2, σ, I, h, _, _, _, e => by
    simp only [putPar] at e
    cases e
    cases vs with
    | nil => exact I
    | cons _ _ => exact h.elim
  | i :: is, .val o d :: ys, v :: vs, r, r2, σ, I, h, hn, nd, np, e => by
    simp only [putPar] at e
    split at e
    · rename_i hi
      have I1 : FrI K Fa pr refs N0 H0 (r.set i (some (.dat o d))) (σ.set i (some v)) N H := by
        refine putO I hi (np i List.mem_cons_self) (s := .dat o d) ?_ ?_
        · cases o with
          | false => exact h.1
          | true => exact h.1
        · intro a d' e1 e2
          cases e1
          subst e2
          exact hn a (by simp [frA])
      show FrI K Fa pr refs N0 H0 r2 (setPar (σ.set i (some v)) is vs) N H
      refine putPar_ok (is := is) (ys := ys) (vs := vs) I1 h.2 (fun a ha => ⟨fun z => ?_, (hn a (frA_cons_sub a ha)).2⟩) (frA_cons_nd nd) (fun j hj => np j (List.mem_cons_of_mem _ hj)) e
      rcases own_put z with q | ⟨d', e1, e2⟩
      · exact (hn a (frA_cons_sub a ha)).1 q
      · cases e1
        cases e2
        exact (List.nodup_cons.mp (show (a :: frA vs ys).Nodup from nd)).1 ha
    · cases e
  | _ :: _, .val _ _ :: _, [], _, _, _, _, h, _, _, _, _ => h.elim
  | _ :: _, .sl _ :: _, _, _, _, _, _, _, _, _, _, e => by simp [putPar] at e
  | _ :: _, .fn _ _ :: _, _, _, _, _, _, _, _, _, _, e => by simp [putPar] at e
  | [], _ :: _, _, _, _, _, _, _, _, _, _, e => by simp [putPar] at e
  | _ :: _, [], _, _, _, _, _, _, _, _, _, e => by simp [putPar] at e
theorem putPar_len : ∀ {is : List Nat} {ys : List R} {r r2 : En}, putPar is ys r = some r2 → ys.length = is.length
  | [], [], _, _, _ => rfl
  | i :: is, .val o d :: ys, r, r2, e => by
    simp only [putPar] at e
    split at e
    · exact congrArg (· + 1) (putPar_len e)
    · cases e
  | _ :: _, .sl _ :: _, _, _, e => by simp [putPar] at e
  | _ :: _, .fn _ _ :: _, _, _, e => by simp [putPar] at e
  | [], _ :: _, _, _, e => by simp [putPar] at e
  | _ :: _, [], _, _, e => by simp [putPar] at e
theorem par_run {is : List Nat} {cs : CEs} (np : ∀ i ∈ is, NoPr pr i) (I : FrI K Fa pr refs N0 H0 r σ N H) (h : PostS K Fa Ca pr W refs N0 H0 N H De (evS G (.par is cs) r)) :
    tL K Fa Ca pr W (evEs G cs) σ H fun vs H1 => vs.length = is.length ∧ De.nx (setPar σ is vs) H1 := by
  simp only [evS] at h
  refine tG_mono (so_bind (rel := relL K Fa) I h) fun vs H1 ⟨ys, r1, N1, s1, I1, ⟨q1, f1, n1⟩, p1⟩ => ?_
  cases e1 : settle r1 ys with
  | none => simp only [e1] at p1; exact p1.elim
  | some yr =>
    obtain ⟨zs, r2⟩ := yr
    simp only [e1] at p1
    obtain ⟨N2, g2, s2, q2, _, f2, _⟩ := settle_ok I1.g q1 e1
    have I2 := I1.step s2 g2
    cases e2 : putPar is zs r2 with
    | none => simp only [e2] at p1; exact p1.elim
    | some r3 =>
      simp only [e2] at p1
      refine ⟨q2.length.trans (putPar_len e2), p1 _ N2 H1 (putPar_ok I2 q2.vl (fun a ha => ?_) (f2 ▸ n1) np e2) s2.ext.rps⟩
      obtain ⟨h1, h2⟩ := q2.noown a ha
      refine ⟨h2, ?_⟩
      by_cases z : a ∈ refs
      · exact .inl z
      · rcases I2.ext.new a h1 with n | n
        · rcases I.ow a (f1 a (f2 ▸ ha) (I.ext.stay a n z)) with q | q
          · exact .inl q
          · exact .inr q
        · exact .inr n
theorem fs_par2 {i j : Nat} {cs : CEs} {x y : Str} {a b : Expr} {px py pt : Pos} {kt k2 : Nat} {pt2 : Pos} (np : ∀ i' ∈ [i, j], NoPr pr i') (hc : X.calm = true) (hN : X.N.Nodup) (hi : X.N[i]? = some x) (hj : X.N[j]? = some y) (hij : i ≠ j)
    (hx : X.env.scope.names.lookup x = some .local) (hy : X.env.scope.names.lookup y = some .local) (ha : PA X [a, b] (tL K Fa Ca pr W (evEs G cs)))
    (hw : swappedStores [.Tuple [.Name x px, .Name y py] kt pt] (.Tuple [a, b] k2 pt2) X.env = pure (some [x, y])) :
    PS X (.Assign [.Tuple [.Name x px, .Name y py] kt pt] (.Tuple [a, b] k2 pt2) pos) (tS K Fa Ca pr W refs N0 H0 (evS G (.par [i, j] cs))) := by
  refine PS.imp (ps_par hc hN hi hj hij hx hy ha hw) fun D σ H ⟨r, N, I, h⟩ => ?_
  refine tG_mono (par_run np I h) fun vs H1 ⟨hl, q⟩ => ?_
  match vs, hl, q with
  | [v, w], _, q => exact ⟨v, w, rfl, q⟩
theorem fs_par3 {i j l : Nat} {cs : CEs} {x y z : Str} {a b c : Expr} {px py pz pt : Pos} {kt k2 : Nat} {pt2 : Pos} (np : ∀ i' ∈ [i, j, l], NoPr pr i') (hc : X.calm = true) (hN : X.N.Nodup) (hi : X.N[i]? = some x) (hj : X.N[j]? = some y) (hl : X.N[l]? = some z) (hij : i ≠ j) (hil : i ≠ l) (hjl : j ≠ l)
    (hx : X.env.scope.names.lookup x = some .local) (hy : X.env.scope.names.lookup y = some .local) (hz : X.env.scope.names.lookup z = some .local) (ha : PA X [a, b, c] (tL K Fa Ca pr W (evEs G cs)))
    (hw : swappedStores [.Tuple [.Name x px, .Name y py, .Name z pz] kt pt] (.Tuple [a, b, c] k2 pt2) X.env = pure (some [x, y, z])) :
    PS X (.Assign [.Tuple [.Name x px, .Name y py, .Name z pz] kt pt] (.Tuple [a, b, c] k2 pt2) pos) (tS K Fa Ca pr W refs N0 H0 (evS G (.par [i, j, l] cs))) := by
  refine PS.imp (ps_par3 hc hN hi hj hl hij hil hjl hx hy hz ha hw) fun D σ H ⟨r, N, I, h⟩ => ?_
  refine tG_mono (par_run np I h) fun vs H1 ⟨hl, q⟩ => ?_
  match vs, hl, q with
  | [u, v, w], _, q => exact ⟨u, v, w, rfl, q⟩
end
end E2

set_option Elab.async false
set_option linter.all false
set_option maxRecDepth 100000
set_option maxHeartbeats 2000000
namespace E2
variable [Tbs]
open PySem PySem.Spec PyProof.Rows L2
section
variable {K : Kw} {Fa Ca : Nat → Addr} {pr : List (Nat × Addr)} {W : WX} {refs : List Addr} {N0 : NS} {H0 : Hp} {r r1 r2 r' : En} {σ σ2 : L2.St} {N N1 N' : NS} {H H1 H' : Hp} {v : V} {d : D} {a : Addr} {α β γ δ : Type} {X : Cx} {G : Gs} {pos : Pos} {tg : Expr} {tq tq1 : Tg} {vs us : List Nat} {Dr : Addr} {De : Ends}
/-! ### targets of a store -/
def rSetE (K : Kw) : TSet := fun o i v H Q => ∃ (N : NS) (a : Addr) (c k d c' : D), o = .ref a ∧ N a ∧ (∀ b, N b → Mut (H b)) ∧ RpM K N H a c ∧ DR K N H i k ∧ Rp K N H v d ∧ setD c k d = some c' ∧
  ∀ ho, Mut (some ho) → (Fz N H N (upd H a ho) → RpM K N (upd H a ho) a c') → Q (upd H a ho)
theorem set_any (hK : X.kw = K) (hu : X.A.units + 65 < cLine) : PSet X (rSetE K) := by
  subst hK
  intro pins s σ H o i v ov iv u Q I ro ri rv ⟨N, a, c, k, d, c', e1, ha, tr, m, hi, hv, es, q⟩
  subst e1
  unfold setD at es
  split at es
  · rename_i xs j
    obtain ⟨jj, h1, h2⟩ := Option.map_eq_some_iff.mp es
    subst h2
    obtain ⟨ys, h3, h4⟩ := m
    have hi := hi.int
    subst hi
    exact set_list pins s σ H _ _ v ov iv u Q I ro ri rv ⟨a, ys, j, jj, rfl, rfl, h3, by rw [h4.length]; exact h1, q _ trivial fun st => ⟨_, upd_same, RpA.keep st tr (h4.set hv jj)⟩⟩
  · split at es
    · rename_i kvs k hk
      cases es
      cases ro
      exact dset_any rfl hu I (show DicR X.kw N H a _ from m) tr ha hi ri hv rv hk.1 hk.2 fun o s' mo I' f => ⟨_, I', q o mo fun st => f N st⟩
    · cases es
  · cases es
/-- the thing in slot i, written -/
theorem FrI.write {i : Nat} {c c' : D} {o : HO} (I : FrI K Fa pr refs N0 H0 r σ N H) (hi : r[i]? = some (some (.dat true c))) (hs : σ[i]? = some (some (.ref a))) (mo : Mut (some o)) (rm : Fz N H N (upd H a o) → RpM K N (upd H a o) a c') : FrI K Fa pr refs N0 H0 (r.set i (some (.dat true c'))) σ N (upd H a o) ∧ Fz N H N (upd H a o) := by
  obtain ⟨g, s⟩ := own_write I.g (Stp.refl I.g) I.g hi hs mo rm
  exact ⟨I.step s g, s.ext.rps⟩
theorem own_at (g : Good K Fa pr r σ N H) {i : Nat} {c : D} (hi : r[i]? = some (some (.dat true c))) : ∃ a, σ[i]? = some (some (.ref a)) ∧ N a ∧ RpM K N H a c := by
  obtain ⟨v, h1, a, rfl, h2, h3⟩ := g.slot i _ hi
  exact ⟨a, h1, h2, h3⟩
def PostU (K : Kw) (Fa Ca : Nat → Addr) (pr : List (Nat × Addr)) (W : WX) (refs : List Addr) (N0 : NS) (H0 : Hp) (N : NS) (H : Hp) (Q : L2.St → Hp → Prop) : Rs Unit → Prop
  | .ok _ r' => ∀ σ' N' H', FrI K Fa pr refs N0 H0 r' σ' N' H' → Fz N H N' H' → Q σ' H'
  | .exc x r' => ∀ cls d' σ' N' H', FrI K Fa pr refs N0 H0 r' σ' N' H' → Fz N H N' H' → XR K Ca x cls d' H' → W cls d' σ' H'
  | .stuck => False
def gX (K : Kw) (Fa Ca : Nat → Addr) (pr : List (Nat × Addr)) (W : WX) (refs : List Addr) (N0 : NS) (H0 : Hp) (f : D → En → Rs Unit) : TG := fun v σ H Q => ∃ r N d, FrI K Fa pr refs N0 H0 r σ N H ∧ Rp K N H v d ∧ PostU K Fa Ca pr W refs N0 H0 N H Q (f d r)
def gXs (K : Kw) (Fa Ca : Nat → Addr) (pr : List (Nat × Addr)) (W : WX) (refs : List Addr) (N0 : NS) (H0 : Hp) (f : List D → En → Rs Unit) : TGs := fun vs σ H Q => ∃ r N ds, FrI K Fa pr refs N0 H0 r σ N H ∧ RpA K N H vs ds ∧ PostU K Fa Ca pr W refs N0 H0 N H Q (f ds r)
theorem PG.imp {e : Expr} {t t' : TG} (h : PG X e t) (i : ∀ v σ H Q, t' v σ H Q → t v σ H Q) : PG X e t' := ⟨fun pins s σ H v u Q I r q => h.run pins s σ H v u Q I r (i v σ H Q q)⟩
theorem PGs.imp {e : List Expr} {t t' : TGs} (h : PGs X e t) (i : ∀ v σ H Q, t' v σ H Q → t v σ H Q) : PGs X e t' := ⟨fun pins s σ H v u Q I r q => h.run pins s σ H v u Q I r (i v σ H Q q)⟩
theorem fx_nm {i : Nat} {x : Str} (np : NoPr pr i) (hN : X.N.Nodup) (hi : X.N[i]? = some x) (hx : Loc X.env.scope x) (hf : X.fn x = true ∨ X.env.scope.names.lookup x = some .local) : PG X (.Name x pos) (gX K Fa Ca pr W refs N0 H0 (evX G (.nm i))) :=
  PG.imp (pg_name hN hi hx hf) fun v σ H Q ⟨r, N, d, I, hv, h⟩ => by
    simp only [evX] at h
    by_cases hl : i < r.length
    · rw [if_pos hl] at h
      exact h _ N H (putO I hl np (s := .dat false d) hv fun a d e => nomatch e) Fz.refl
    · rw [if_neg hl] at h
      exact h.elim
theorem fx_sub {i : Nat} {ix : CE} {x : Str} {p : Pos} {e : Expr} (hK : X.kw = K) (hu : X.A.units + 65 < cLine) (hN : X.N[i]? = some x) (hv : Vis X.env.scope x) (hd : (x == ("__debug__" : Str)) = false) (hcd : (x == ("__classdict__" : Str)) = false) (h1 : PE X e (tE K Fa Ca pr W (evE G ix)))
    (ha : ∀ v, assign (.Subscript (.Name x p) e pos) X.env v = (do
      let ov ← holding [v] (eval (.Name x p) X.env)
      let iv ← holding [v, ov] (eval e X.env)
      standAt pos
      holding [v, ov, iv] (setItem ov iv v)
      release [v, ov, iv] [])) : PG X (.Subscript (.Name x p) e pos) (gX K Fa Ca pr W refs N0 H0 (evX G (.sub i ix))) := by
  refine PG.imp (pg_sub (pe_var (pos := p) hN hv hd hcd) h1 (set_any hK hu) ha) fun v σ H Q ⟨r, N, d, I, hv, h⟩ => ?_
  simp only [evX] at h
  split at h
  · rename_i c0 ei
    obtain ⟨a, hs, _, _⟩ := own_at I.g ei
    refine ⟨.ref a, hs, r, N, I.g, ?_⟩
    cases ev : evE G ix r with
    | stuck => rw [ev] at h; exact h.elim
    | exc x r' =>
      rw [ev] at h
      exact fun c d' H' N' s' g' q => h c d' σ N' H' (I.step s' g') s'.ext.rps q
    | ok y r1 =>
      rw [ev] at h
      simp only [Rs.bind] at h
      intro w H1 N1 s1 g1 ⟨q1, f1⟩
      have I1 := I.step s1 g1
      split at h
      · rename_i k e1
        split at h
        · rename_i c e2
          split at h
          · rename_i c' e3
            obtain ⟨a', hs', n', m'⟩ := own_at g1 e2
            rw [hs] at hs'
            cases hs'
            refine ⟨N1, a, c, k, d, c', rfl, n', g1.trk, m', q1.look g1 e1, hv.ext s1.ext I.g.trk, e3, fun ho mo rm => ?_⟩
            obtain ⟨I2, f2⟩ := I1.write e2 hs mo rm
            exact h σ N1 _ I2 (frz_trans s1.ext.rps f2)
          · exact h.elim
        · exact h.elim
      · exact h.elim
  · exact h.elim
theorem fx_nil : PGs X [] (gXs K Fa Ca pr W refs N0 H0 (evXs G .nil)) := PGs.imp pgs_nil fun vs σ H Q ⟨r, N, ds, I, hv, h⟩ => by
  cases hv with
  | nil =>
    simp only [evXs] at h
    exact ⟨rfl, h σ N H I Fz.refl⟩
  | cons _ _ => simp only [evXs] at h; exact h.elim
theorem fx_cons {t : TX} {ts : TXs} {e : Expr} {es : List Expr} (h1 : PG X e (gX K Fa Ca pr W refs N0 H0 (evX G t))) (h2 : PGs X es (gXs K Fa Ca pr W refs N0 H0 (evXs G ts))) (hs : (assignEach (e :: es) X.env).map (·.2) = assign e X.env :: (assignEach es X.env).map (·.2)) :
    PGs X (e :: es) (gXs K Fa Ca pr W refs N0 H0 (evXs G (.cons t ts))) := PGs.imp (pgs_cons h1 h2 hs) fun vs σ H Q ⟨r, N, ds, I, hv, h⟩ => by
  cases hv with
  | nil => simp only [evXs] at h; exact h.elim
  | @cons v vs d ds hv hvs =>
    simp only [evXs] at h
    refine ⟨v, vs, rfl, r, N, d, I, hv, ?_⟩
    cases e : evX G t d r with
    | stuck => rw [e] at h; exact h.elim
    | exc x r' => rw [e] at h; exact h
    | ok u r1 =>
      rw [e] at h
      simp only [Rs.bind] at h
      intro σ1 N1 H1 I1 f1
      refine ⟨r1, N1, ds, I1, hvs.keep f1 I.g.trk, ?_⟩
      cases e2 : evXs G ts ds r1 with
      | stuck => rw [e2] at h; exact h
      | exc x r' => rw [e2] at h; exact fun c d' σ' N' H' I' f' => h c d' σ' N' H' I' (frz_trans f1 f')
      | ok u r2 => rw [e2] at h; exact fun σ' N' H' I' f' => h σ' N' H' I' (frz_trans f1 f')
theorem fx_tup {ts : TXs} {es : List Expr} {k : Nat} (hK : X.kw = K) (hc : X.calm = true) (h1 : PGs X es (gXs K Fa Ca pr W refs N0 H0 (evXs G ts))) (hl : lenTX ts = es.length) (hn : (assignEach es X.env).length = es.length) (hst : (assignEach es X.env).findIdx? (·.1) = none) : PG X (.Tuple es k pos) (gX K Fa Ca pr W refs N0 H0 (evX G (.tup ts))) := by
  subst hK
  refine PG.imp (pg_tup hc h1 hn hst) fun v σ H Q ⟨r, N, d, I, hv, h⟩ => ?_
  simp only [evX] at h
  split at h
  · split at h
    · rename_i ds e
      cases hv with
      | tup h2 h3 => exact ⟨_, _, rfl, h2.sq, h3.length.trans (e.trans hl), r, N, ds, I, h3, h⟩
    · exact h.elim
  · exact h.elim
theorem fs_asg {t : TX} {c : CE} {tge e : Expr} (h1 : PE X e (tE K Fa Ca pr W (evE G c))) (hg : PG X tge (gX K Fa Ca pr W refs N0 H0 (evX G t))) (hs : swapsWithSole [tge] e pos.line X.env = pure false) (hw : swappedStores [tge] e X.env = pure none) (ha : (assignEach [tge] X.env).map (·.2) = [assign tge X.env]) :
    PS X (.Assign [tge] e pos) (tS K Fa Ca pr W refs N0 H0 (evS G (.asg t c))) := by
  refine PS.imp (ps_asg h1 hg hs hw ha) fun D σ H ⟨r, N, I, h⟩ => ?_
  simp only [evS] at h
  show tE K Fa Ca pr W (evE G c) σ H _
  refine tG_mono (so_bind0 (rel := relE K Fa) I h) fun v H1 ⟨y, r1, N1, s1, I1, ⟨q1, f1⟩, p1⟩ => ?_
  cases e : take r1 y with
  | none => simp only [e] at p1; exact p1.elim
  | some dr =>
    obtain ⟨d, r2⟩ := dr
    simp only [e] at p1
    obtain ⟨N2, g2, s2, q2, _⟩ := RR.take (dr := (d, r2)) I.g s1 q1 f1 I1.g e
    refine ⟨r2, N2, d, I.step s2 g2, q2, ?_⟩
    cases e2 : evX G t d r2 with
    | stuck => rw [e2] at p1; exact p1
    | exc x r' => rw [e2] at p1; exact fun c d' σ' N' H' I' f' => p1 c d' σ' N' H' I' (frz_trans s2.ext.rps f')
    | ok u r' => rw [e2] at p1; exact fun σ' N' H' I' f' => p1 σ' N' H' I' (frz_trans s2.ext.rps f')
end
end E2

set_option Elab.async false
set_option linter.all false
set_option maxRecDepth 100000
set_option maxHeartbeats 2000000
namespace E2
variable [Tbs]
open PySem PySem.Spec PyProof.Rows L2
section
variable {K : Kw} {Fa Ca : Nat → Addr} {pr : List (Nat × Addr)} {W : WX} {refs : List Addr} {N0 : NS} {H0 : Hp} {r r1 r2 r' : En} {σ σ2 : L2.St} {N N1 N' : NS} {H H1 H' : Hp} {v : V} {d : D} {a : Addr} {α β γ δ : Type} {X : Cx} {G : Gs} {pos : Pos} {tg : Expr} {tq tq1 : Tg} {vs us : List Nat} {Dr : Addr} {De : Ends}
/-! ### raise, try -/
theorem fs_raise {c : Nat} {x m : Str} {j : Nat} {p p2 pos' : Pos} {B newId initId : String} {bmB : List Value} (hc : X.calm = true) (tk : Takes X W) (he : G.exf c = some []) (F : ExcBaseFacts B newId initId bmB) (q : PySem.W.excIn X.K (Ca c) bmB newId = true) (gC : X.mg x = some (.ref (Ca c))) (kC : PySem.W.keepIn X.K (.ref (Ca c)) = true) (rr : Raises X (.ref (Ca c))) (hg : Gl X x) (hdb : (x == ("__debug__" : Str)) = false) :
    PS X (.Raise (some (.Call (.Name x p) [.Constant (.str m) j p2] [] pos)) none pos') (tS K Fa Ca pr W refs N0 H0 (evS G (.rais c (.cons (.cst (.str m)) .nil)))) := by
  refine PS.imp (ps_raise hc tk (pmk_own F q gC kC rr hg hdb)) fun D σ H ⟨r, N, I, h⟩ => ?_
  simp only [evS, evEs, evE, Rs.bind, Rs.so, takes, take, he] at h
  exact h _ none σ N H I Fz.refl ⟨rfl, fun z => absurd (by simp) z⟩
theorem PostS.noexc {o : So} (h : PostS K Fa Ca pr W refs N0 H0 N H De o) (n : ∀ x r, o ≠ .exc x r) : PostS K Fa Ca pr WF refs N0 H0 N H De o := by
  cases o with
  | exc x r => exact absurd rfl (n x r)
  | _ => exact h
/-- the clauses of a try -/
def hdL (K : Kw) (Fa Ca : Nat → Addr) (pr : List (Nat × Addr)) (refs : List Addr) (N0 : NS) (H0 : Hp) (G : Gs) : Hds → List (Value × (Addr → Value → Option Addr → TS))
  | .nil => []
  | .cons c _ b hs => (.ref (Ca c), fun _ _ _ => tS K Fa Ca pr WF refs N0 H0 (evSs G b)) :: hdL K Fa Ca pr refs N0 H0 G hs
theorem hd_run (hsub : ∀ a b k, G.sub a b = some k → PySem.W.exmOne X.K (.ref (Ca a)) (.ref (Ca b)) = some k) {x : Ex} {cls : Value} {dd : Option Addr} (I : FrI K Fa pr refs N0 H0 r σ N H) (hx : XR K Ca x cls dd H) : ∀ {hs : Hds}, PostS K Fa Ca pr W refs N0 H0 N H De (evH G hs x r) → wMany X.K W De (hdL K Fa Ca pr refs N0 H0 G hs) cls dd σ H
  | .nil, h => by
    simp only [evH] at h
    exact h cls dd σ N H I Fz.refl hx
  | .cons c as_ b hs, h => by
    simp only [evH] at h
    obtain ⟨rfl, _⟩ := hx
    cases e : G.sub x.cls c with
    | none => simp only [e] at h; exact h.elim
    | some k =>
      refine ⟨k, hsub _ _ _ e, fun ek a ha => ?_, fun ek => ?_⟩
      · subst ek
        simp only [e] at h
        cases as_ with
        | some _ => exact h.elim
        | none =>
          refine ⟨r, N, I, ?_⟩
          cases e2 : evSs G b r with
          | exc x' r' => simp only [e2] at h; exact h.elim
          | nx r' => simp only [e2] at h; exact h
          | brk r' => simp only [e2] at h; exact h
          | cont r' => simp only [e2] at h; exact h
          | ret y r' => simp only [e2] at h; exact h
          | stuck => simp only [e2] at h; exact h
      · subst ek
        simp only [e] at h
        exact hd_run hsub I ⟨rfl, by assumption⟩ h
theorem fs_try {b : CSs} {hs : Hds} {body : List Stmt} {h₀ : ExceptHandler} {hds : List ExceptHandler} (hst : X.stack = X.env :: X.outer) (hf : X.env.frame = some X.env.locals) (tk : Takes X W) (hsub : ∀ a b k, G.sub a b = some k → PySem.W.exmOne X.K (.ref (Ca a)) (.ref (Ca b)) = some k)
    (hb : ∀ (W : WX) (pn : List (Addr × Obj)) (xe : Value → Shared → Prop), Takes (X.tr pn xe) W → PassesOwn (model X.prog X.w) X.A X.env xe → PSs (X.tr pn xe) body (tS K Fa Ca pr W refs N0 H0 (evSs G b)))
    (hh : HdsOk X (h₀ :: hds) (hdL K Fa Ca pr refs N0 H0 G hs)) : PS X (.Try body (h₀ :: hds) [] [] pos) (tS K Fa Ca pr W refs N0 H0 (evS G (.try_ b hs))) := by
  refine PS.imp (ps_try_many (tb := fun W => tS K Fa Ca pr W refs N0 H0 (evSs G b)) hst hf tk hb hh) fun D σ H ⟨r, N, I, h⟩ => ⟨r, N, I, ?_⟩
  simp only [evS] at h
  cases e : evSs G b r with
  | exc x r1 =>
    simp only [e] at h
    exact fun cls d σ' N' H' I' f' hx => hd_run hsub I' hx (PostS.fz f' h)
  | nx r' => simp only [e] at h; exact h
  | brk r' => simp only [e] at h; exact h
  | cont r' => simp only [e] at h; exact h
  | ret y r' => simp only [e] at h; exact h
  | stuck => simp only [e] at h; exact h
end
end E2

set_option Elab.async false
set_option linter.all false
set_option maxRecDepth 100000
set_option maxHeartbeats 2000000
namespace E2
variable [Tbs]
open PySem PySem.Spec PyProof.Rows L2
/-! ## the checker: a term of code against the program's syntax -/
/-- a lambda: its parameter, its names (parameter, captured ones, others), the captured ones, its code -/
structure LamDt where
  x : Str
  N : List Str
  fr : List Str
  ce : CE
/-- what is known of a def's names -/
structure Sm where
  N : List Str
  nr : List Nat
  fnm : List Str
  gnm : List Str
  enm : List Str
  lq : Option Str
  lams : List LamDt
def visB (sc : Scope) (x : Str) : Bool := match sc.names.lookup x with
  | some .local => true
  | some .cell => true
  | some .free => true
  | _ => false
def glB (sc : Scope) (x : Str) : Bool := decide (sc.names.lookup x = some .globalImplicit)
def sp1 : Str := "__debug__"
def sp2 : Str := "__classdict__"
def okN (x : Str) : Bool := !(x == sp1) && !(x == sp2)
def cstB : Const → D → Bool
  | .none, .none => true
  | .bool a, .bool b => decide (a = b)
  | .int a, .int b => decide (a = b)
  | .str a, .str b => decide (a = b)
  | _, _ => false
def bltN : Blt → Str
  | .len => "len"
  | .tuple => "tuple"
  | .list => "list"
  | .sorted => "sorted"
  | .sum => "sum"
  | .all => "all"
  | .any => "any"
  | .min => "min"
  | .max => "max"
  | .min2 => "min"
  | .max2 => "max"
  | .int => "int"
  | .str => "str"
  | .abs => "abs"
def bnames : List Str := ["len", "tuple", "list", "sorted", "sum", "all", "any", "min", "max", "int", "str", "abs", "isinstance", "range", "enumerate", "zip", "bool", "dict"]
/-- the built-in types that isinstance is asked about -/
def tyB : Str → String → Bool := fun x t => (x == Str.ofString t) && decide (t ∈ ["int", "bool", "str", "tuple", "list", "dict"])
def noSlice : Expr → Bool
  | .Slice _ _ _ _ => false
  | _ => true
def noSet : Expr → Bool
  | .Set _ _ _ => false
  | _ => true
def noSup : Expr → Bool
  | .Call (.Name _ _) [] [] _ => false
  | _ => true
def noStar : Expr → Bool
  | .Starred _ _ => false
  | _ => true
def disj (l m : List Nat) : Bool := l.all fun i => !(m.contains i)
section
variable (S : Sm)
mutual
def matG (st : Str → Bool) : Tg → Expr → Bool
  | .nm i, e => match e with
    | .Name x _ => decide (S.N[i]? = some x) && st x
    | _ => false
  | .tup ts, e => match e with
    | .Tuple es _ _ => matGs st ts es
    | _ => false
def matGs (st : Str → Bool) : List Tg → List Expr → Bool
  | [], es => match es with
    | [] => true
    | _ => false
  | t :: ts, es => match es with
    | e :: es => noStar e && matG st t e && matGs st ts es
    | [] => false
end
def isTup : Tg → Bool
  | .tup _ => true
  | _ => false
def isTupE : Expr → Bool
  | .Tuple _ _ _ => true
  | _ => false
def stB (scope : Scope) (x : Str) : Bool := match scope.names.lookup x with
  | some .local => true
  | some .cell => true
  | _ => false
def blkS (sc scope : Scope) : Scope := relS scope sc
/-- a block of a comprehension -/
def blkOkB (sc scope : Scope) (own : List (Str × Nat)) : Bool := blkC S.N sc scope own && disj (own.map (·.2)) S.nr && decide ((relS scope sc).kind = .function)
mutual
def matE : CE → Scope → Expr → Bool
  | .var i, sc, e => match e with
    | .Name x _ => decide (S.N[i]? = some x) && visB sc x && okN x
    | _ => false
  | .cst d, _, e => match e with
    | .Constant c _ _ => cstB c d
    | _ => false
  | .gc g, sc, e => match e with
    | .Name x _ => decide (S.gnm[g]? = some x) && glB sc x && okN x
    | _ => false
  | .fnv k, sc, e => match e with
    | .Name x _ => decide (S.fnm[k]? = some x) && glB sc x && okN x
    | _ => false
  | .tup es, sc, e => match e with
    | .Tuple xs _ _ => matEs es sc xs
    | _ => false
  | .lst es, sc, e => match e with
    | .List xs _ => matEs es sc xs
    | _ => false
  | .dic0, _, e => match e with
    | .Dict [] [] _ => true
    | _ => false
  | .dic1 k v, sc, e => match e with
    | .Dict [some a] [b] _ => matE k sc a && matE v sc b
    | _ => false
  | .bin op a b, sc, e => match e with
    | .BinOp x op' y _ => decide (op = op') && matE a sc x && matE b sc y
    | _ => false
  | .rep a b, sc, e => match e with
    | .BinOp x .Mult y _ => matE a sc x && matE b sc y
    | _ => false
  | .neg a, sc, e => match e with
    | .UnaryOp .USub x _ => matE a sc x
    | _ => false
  | .cmp op a b, sc, e => match e with
    | .Compare x [op'] [y] _ => decide (op = op') && !(behindInMarks op y) && matE a sc x && matE b sc y
    | _ => false
  | .chn op1 op2 a b c, sc, e => match e with
    | .Compare x [op1', op2'] [y, z] _ => decide (op1 = op1') && decide (op2 = op2') && !(lastMarks [op1, op2] [y, z]) && matE a sc x && matE b sc y && matE c sc z
    | _ => false
  | .and a b, sc, e => match e with
    | .BoolOp .And (x :: y :: rest) p => matE a sc x && (match rest with
      | [] => matE b sc y
      | z :: zs => matE b sc (.BoolOp .And (y :: z :: zs) p))
    | _ => false
  | .or a b, sc, e => match e with
    | .BoolOp .Or (x :: y :: rest) p => matE a sc x && (match rest with
      | [] => matE b sc y
      | z :: zs => matE b sc (.BoolOp .Or (y :: z :: zs) p))
    | _ => false
  | .not a, sc, e => match e with
    | .UnaryOp .Not x _ => matE a sc x
    | _ => false
  | .ife t a b, sc, e => match e with
    | .IfExp c x y _ => matT t sc c && matE a sc x && matE b sc y
    | _ => false
  | .idx a i, sc, e => match e with
    | .Subscript x y _ => noSlice y && matE a sc x && matE i sc y
    | _ => false
  | .sli a lo hi, sc, e => match e with
    | .Subscript x (.Slice l u none _) _ => matE a sc x && matO lo sc l && matO hi sc u
    | _ => false
  | .call k es, sc, e => match e with
    | .Call (.Name x _) xs [] _ => decide (S.fnm[k]? = some x) && glB sc x && okN x && matEs es sc xs
    | _ => false
  | .callL _ _, _, _ => false
  | .callv i es, sc, e => match e with
    | .Call (.Name x _) (y :: xs) [] _ => decide (S.N[i]? = some x) && visB sc x && okN x && matEs es sc (y :: xs)
    | _ => false
  | .blt b es, sc, e => match e with
    | .Call (.Name x _) (y :: xs) [] _ => decide (x = bltN b) && glB sc x && matEs es sc (y :: xs)
    | _ => false
  | .rng t es, sc, e => match e with
    | .Call (.Name x _) [.Call (.Name y _) xs [] _] [] _ => decide (x = (if t then "tuple" else "list" : Str)) && decide (y = ("range" : Str)) && glB sc x && glB sc y && (match xs with
      | [_] => true
      | [_, _] => true
      | _ => false) && matEs es sc xs
    | _ => false
  | .isin a t, sc, e => match e with
    | .Call (.Name x _) [y, .Name z _] [] _ => decide (x = ("isinstance" : Str)) && glB sc x && glB sc z && tyB z t && noStar y && matE a sc y
    | _ => false
  | .attr _ _, _, _ => false
  | .meth m o es, sc, e => match e with
    | .Call (.Attribute y nm ap) (x :: xs) [] cp => decide (nm = methN m) && noSup y && (ap.endLine == cp.line) && decide ((x :: xs).length < 30) && matE o sc y && matEs es sc (x :: xs)
    | _ => false
  | .mut m i es, sc, e => match e with
    | .Call (.Attribute (.Name y _) nm ap) xs [] cp => decide (nm = mutN m) && decide (S.N[i]? = some y) && visB sc y && okN y && (ap.endLine == cp.line) && decide (xs.length < 30) && matEs es sc xs
    | _ => false
  | .lc own tg it cond elt, sc, e => match e with
    | .ListComp x [⟨t, i, ifs, 0⟩] scope _ => blkOkB S sc scope own && (tgS tg).all (fun j => (own.map (·.2)).contains j) && noSet i && matI it tg sc t i && matG S (stB scope) tg t && matC cond (relS scope sc) ifs && matE elt (relS scope sc) x
    | _ => false
  | .lc2 own vs1 tg it cond tg1 it1 cond1 elt, sc, e => match e with
    | .ListComp x [⟨t, i, ifs, 0⟩, ⟨t1, i1, ifs1, 0⟩] scope _ => blkOkB S sc scope own && (tgS tg).all (fun j => (own.map (·.2)).contains j) && (tgS tg1).all (fun j => vs1.contains j) && vs1.all (fun j => (own.map (·.2)).contains j) && noSet i && noSet i1 && matI it tg sc t i && matG S (stB scope) tg t && matC cond (relS scope sc) ifs &&
      matI it1 tg1 (relS scope sc) t1 i1 && matG S (stB scope) tg1 t1 && matC cond1 (relS scope sc) ifs1 && matE elt (relS scope sc) x
    | _ => false
  | .dc own tg it cond k v, sc, e => match e with
    | .DictComp x y [⟨t, i, ifs, 0⟩] scope _ => blkOkB S sc scope own && (tgS tg).all (fun j => (own.map (·.2)).contains j) && noSet i && matI it tg sc t i && matG S (stB scope) tg t && matC cond (relS scope sc) ifs && matE k (relS scope sc) x && matE v (relS scope sc) y
    | _ => false
def matEs : CEs → Scope → List Expr → Bool
  | .nil, _, xs => match xs with
    | [] => true
    | _ => false
  | .cons c cs, sc, xs => match xs with
    | x :: xs => noStar x && matE c sc x && matEs cs sc xs
    | [] => false
def matO : CEo → Scope → Option Expr → Bool
  | .non, _, e => match e with
    | none => true
    | _ => false
  | .som c, sc, e => match e with
    | some e => matE c sc e
    | none => false
def matC : CTo → Scope → List Expr → Bool
  | .non, _, xs => match xs with
    | [] => true
    | _ => false
  | .som c, sc, xs => match xs with
    | [x] => matT c sc x
    | _ => false
def matT : CT → Scope → Expr → Bool
  | .and a b, sc, e => match e with
    | .BoolOp .And (x :: y :: rest) p => matT a sc x && (match rest with
      | [] => matT b sc y
      | z :: zs => matT b sc (.BoolOp .And (y :: z :: zs) p))
    | _ => false
  | .or a b, sc, e => match e with
    | .BoolOp .Or (x :: y :: rest) p => matT a sc x && (match rest with
      | [] => matT b sc y
      | z :: zs => matT b sc (.BoolOp .Or (y :: z :: zs) p))
    | _ => false
  | .not a, sc, e => match e with
    | .UnaryOp .Not x _ => matT a sc x
    | _ => false
  | .ex (.cmp op a b), sc, e => match e with
    | .Compare x [op'] [y] _ => decide (op = op') && !(behindInMarks op y) && matE a sc x && matE b sc y
    | _ => false
  | .ex (.chn op1 op2 a b c), sc, e => match e with
    | .Compare x [op1', op2'] [y, z] _ => decide (op1 = op1') && decide (op2 = op2') && !(lastMarks [op1, op2] [y, z]) && matE a sc x && matE b sc y && matE c sc z
    | _ => false
  | .ex c, sc, e => plainT e && matE c sc e
def matI : CI → Tg → Scope → Expr → Expr → Bool
  | .seq c, _, sc, _, e => matE c sc e
  | .rng es, _, sc, _, e => match e with
    | .Call (.Name x _) xs [] _ => decide (x = ("range" : Str)) && glB sc x && (match xs with
      | [_] => true
      | [_, _] => true
      | _ => false) && matEs es sc xs
    | _ => false
  | .enum es, tq, sc, t, e => match e with
    | .Call (.Name x _) [y] [] _ => decide (x = ("enumerate" : Str)) && glB sc x && isTup tq && isTupE t && matEs es sc [y]
    | _ => false
  | .zip es, tq, sc, t, e => match e with
    | .Call (.Name x _) [y, z] [] _ => decide (x = ("zip" : Str)) && glB sc x && isTup tq && isTupE t && matEs es sc [y, z]
    | _ => false
end
end
end E2

set_option Elab.async false
set_option linter.all false
set_option maxRecDepth 100000
set_option maxHeartbeats 2000000
namespace E2
variable [Tbs]
open PySem PySem.Spec PyProof.Rows L2
section
variable {K : Kw} {Fa Ca : Nat → Addr} {pr : List (Nat × Addr)} {W : WX} {refs : List Addr} {N0 : NS} {H0 : Hp} {r r1 r2 r' : En} {σ σ2 : L2.St} {N N1 N' : NS} {H H1 H' : Hp} {v : V} {d : D} {a : Addr} {α β γ δ : Type} {X : Cx} {G : Gs} {pos : Pos} {tg : Expr} {tq tq1 : Tg} {vs us : List Nat} {Dr : Addr} {De : Ends}
/-! ### name op= e, name[i] op= e, of whole numbers -/
theorem fs_aug {i : Nat} {c : CE} {x : Str} {e : Expr} {pos' : Pos} {op : Operator} {f : Int → Int → Int} (ho : PIp X op (ipI f)) (hb : ∀ a b, binD op (.int a) (.int b) = some (false, .int (f a b))) (np : NoPr pr i) (hN : X.N.Nodup) (hi : X.N[i]? = some x) (hx : Loc X.env.scope x) (hf : X.fn x = true ∨ X.env.scope.names.lookup x = some .local) (h1 : PE X e (tE K Fa Ca pr W (evE G c))) :
    PS X (.AugAssign (.Name x pos') op e pos) (tS K Fa Ca pr W refs N0 H0 (evS G (.aug i op c))) := by
  refine PS.imp (ps_aug hN hi hx h1 ho hf) fun D σ H ⟨r, N, I, h⟩ => ?_
  simp only [evS] at h
  split at h
  · rename_i d ed
    obtain ⟨v, e1, e2⟩ := I.g.slot i _ ed
    refine ⟨v, e1, ?_⟩
    show tE K Fa Ca pr W (evE G c) σ H _
    refine tG_mono (so_bind (rel := relE K Fa) I h) fun w H1 ⟨y, r1, N1, s1, I1, q1, p1⟩ => ?_
    split at p1
    · rename_i f' ef
      split at p1
      · rename_i a b ea eb
        rw [hb] at p1
        simp only at p1
        split at p1
        · rename_i hl
          have q2 := (q1.1.look I1.g ef).int
          cases e2
          exact ⟨_, _, rfl, q2, p1 _ N1 H1 (putO I1 hl np (s := .dat false _) (Rp.int _) fun a d e => nomatch e) Fz.refl⟩
        · exact p1.elim
      · exact p1.elim
    · exact p1.elim
  · exact h.elim
def rIxM (K : Kw) : V → V → Hp → VK → Prop := fun o i H Q => ∃ (N : NS) (a : Addr) (c k w : D), o = .ref a ∧ RpM K N H a c ∧ DR K N H i k ∧ idxD c k = some w ∧ ∀ v, Rp K N H v w → Q v H
theorem get_any (hK : X.kw = K) (hu : X.A.units + 65 < cLine) : PGet X (rIxM K) := by
  subst hK
  intro pins s σ H o i ov iv Q I ro ri ⟨N, a, c, k, w, e1, m, hi, he, q⟩
  subst e1
  cases ro
  unfold idxD at he
  split at he
  · obtain ⟨ys, h3, h4⟩ := m
    have hi := hi.int
    subst hi
    obtain ⟨t, rfl⟩ := ri
    obtain ⟨z, e1, e2⟩ := h4.at he
    obtain ⟨its, r, pl, hz⟩ := I.list (.inl (.inl h3))
    obtain ⟨j, h1, h2, h3', h4', h5⟩ := atI_get e1
    obtain ⟨w', ew, rw'⟩ := r.get h2
    have hl := r.length
    have hn := line63
    have fin : EP X pins σ Q w' s := ⟨z, H, I, rw', q z e2⟩
    rename_i i' 
    by_cases h0 : 0 ≤ i'
    · have hj : i'.toNat = j := by
        rw [seqIndex_of h0 h5] at h1
        exact Option.some.inj h1
      exact wpAny_getItem_list pl.isList h0 (by omega) (by rw [hj]; simpa using ew) fin
    · have hj : (i' + (its.toArray.size : Int)).toNat = j := by
        rw [seqIndex_neg (by omega) h4'] at h1
        rw [List.size_toArray, ← hl]
        exact Option.some.inj h1
      exact wpAny_getItem_list_neg pl.isList (by omega) (by rw [List.size_toArray] <;> omega) (by omega) (by rw [hj]; simpa using ew) fin
  · exact m.elim
  · exact m.elim
  · split at he
    · rename_i kvs k hk
      exact dgetitem_any rfl hu I (show DicR X.kw N H a _ from m) hi ri hk he fun v w' s' I' rv rp => ⟨v, H, I', rv, q v rp⟩
    · cases he
  · cases he
theorem aug_sub {e : Expr} (h : noSlice e = true) : ∀ ov iv new, augStore e ov iv new = (do holding [new, ov, iv] (setItem ov iv new); release [new, ov, iv] []; pure .next) := by
  intro ov iv new
  cases e <;> first | rfl | cases h
theorem noFlatM {k : D} (m : RpM K N H a k) : flatK k = false ∧ tupK k = false := by
  cases k <;> first | exact ⟨rfl, rfl⟩ | exact m.elim
theorem noKeyM {c k v c' : D} (m : RpM K N H a k) (e : setD c k v = some c') : False := by
  unfold setD at e
  obtain ⟨m1, m2⟩ := noFlatM m
  split at e
  · exact m
  · split at e
    · rename_i hk
      have hk := hk.1
      simp [likeKeys, m1, m2] at hk
    · cases e
  · cases e
theorem fs_augi {i : Nat} {ix c : CE} {x : Str} {p : Pos} {e1 e : Expr} {tpos : Pos} {op : Operator} {f : Int → Int → Int} (ho : PIp X op (ipI f)) (hb : ∀ a b, binD op (.int a) (.int b) = some (false, .int (f a b))) (hK : X.kw = K) (hu : X.A.units + 65 < cLine) (hN : X.N[i]? = some x) (hv : Vis X.env.scope x) (hd : (x == ("__debug__" : Str)) = false) (hcd : (x == ("__classdict__" : Str)) = false)
    (ha : noSlice e1 = true) (h1 : PE X e1 (tE K Fa Ca pr W (evE G ix))) (h2 : PE X e (tE K Fa Ca pr W (evE G c))) :
    PS X (.AugAssign (.Subscript (.Name x p) e1 tpos) op e pos) (tS K Fa Ca pr W refs N0 H0 (evS G (.augi i ix op c))) := by
  refine PS.imp (ps_augS (pe_var (pos := p) hN hv hd hcd) h1 (get_any hK hu) h2 ho (set_any hK hu) (aug_sub ha)) fun D σ H ⟨r, N, I, h⟩ => ?_
  simp only [evS] at h
  split at h
  · rename_i c0 ei
    obtain ⟨a, hs, _, _⟩ := own_at I.g ei
    refine ⟨.ref a, hs, ?_⟩
    show tE K Fa Ca pr W (evE G ix) σ H _
    refine tG_mono (so_bind (rel := relE K Fa) I h) fun w H1 ⟨y, r1, N1, s1, I1, q1, p1⟩ => ?_
    split at p1
    · rename_i k ek
      split at p1
      · rename_i c1 ec
        split at p1
        · rename_i n en
          obtain ⟨a', hs', n', m'⟩ := own_at I1.g ec
          rw [hs] at hs'
          cases hs'
          refine ⟨N1, a, c1, k, _, rfl, m', q1.1.look I1.g ek, en, fun v hv => ?_⟩
          cases hv
          show tE K Fa Ca pr W (evE G c) σ H1 _
          have dk := q1.1.look I1.g ek
          refine tG_mono (so_bind (rel := relE K Fa) I1 p1) fun w2 H2 ⟨y2, r2, N2, s2, I2, q2, p2⟩ => ?_
          split at p2
          · rename_i b eb
            rw [hb] at p2
            simp only at p2
            split at p2
            · rename_i c2 ec2
              split at p2
              · rename_i c3 e3
                have hw2 := (q2.1.look I2.g eb).int
                obtain ⟨a2, hs2, n2, m2⟩ := own_at I2.g ec2
                rw [hs] at hs2
                cases hs2
                refine ⟨_, _, rfl, hw2, N2, a, c2, k, _, c3, rfl, n2, I2.g.trk, m2, ?_, Rp.int _, e3, fun ho mo rm => ?_⟩
                · rcases dk with dk | ⟨a3, _, _, m3⟩
                  · exact .inl (dk.ext s2.ext I1.g.trk)
                  · exact (noKeyM m3 e3).elim
                · obtain ⟨I3, f3⟩ := I2.write ec2 hs mo rm
                  exact p2 σ N2 _ I3 f3
              · exact p2.elim
            · exact p2.elim
          · exact p2.elim
        · exact p1.elim
      · exact p1.elim
    · exact p1.elim
  · exact h.elim
end
end E2

set_option Elab.async false
set_option linter.all false
set_option maxRecDepth 100000
set_option maxHeartbeats 4000000
namespace E2
variable [Tbs]
open PySem PySem.Spec PyProof.Rows L2
/-- what the proof of a body's code leans on -/
structure CtxOk (S : Sm) (K : Kw) (Fa Ca : Nat → Addr) (pr : List (Nat × Addr)) (G : Gs) (kr : Nat) (mg : Str → Option Value) (sc : Scope) (st : Str → Bool) (X : Cx) (W : WX) : Prop where
  kw : X.kw = K
  nn : X.N = S.N
  nd : S.N.Nodup
  calm : X.calm = true
  room : Room kr X.A
  scp : X.env.scope = sc
  kind : sc.kind = .function
  mgq : X.mg = mg
  tk : Takes X W
  stq : ∀ x, st x = true → Loc sc x ∧ (X.fn x = true ∨ sc.names.lookup x = some .local)
  fd : ∀ k nm, S.fnm[k]? = some nm → mg nm = some (.ref (Fa k)) ∧ ∃ fd ps, FD X K Fa Ca G kr k fd ps
  sg : ∀ k, G.sig k ≠ [] → Tbs.isL k = false → ∃ nm, S.fnm[k]? = some nm
  il : ∀ k nm, S.fnm[k]? = some nm → Tbs.isL k = false
  fl : ∀ k, Tbs.isL k = true → LamOk X.prog X.w K X.mg X.base G kr k
  gc : ∀ g nm, S.gnm[g]? = some nm → ∃ u w dd, mg nm = some u ∧ L2.RelV w u ∧ G.gcs g = some dd ∧ GcR K w dd
  bl : ∀ x, x ∈ bnames → mg x = none
  npr : ∀ i, i ∉ S.nr → NoPr pr i
section
variable {S : Sm} {K : Kw} {Fa Ca : Nat → Addr} {pr : List (Nat × Addr)} {G : Gs} {kr : Nat} {mg : Str → Option Value} {sc : Scope} {st : Str → Bool} {X : Cx} {W : WX}
theorem visB_out {x : Str} (h : visB sc x = true) : Vis sc x := by
  unfold visB at h
  split at h <;> first | exact .inl (by assumption) | exact .inr (.inl (by assumption)) | exact .inr (.inr (by assumption)) | cases h
theorem okN_out {x : Str} (h : okN x = true) : (x == ("__debug__" : Str)) = false ∧ (x == ("__classdict__" : Str)) = false := by
  unfold okN at h
  simp only [Bool.and_eq_true, Bool.not_eq_true'] at h
  exact h
theorem CtxOk.gl (C : CtxOk S K Fa Ca pr G kr mg sc st X W) {x : Str} (h : glB sc x = true) : Gl X x := by
  show X.env.scope.names.lookup x = some .globalImplicit
  rw [C.scp]
  exact of_decide_eq_true h
theorem CtxOk.vis (C : CtxOk S K Fa Ca pr G kr mg sc st X W) {x : Str} (h : visB sc x = true) : Vis X.env.scope x := by rw [C.scp]; exact visB_out h
theorem CtxOk.un (C : CtxOk S K Fa Ca pr G kr mg sc st X W) : X.A.units + 65 < cLine := by have := C.room.un; omega
theorem CtxOk.bn (C : CtxOk S K Fa Ca pr G kr mg sc st X W) {x : Str} (h : x ∈ bnames) : X.mg x = none := by rw [C.mgq]; exact C.bl x h
/-- inside a comprehension's block -/
theorem CtxOk.blk (C : CtxOk S K Fa Ca pr G kr mg sc st X W) {scope : Scope} (hk : (relS scope sc).kind = .function) (s : Shared) (H : Hp) (cl : List (Str × Addr)) (c : Addr) (fp : List Addr) : CtxOk S K Fa Ca pr G kr mg (relS scope sc) (stB scope) (X.blk s H scope (compEnvC scope cl c X.env) fp) WF where
  kw := C.kw
  nn := C.nn
  nd := C.nd
  calm := C.calm
  room := C.room
  scp := by rw [← C.scp]; rfl
  kind := hk
  mgq := C.mgq
  tk := takes_none5
  stq := fun x h => by
    unfold stB at h
    split at h
    · rename_i e
      exact ⟨.inl (lookup_relS_keep (by decide) e), .inr (lookup_relS_keep (by decide) e)⟩
    · rename_i e
      refine ⟨.inr (lookup_relS_keep (by decide) e), .inl ?_⟩
      show (scope.names.lookup x == some .cell) = true
      rw [e]
      rfl
    · cases h
  fd := fun k nm e => by
    obtain ⟨h1, fd, ps, F⟩ := C.fd k nm e
    exact ⟨h1, fd, ps, ⟨F.ok, F.keep, F.binds, F.np⟩⟩
  sg := C.sg
  il := C.il
  fl := fun k h => ⟨(C.fl k h).run⟩
  gc := C.gc
  bl := C.bl
  npr := C.npr
theorem disj_out {l m : List Nat} (h : disj l m = true) : ∀ i ∈ l, i ∉ m := fun i hi z => by
  have := List.all_eq_true.mp h i hi
  simp [z] at this
theorem CtxOk.blkOk (C : CtxOk S K Fa Ca pr G kr mg sc st X W) {scope : Scope} {own : List (Str × Nat)} (h : blkOkB S sc scope own = true) : BlkOk X.N X.env.scope scope own ∧ (∀ i ∈ own.map (·.2), NoPr pr i) ∧ (relS scope sc).kind = .function := by
  unfold blkOkB at h
  simp only [Bool.and_eq_true, decide_eq_true_eq] at h
  refine ⟨by rw [C.nn, C.scp]; exact blkOk_by h.1.1, fun i hi => C.npr i (disj_out h.1.2 i hi), h.2⟩
theorem noStar_plain {e : Expr} (h : noStar e = true) : plainX e = true := by cases e <;> first | rfl | cases h
theorem noSet_out {e : Expr} (h : noSet e = true) {env : Env} : ∀ x, foldedSetIterable e env x = pure x := by
  intro x
  cases e <;> first | rfl | cases h
theorem noSup_out {e : Expr} (h : noSup e = true) {env : Env} : ∀ n, attributeBase e n env (eval e env) = eval e env := by
  intro n
  unfold noSup at h
  split at h
  · cases h
  · rename_i hn
    unfold attributeBase
    split
    · rename_i id p1 pos
      exact absurd rfl (hn id p1 pos)
    · rfl
theorem asg_cons {e : Expr} {es : List Expr} {env : Env} (h : noStar e = true) : assignEach (e :: es) env = (false, assign e env) :: assignEach es env := by
  cases e <;> first | rfl | cases h
/-! ### targets -/
mutual
theorem soundG (C : CtxOk S K Fa Ca pr G kr mg sc st X W) : ∀ {t : Tg} {e : Expr}, matG S st t e = true → PG X e (gB K t)
  | .nm i, e, h => by
    unfold matG at h
    split at h
    · rename_i x p
      simp only [Bool.and_eq_true, decide_eq_true_eq] at h
      obtain ⟨h1, h2⟩ := C.stq x h.2
      exact pg_name (by rw [C.nn]; exact C.nd) (by rw [C.nn]; exact h.1) (by rw [C.scp]; exact h1) (by rw [C.scp]; exact h2)
    · cases h
  | .tup ts, e, h => by
    unfold matG at h
    split at h
    · rename_i es k p
      obtain ⟨h1, h2, h3, h4⟩ := soundGs C h
      have := pg_tup (X := X) (k := k) (pos := p) (n := ts.length) C.calm h1 (h2.trans h4) h3
      have e2 : X.K = K.fr := by rw [← C.kw]
      rw [e2] at this
      exact this
    · cases h
theorem soundGs (C : CtxOk S K Fa Ca pr G kr mg sc st X W) : ∀ {ts : List Tg} {es : List Expr}, matGs S st ts es = true → PGs X es (gBs K ts) ∧ (assignEach es X.env).length = es.length ∧ (assignEach es X.env).findIdx? (·.1) = none ∧ es.length = ts.length
  | [], es, h => by
    unfold matGs at h
    split at h
    · exact ⟨pgs_nil, rfl, rfl, rfl⟩
    · cases h
  | t :: ts, es, h => by
    unfold matGs at h
    split at h
    · rename_i e es
      simp only [Bool.and_eq_true] at h
      obtain ⟨h1, h2, h3, h4⟩ := soundGs C h.2
      have e1 := asg_cons (es := es) (env := X.env) h.1.1
      refine ⟨pgs_cons (soundG C h.1.2) h1 (by rw [e1]; rfl), by rw [e1]; exact congrArg (· + 1) h2, ?_, congrArg (· + 1) h4⟩
      rw [e1, List.findIdx?_cons]
      simp [h3]
    · cases h
end
/-! ### expressions -/
theorem CtxOk.fdk (C : CtxOk S K Fa Ca pr G kr mg sc st X W) {k : Nat} {x : Str} (h : S.fnm[k]? = some x) : X.mg x = some (.ref (Fa k)) ∧ ∃ fd ps, FD X K Fa Ca G kr k fd ps := by
  obtain ⟨h1, h2⟩ := C.fd k x h
  exact ⟨by rw [C.mgq]; exact h1, h2⟩
theorem cstB_rel : ∀ {c : Const} {d : D}, cstB c d = true → CRel c d
  | .none, .none, _ => .non
  | .bool a, .bool b, h => by
    have e : a = b := of_decide_eq_true h
    subst e
    exact .bl a
  | .int a, .int b, h => by
    have e : a = b := of_decide_eq_true h
    subst e
    exact .int a
  | .str a, .str b, h => by
    have e : a = b := of_decide_eq_true h
    subst e
    exact .str a
  | .none, .bool _, h => by cases h
  | .none, .int _, h => by cases h
  | .none, .str _, h => by cases h
  | .none, .list _, h => by cases h
  | .none, .tuple _, h => by cases h
  | .none, .dict _, h => by cases h
  | .bool _, .none, h => by cases h
  | .bool _, .int _, h => by cases h
  | .bool _, .str _, h => by cases h
  | .bool _, .list _, h => by cases h
  | .bool _, .tuple _, h => by cases h
  | .bool _, .dict _, h => by cases h
  | .int _, .none, h => by cases h
  | .int _, .bool _, h => by cases h
  | .int _, .str _, h => by cases h
  | .int _, .list _, h => by cases h
  | .int _, .tuple _, h => by cases h
  | .int _, .dict _, h => by cases h
  | .str _, .none, h => by cases h
  | .str _, .bool _, h => by cases h
  | .str _, .int _, h => by cases h
  | .str _, .list _, h => by cases h
  | .str _, .tuple _, h => by cases h
  | .str _, .dict _, h => by cases h
  | .float _, d, h => by cases d <;> cases h
  | .complex _ _, d, h => by cases d <;> cases h
  | .bytes _, d, h => by cases d <;> cases h
  | .ellipsis, d, h => by cases d <;> cases h
theorem blt_mem (b : Blt) : bltN b ∈ bnames ∧ bootBuiltins (bltN b) = some (bltV b) ∧ bltN b ≠ "__name__" ∧ (bltN b == ("__debug__" : Str)) = false := by
  cases b <;> exact ⟨by decide, by first | rfl | decide +kernel, by decide, by decide⟩
theorem ty_mem {x : Str} {t : String} (h : tyB x t = true) : x ∈ bnames ∧ bootBuiltins x = some (.type t) ∧ x ≠ "__name__" ∧ (x == ("__debug__" : Str)) = false := by
  unfold tyB at h
  simp only [Bool.and_eq_true, beq_iff_eq, decide_eq_true_eq, List.mem_cons, List.not_mem_nil, or_false] at h
  obtain ⟨rfl, h⟩ := h
  rcases h with rfl | rfl | rfl | rfl | rfl | rfl <;> exact ⟨by decide, by first | rfl | decide +kernel, by decide, by decide⟩
end
end E2

set_option Elab.async false
set_option linter.all false
set_option maxRecDepth 100000
set_option maxHeartbeats 8000000
namespace E2
variable [Tbs]
open PySem PySem.Spec PyProof.Rows L2
section
variable {S : Sm} {K : Kw} {Fa Ca : Nat → Addr} {pr : List (Nat × Addr)} {G : Gs} {kr : Nat} {mg : Str → Option Value}
theorem all_out {l m : List Nat} (h : (l.all fun j => m.contains j) = true) : ∀ j ∈ l, j ∈ m := fun j hj => by
  have := List.all_eq_true.mp h j hj
  simpa using this
theorem matEs_plain : ∀ {cs : CEs} {sc : Scope} {es : List Expr}, matEs S cs sc es = true → es.all plainX = true
  | .nil, sc, es, h => by
    unfold matEs at h
    split at h
    · rfl
    · cases h
  | .cons c cs, sc, es, h => by
    unfold matEs at h
    split at h
    · simp only [Bool.and_eq_true] at h
      rw [List.all_cons, noStar_plain h.1.1, matEs_plain h.2]
      rfl
    · cases h
theorem tup_out {t : Tg} (h : isTup t = true) : ∃ ts, t = .tup ts := by
  cases t with
  | nm i => cases h
  | tup ts => exact ⟨ts, rfl⟩
theorem tupE_out {e : Expr} (h : isTupE e = true) : ∃ es k p, e = .Tuple es k p := by
  unfold isTupE at h
  split at h
  · exact ⟨_, _, _, rfl⟩
  · cases h
theorem rng_few3 {c d f : CE} {cs : CEs} {sc : Scope} {xs : List Expr} (h1 : (match xs with
      | [_] => true
      | [_, _] => true
      | _ => false) = true) (h2 : matEs S (.cons c (.cons d (.cons f cs))) sc xs = true) : False := by
  unfold matEs at h2
  split at h2
  · simp only [Bool.and_eq_true] at h2
    have h3 := h2.2
    unfold matEs at h3
    split at h3
    · simp only [Bool.and_eq_true] at h3
      have h4 := h3.2
      unfold matEs at h4
      split at h4
      · cases h1
      · cases h4
    · cases h3
  · cases h2
theorem nn_at {sc : Scope} {st : Str → Bool} {X : Cx} {W : WX} (C : CtxOk S K Fa Ca pr G kr mg sc st X W) {i : Nat} {x : Str} (h : S.N[i]? = some x) : X.N[i]? = some x := by rw [C.nn]; exact h
mutual
theorem soundE : ∀ (c : CE) {sc : Scope} {st : Str → Bool} {X : Cx} {W : WX} {e : Expr}, CtxOk S K Fa Ca pr G kr mg sc st X W → matE S c sc e = true → PE X e (tE K Fa Ca pr W (evE G c))
  | .var i, sc, st, X, W, e, C, h => by
    unfold matE at h
    split at h
    · simp only [Bool.and_eq_true, decide_eq_true_eq] at h
      obtain ⟨h3, h4⟩ := okN_out h.2
      exact fe_var (nn_at C h.1.1) (C.vis h.1.2) h3 h4
    · cases h
  | .cst d, sc, st, X, W, e, C, h => by
    unfold matE at h
    split at h
    · exact fe_cst (cstB_rel h)
    · cases h
  | .gc g, sc, st, X, W, e, C, h => by
    unfold matE at h
    split at h
    · simp only [Bool.and_eq_true, decide_eq_true_eq] at h
      obtain ⟨h3, h4⟩ := okN_out h.2
      obtain ⟨u, w, dd, q1, q2, q3, q4⟩ := C.gc _ _ h.1.1
      exact fe_gc (C.gl h.1.2) (by rw [C.mgq]; exact q1) q2 q3 q4 h3
    · cases h
  | .fnv k, sc, st, X, W, e, C, h => by
    unfold matE at h
    split at h
    · simp only [Bool.and_eq_true, decide_eq_true_eq] at h
      obtain ⟨h3, h4⟩ := okN_out h.2
      exact fe_fnv (C.il _ _ h.1.1) (C.gl h.1.2) (C.fdk h.1.1).1 h3
    · cases h
  | .tup es, sc, st, X, W, e, C, h => by
    unfold matE at h
    split at h
    · exact fe_tup (soundEs es C h)
    · cases h
  | .lst es, sc, st, X, W, e, C, h => by
    unfold matE at h
    split at h
    · exact fe_lst (soundEs es C h)
    · cases h
  | .dic1 k v, sc, st, X, W, e, C, h => by
    unfold matE at h
    split at h
    · simp only [Bool.and_eq_true] at h
      exact fe_dic1 C.kw C.un (soundE k C h.1) (soundE v C h.2)
    · cases h
  | .dic0, sc, st, X, W, e, C, h => by
    unfold matE at h
    split at h
    · exact fe_dic0
    · cases h
  | .bin op a b, sc, st, X, W, e, C, h => by
    unfold matE at h
    split at h
    · simp only [Bool.and_eq_true, decide_eq_true_eq] at h
      rw [← h.1.1]
      exact fe_bin C.kw (soundE a C h.1.2) (soundE b C h.2)
    · cases h
  | .rep a b, sc, st, X, W, e, C, h => by
    unfold matE at h
    split at h
    · simp only [Bool.and_eq_true] at h
      exact fe_rep (soundE a C h.1) (soundE b C h.2)
    · cases h
  | .neg a, sc, st, X, W, e, C, h => by
    unfold matE at h
    split at h
    · exact fe_neg (soundE a C h)
    · cases h
  | .cmp op a b, sc, st, X, W, e, C, h => by
    unfold matE at h
    split at h
    · simp only [Bool.and_eq_true, decide_eq_true_eq, Bool.not_eq_true'] at h
      rw [← h.1.1.1]
      exact fe_cmp C.kw C.un h.1.1.2 (soundE a C h.1.2) (soundE b C h.2)
    · cases h
  | .chn op1 op2 a b c, sc, st, X, W, e, C, h => by
    unfold matE at h
    split at h
    · simp only [Bool.and_eq_true, decide_eq_true_eq, Bool.not_eq_true'] at h
      rw [← h.1.1.1.1.1, ← h.1.1.1.1.2]
      exact fe_chn C.kw C.un h.1.1.1.2 (soundE a C h.1.1.2) (soundE b C h.1.2) (soundE c C h.2)
    · cases h
  | .and a b, sc, st, X, W, e, C, h => by
    unfold matE at h
    split at h
    · rename_i x y rest p
      simp only [Bool.and_eq_true] at h
      refine fe_and C.kw (soundE a C h.1) ?_
      have h2 := h.2
      split at h2
      · exact pe_one (soundE b C h2)
      · exact soundE b C h2
    · cases h
  | .or a b, sc, st, X, W, e, C, h => by
    unfold matE at h
    split at h
    · rename_i x y rest p
      simp only [Bool.and_eq_true] at h
      refine fe_or C.kw (soundE a C h.1) ?_
      have h2 := h.2
      split at h2
      · exact pe_one (soundE b C h2)
      · exact soundE b C h2
    · cases h
  | .not a, sc, st, X, W, e, C, h => by
    unfold matE at h
    split at h
    · exact fe_not C.kw (soundE a C h)
    · cases h
  | .ife t a b, sc, st, X, W, e, C, h => by
    unfold matE at h
    split at h
    · simp only [Bool.and_eq_true] at h
      exact fe_ife (soundT t C h.1.1).1 (soundE a C h.1.2) (soundE b C h.2)
    · cases h
  | .idx a i, sc, st, X, W, e, C, h => by
    unfold matE at h
    split at h
    · simp only [Bool.and_eq_true] at h
      exact fe_idx C.kw C.un (by have := h.1.1; revert this; unfold noSlice; split <;> simp) (soundE a C h.1.2) (soundE i C h.2)
    · cases h
  | .sli a lo hi, sc, st, X, W, e, C, h => by
    unfold matE at h
    split at h
    · simp only [Bool.and_eq_true] at h
      exact fe_sli C.kw (soundE a C h.1.1) (soundO lo C h.1.2) (soundO hi C h.2)
    · cases h
  | .call k es, sc, st, X, W, e, C, h => by
    unfold matE at h
    split at h
    · rename_i x p xs pos
      simp only [Bool.and_eq_true, decide_eq_true_eq] at h
      obtain ⟨h3, h4⟩ := okN_out h.1.2
      obtain ⟨h5, fd, ps, F⟩ := C.fdk h.1.1.1
      cases xs with
      | nil =>
        cases es with
        | nil => exact fe_call0 F C.room C.tk (C.gl h.1.1.2) h5 h3
        | cons c cs => have := h.2; unfold matEs at this; cases this
      | cons y ys => exact fe_call F C.room C.tk (C.gl h.1.1.2) h5 h3 (matEs_plain h.2) (soundEs es C h.2)
    · cases h
  | .callL k as, sc, st, X, W, e, C, h => by
    unfold matE at h
    cases h
  | .callv i es, sc, st, X, W, e, C, h => by
    unfold matE at h
    split at h
    · simp only [Bool.and_eq_true, decide_eq_true_eq] at h
      obtain ⟨h3, h4⟩ := okN_out h.1.2
      exact fe_callv C.kw (fun k hk hl => by obtain ⟨nm, e⟩ := C.sg k hk hl; exact (C.fdk e).2) C.fl C.room C.tk (nn_at C h.1.1.1) (C.vis h.1.1.2) h3 h4 (matEs_plain h.2) (soundEs es C h.2)
    · cases h
  | .blt b es, sc, st, X, W, e, C, h => by
    unfold matE at h
    split at h
    · simp only [Bool.and_eq_true, decide_eq_true_eq] at h
      obtain ⟨h1, h2, h3, h4⟩ := blt_mem b
      have e1 := h.1.1
      subst e1
      exact fe_blt (c := .dic0) C.kw C.calm C.un (C.gl h.1.2) (C.bn h1) h2 h3 h4 (matEs_plain h.2) (soundEs es C h.2)
    · cases h
  | .rng t (.cons c .nil), sc, st, X, W, e, C, h => by
    unfold matE at h
    split at h
    · rename_i x p1 y p2 xs p3 p4
      simp only [Bool.and_eq_true, decide_eq_true_eq] at h
      obtain ⟨⟨⟨⟨⟨rfl, rfl⟩, h1⟩, h2⟩, h3⟩, h4⟩ := h
      have ra : RgArgs X K Fa Ca pr W G xs (.cons c .nil) := by
        unfold matEs at h4
        split at h4
        · rename_i e1 es1
          simp only [Bool.and_eq_true] at h4
          have h5 := h4.2
          unfold matEs at h5
          split at h5
          · exact .one (noStar_plain h4.1.1) (soundE c C h4.1.2)
          · cases h5
        · cases h4
      cases t with
      | true => exact fe_rngT C.calm (C.gl h1) (C.bn (by decide)) (C.gl h2) (C.bn (by decide)) ra
      | false => exact fe_rngL C.calm (C.gl h1) (C.bn (by decide)) (C.gl h2) (C.bn (by decide)) ra
    · cases h
  | .rng t (.cons c (.cons d .nil)), sc, st, X, W, e, C, h => by
    unfold matE at h
    split at h
    · rename_i x p1 y p2 xs p3 p4
      simp only [Bool.and_eq_true, decide_eq_true_eq] at h
      obtain ⟨⟨⟨⟨⟨rfl, rfl⟩, h1⟩, h2⟩, h3⟩, h4⟩ := h
      have ra : RgArgs X K Fa Ca pr W G xs (.cons c (.cons d .nil)) := by
        unfold matEs at h4
        split at h4
        · rename_i e1 es1
          simp only [Bool.and_eq_true] at h4
          have h5 := h4.2
          unfold matEs at h5
          split at h5
          · simp only [Bool.and_eq_true] at h5
            have h6 := h5.2
            unfold matEs at h6
            split at h6
            · exact .two (noStar_plain h4.1.1) (noStar_plain h5.1.1) (soundE c C h4.1.2) (soundE d C h5.1.2)
            · cases h6
          · cases h5
        · cases h4
      cases t with
      | true => exact fe_rngT C.calm (C.gl h1) (C.bn (by decide)) (C.gl h2) (C.bn (by decide)) ra
      | false => exact fe_rngL C.calm (C.gl h1) (C.bn (by decide)) (C.gl h2) (C.bn (by decide)) ra
    · cases h
  | .rng t .nil, sc, st, X, W, e, C, h => by
    unfold matE at h
    split at h
    · rename_i x p1 y p2 xs p3 p4
      simp only [Bool.and_eq_true] at h
      have h3 := h.1.2
      have h4 := h.2
      unfold matEs at h4
      split at h4
      · cases h3
      · cases h4
    · cases h
  | .rng t (.cons c (.cons d (.cons f cs))), sc, st, X, W, e, C, h => by
    unfold matE at h
    split at h
    · rename_i x p1 y p2 xs p3 p4
      simp only [Bool.and_eq_true] at h
      exact (rng_few3 h.1.2 h.2).elim
    · cases h
  | .isin a t, sc, st, X, W, e, C, h => by
    unfold matE at h
    split at h
    · simp only [Bool.and_eq_true, decide_eq_true_eq] at h
      obtain ⟨⟨⟨⟨⟨rfl, h1⟩, h2⟩, h3⟩, h4⟩, h5⟩ := h
      obtain ⟨q1, q2, q3, q4⟩ := ty_mem h3
      exact fe_isin C.kw (C.gl h1) (C.bn (by decide)) (C.gl h2) (C.bn q1) q2 q3 q4 (noStar_plain h4) (soundE a C h5)
    · cases h
  | .attr i f, sc, st, X, W, e, C, h => by
    unfold matE at h
    cases h
  | .meth m o es, sc, st, X, W, e, C, h => by
    unfold matE at h
    split at h
    · simp only [Bool.and_eq_true, decide_eq_true_eq] at h
      obtain ⟨⟨⟨⟨⟨rfl, h1⟩, h2⟩, h3⟩, h4⟩, h5⟩ := h
      exact fe_meth C.kw C.un (noSup_out h1) h2 (matEs_plain h5) h3 (soundE o C h4) (soundEs es C h5)
    · cases h
  | .mut m i es, sc, st, X, W, e, C, h => by
    unfold matE at h
    split at h
    · rename_i y p nm ap xs cp
      simp only [Bool.and_eq_true, decide_eq_true_eq] at h
      obtain ⟨⟨⟨⟨⟨⟨rfl, h1⟩, h2⟩, h3⟩, h4⟩, h5⟩, h6⟩ := h
      obtain ⟨q3, q4⟩ := okN_out h3
      cases xs with
      | nil =>
        cases es with
        | nil => exact fe_mut0 (nn_at C h1) (C.vis h2) q3 q4 (noSup_out rfl) h4
        | cons c cs => unfold matEs at h6; cases h6
      | cons x xs => exact fe_mut (nn_at C h1) (C.vis h2) q3 q4 (noSup_out rfl) h4 (matEs_plain h6) h5 (soundEs es C h6)
    · cases h
  | .lc own tg it cond elt, sc, st, X, W, e, C, h => by
    unfold matE at h
    split at h
    · rename_i x t i ifs scope p
      simp only [Bool.and_eq_true] at h
      obtain ⟨⟨⟨⟨⟨⟨h1, h2⟩, h3⟩, h4⟩, h5⟩, h6⟩, h7⟩ := h
      obtain ⟨q1, q2, q3⟩ := C.blkOk h1
      exact fe_lc C.calm (by rw [C.nn]; exact C.nd) (soundI it C h4) q1 q2 (all_out h2) (fun s H c cl fp => soundG (C.blk q3 s H cl c fp) h5) (fun s H c cl fp => soundC cond (C.blk q3 s H cl c fp) h6) (fun s H c cl fp => soundE elt (C.blk q3 s H cl c fp) h7) (noSet_out h3)
    · cases h
  | .lc2 own vs1 tg it cond tg1 it1 cond1 elt, sc, st, X, W, e, C, h => by
    unfold matE at h
    split at h
    · rename_i x t i ifs t1 i1 ifs1 scope p
      simp only [Bool.and_eq_true] at h
      obtain ⟨⟨⟨⟨⟨⟨⟨⟨⟨⟨⟨⟨h1, h2⟩, h2b⟩, h2c⟩, h3⟩, h3b⟩, h4⟩, h5⟩, h6⟩, h7⟩, h8⟩, h9⟩, h10⟩ := h
      obtain ⟨q1, q2, q3⟩ := C.blkOk h1
      exact fe_lc2 C.calm (by rw [C.nn]; exact C.nd) (soundI it C h4) q1 (all_out h2c) q2 (all_out h2) (all_out h2b) (fun s H c cl fp => soundG (C.blk q3 s H cl c fp) h5) (fun s H c cl fp => soundC cond (C.blk q3 s H cl c fp) h6) (fun s H c cl fp => soundI it1 (C.blk q3 s H cl c fp) h7)
        (fun s H c cl fp => soundG (C.blk q3 s H cl c fp) h8) (fun s H c cl fp => soundC cond1 (C.blk q3 s H cl c fp) h9) (fun s H c cl fp => soundE elt (C.blk q3 s H cl c fp) h10) (noSet_out h3) (fun env => noSet_out h3b)
    · cases h
  | .dc own tg it cond k v, sc, st, X, W, e, C, h => by
    unfold matE at h
    split at h
    · rename_i x y t i ifs scope p
      simp only [Bool.and_eq_true] at h
      obtain ⟨⟨⟨⟨⟨⟨⟨h1, h2⟩, h3⟩, h4⟩, h5⟩, h6⟩, h7⟩, h8⟩ := h
      obtain ⟨q1, q2, q3⟩ := C.blkOk h1
      exact fe_dc C.calm (by rw [C.nn]; exact C.nd) (soundI it C h4) q1 q2 (all_out h2) (fun s H c cl fp => soundG (C.blk q3 s H cl c fp) h5) (fun s H c cl fp => soundC cond (C.blk q3 s H cl c fp) h6) (fun s H c cl fp => soundE k (C.blk q3 s H cl c fp) h7) (fun s H c cl fp => soundE v (C.blk q3 s H cl c fp) h8) (noSet_out h3)
    · cases h
theorem soundEs : ∀ (cs : CEs) {sc : Scope} {st : Str → Bool} {X : Cx} {W : WX} {es : List Expr}, CtxOk S K Fa Ca pr G kr mg sc st X W → matEs S cs sc es = true → PA X es (tL K Fa Ca pr W (evEs G cs))
  | .nil, sc, st, X, W, es, C, h => by
    unfold matEs at h
    split at h
    · exact fe_nil
    · cases h
  | .cons c cs, sc, st, X, W, es, C, h => by
    unfold matEs at h
    split at h
    · simp only [Bool.and_eq_true] at h
      exact fe_cons (noStar_plain h.1.1) (soundE c C h.1.2) (soundEs cs C h.2)
    · cases h
theorem soundO : ∀ (c : CEo) {sc : Scope} {st : Str → Bool} {X : Cx} {W : WX} {e : Option Expr}, CtxOk S K Fa Ca pr G kr mg sc st X W → matO S c sc e = true → PO X e (tOp K Fa Ca pr W (evO G c))
  | .non, sc, st, X, W, e, C, h => by
    unfold matO at h
    split at h
    · exact fo_non
    · cases h
  | .som c, sc, st, X, W, e, C, h => by
    unfold matO at h
    split at h
    · exact fo_som (soundE c C h)
    · cases h
theorem soundC : ∀ (c : CTo) {sc : Scope} {st : Str → Bool} {X : Cx} {W : WX} {es : List Expr}, CtxOk S K Fa Ca pr G kr mg sc st X W → matC S c sc es = true → PTs X es (tB K Fa Ca pr W (evC G c))
  | .non, sc, st, X, W, e, C, h => by
    unfold matC at h
    split at h
    · exact fc_non
    · cases h
  | .som c, sc, st, X, W, e, C, h => by
    unfold matC at h
    split at h
    · exact fc_som (soundT c C h).1
    · cases h
theorem soundT : ∀ (c : CT) {sc : Scope} {st : Str → Bool} {X : Cx} {W : WX} {e : Expr}, CtxOk S K Fa Ca pr G kr mg sc st X W → matT S c sc e = true → PT X e (tB K Fa Ca pr W (evT G c)) ∧ ∀ op l p, e = .BoolOp op l p → PW X e (tB K Fa Ca pr W (evT G c))
  | .and a b, sc, st, X, W, e, C, h => by
    unfold matT at h
    split at h
    · rename_i x y rest p
      simp only [Bool.and_eq_true] at h
      have h2 := h.2
      have z : PW X (.BoolOp .And (y :: rest) p) (tB K Fa Ca pr W (evT G b)) := by
        split at h2
        · exact pw_and1 (soundT b C h2).1
        · exact (soundT b C h2).2 _ _ _ rfl
      have w := fp_and (pos := p) (soundT a C h.1).1 z
      exact ⟨w.pt, fun _ _ _ _ => w⟩
    · cases h
  | .or a b, sc, st, X, W, e, C, h => by
    unfold matT at h
    split at h
    · rename_i x y rest p
      simp only [Bool.and_eq_true] at h
      have h2 := h.2
      have z : PW X (.BoolOp .Or (y :: rest) p) (tB K Fa Ca pr W (evT G b)) := by
        split at h2
        · exact pw_or1 (soundT b C h2).1
        · exact (soundT b C h2).2 _ _ _ rfl
      have w := fp_or (pos := p) (soundT a C h.1).1 z
      exact ⟨w.pt, fun _ _ _ _ => w⟩
    · cases h
  | .not a, sc, st, X, W, e, C, h => by
    unfold matT at h
    split at h
    · exact ⟨fp_not (soundT a C h).1, fun _ _ _ z => nomatch z⟩
    · cases h
  | .ex (.cmp op a b), sc, st, X, W, e, C, h => by
    unfold matT at h
    split at h
    · simp only [Bool.and_eq_true, decide_eq_true_eq, Bool.not_eq_true'] at h
      rw [← h.1.1.1]
      exact ⟨ft_cmp C.kw C.un h.1.1.2 (soundE a C h.1.2) (soundE b C h.2), fun _ _ _ z => nomatch z⟩
    · cases h
  | .ex (.chn op1 op2 a b c), sc, st, X, W, e, C, h => by
    unfold matT at h
    split at h
    · simp only [Bool.and_eq_true, decide_eq_true_eq, Bool.not_eq_true'] at h
      rw [← h.1.1.1.1.1, ← h.1.1.1.1.2]
      exact ⟨ft_chn C.kw C.un h.1.1.1.2 (soundE a C h.1.1.2) (soundE b C h.1.2) (soundE c C h.2), fun _ _ _ z => nomatch z⟩
    · cases h
  | .ex (.var i), sc, st, X, W, e, C, h => by
    unfold matT at h
    simp only [Bool.and_eq_true] at h
    exact ⟨fp_ex C.kw h.1 (soundE (.var i) C h.2), fun _ _ _ z => by have h := h.1; rw [z] at h; cases h⟩
  | .ex (.cst d), sc, st, X, W, e, C, h => by
    unfold matT at h
    simp only [Bool.and_eq_true] at h
    exact ⟨fp_ex C.kw h.1 (soundE (.cst d) C h.2), fun _ _ _ z => by have h := h.1; rw [z] at h; cases h⟩
  | .ex (.gc g), sc, st, X, W, e, C, h => by
    unfold matT at h
    simp only [Bool.and_eq_true] at h
    exact ⟨fp_ex C.kw h.1 (soundE (.gc g) C h.2), fun _ _ _ z => by have h := h.1; rw [z] at h; cases h⟩
  | .ex (.fnv k), sc, st, X, W, e, C, h => by
    unfold matT at h
    simp only [Bool.and_eq_true] at h
    exact ⟨fp_ex C.kw h.1 (soundE (.fnv k) C h.2), fun _ _ _ z => by have h := h.1; rw [z] at h; cases h⟩
  | .ex (.tup es), sc, st, X, W, e, C, h => by
    unfold matT at h
    simp only [Bool.and_eq_true] at h
    exact ⟨fp_ex C.kw h.1 (soundE (.tup es) C h.2), fun _ _ _ z => by have h := h.1; rw [z] at h; cases h⟩
  | .ex (.lst es), sc, st, X, W, e, C, h => by
    unfold matT at h
    simp only [Bool.and_eq_true] at h
    exact ⟨fp_ex C.kw h.1 (soundE (.lst es) C h.2), fun _ _ _ z => by have h := h.1; rw [z] at h; cases h⟩
  | .ex (.dic1 k v), sc, st, X, W, e, C, h => by
    unfold matT at h
    simp only [Bool.and_eq_true] at h
    exact ⟨fp_ex C.kw h.1 (soundE (.dic1 k v) C h.2), fun _ _ _ z => by have h := h.1; rw [z] at h; cases h⟩
  | .ex .dic0, sc, st, X, W, e, C, h => by
    unfold matT at h
    simp only [Bool.and_eq_true] at h
    exact ⟨fp_ex C.kw h.1 (soundE .dic0 C h.2), fun _ _ _ z => by have h := h.1; rw [z] at h; cases h⟩
  | .ex (.bin op a b), sc, st, X, W, e, C, h => by
    unfold matT at h
    simp only [Bool.and_eq_true] at h
    exact ⟨fp_ex C.kw h.1 (soundE (.bin op a b) C h.2), fun _ _ _ z => by have h := h.1; rw [z] at h; cases h⟩
  | .ex (.rep a b), sc, st, X, W, e, C, h => by
    unfold matT at h
    simp only [Bool.and_eq_true] at h
    exact ⟨fp_ex C.kw h.1 (soundE (.rep a b) C h.2), fun _ _ _ z => by have h := h.1; rw [z] at h; cases h⟩
  | .ex (.neg a), sc, st, X, W, e, C, h => by
    unfold matT at h
    simp only [Bool.and_eq_true] at h
    exact ⟨fp_ex C.kw h.1 (soundE (.neg a) C h.2), fun _ _ _ z => by have h := h.1; rw [z] at h; cases h⟩
  | .ex (.and a b), sc, st, X, W, e, C, h => by
    unfold matT at h
    simp only [Bool.and_eq_true] at h
    exact ⟨fp_ex C.kw h.1 (soundE (.and a b) C h.2), fun _ _ _ z => by have h := h.1; rw [z] at h; cases h⟩
  | .ex (.or a b), sc, st, X, W, e, C, h => by
    unfold matT at h
    simp only [Bool.and_eq_true] at h
    exact ⟨fp_ex C.kw h.1 (soundE (.or a b) C h.2), fun _ _ _ z => by have h := h.1; rw [z] at h; cases h⟩
  | .ex (.not a), sc, st, X, W, e, C, h => by
    unfold matT at h
    simp only [Bool.and_eq_true] at h
    exact ⟨fp_ex C.kw h.1 (soundE (.not a) C h.2), fun _ _ _ z => by have h := h.1; rw [z] at h; cases h⟩
  | .ex (.ife t a b), sc, st, X, W, e, C, h => by
    unfold matT at h
    simp only [Bool.and_eq_true] at h
    exact ⟨fp_ex C.kw h.1 (soundE (.ife t a b) C h.2), fun _ _ _ z => by have h := h.1; rw [z] at h; cases h⟩
  | .ex (.idx a i), sc, st, X, W, e, C, h => by
    unfold matT at h
    simp only [Bool.and_eq_true] at h
    exact ⟨fp_ex C.kw h.1 (soundE (.idx a i) C h.2), fun _ _ _ z => by have h := h.1; rw [z] at h; cases h⟩
  | .ex (.sli a lo hi), sc, st, X, W, e, C, h => by
    unfold matT at h
    simp only [Bool.and_eq_true] at h
    exact ⟨fp_ex C.kw h.1 (soundE (.sli a lo hi) C h.2), fun _ _ _ z => by have h := h.1; rw [z] at h; cases h⟩
  | .ex (.call k es), sc, st, X, W, e, C, h => by
    unfold matT at h
    simp only [Bool.and_eq_true] at h
    exact ⟨fp_ex C.kw h.1 (soundE (.call k es) C h.2), fun _ _ _ z => by have h := h.1; rw [z] at h; cases h⟩
  | .ex (.callL k as), sc, st, X, W, e, C, h => by
    unfold matT at h
    simp only [Bool.and_eq_true] at h
    exact ⟨fp_ex C.kw h.1 (soundE (.callL k as) C h.2), fun _ _ _ z => by have h := h.1; rw [z] at h; cases h⟩
  | .ex (.callv i es), sc, st, X, W, e, C, h => by
    unfold matT at h
    simp only [Bool.and_eq_true] at h
    exact ⟨fp_ex C.kw h.1 (soundE (.callv i es) C h.2), fun _ _ _ z => by have h := h.1; rw [z] at h; cases h⟩
  | .ex (.blt b es), sc, st, X, W, e, C, h => by
    unfold matT at h
    simp only [Bool.and_eq_true] at h
    exact ⟨fp_ex C.kw h.1 (soundE (.blt b es) C h.2), fun _ _ _ z => by have h := h.1; rw [z] at h; cases h⟩
  | .ex (.rng t es), sc, st, X, W, e, C, h => by
    unfold matT at h
    simp only [Bool.and_eq_true] at h
    exact ⟨fp_ex C.kw h.1 (soundE (.rng t es) C h.2), fun _ _ _ z => by have h := h.1; rw [z] at h; cases h⟩
  | .ex (.isin a t), sc, st, X, W, e, C, h => by
    unfold matT at h
    simp only [Bool.and_eq_true] at h
    exact ⟨fp_ex C.kw h.1 (soundE (.isin a t) C h.2), fun _ _ _ z => by have h := h.1; rw [z] at h; cases h⟩
  | .ex (.attr i f), sc, st, X, W, e, C, h => by
    unfold matT at h
    simp only [Bool.and_eq_true] at h
    exact ⟨fp_ex C.kw h.1 (soundE (.attr i f) C h.2), fun _ _ _ z => by have h := h.1; rw [z] at h; cases h⟩
  | .ex (.meth m o es), sc, st, X, W, e, C, h => by
    unfold matT at h
    simp only [Bool.and_eq_true] at h
    exact ⟨fp_ex C.kw h.1 (soundE (.meth m o es) C h.2), fun _ _ _ z => by have h := h.1; rw [z] at h; cases h⟩
  | .ex (.mut m i es), sc, st, X, W, e, C, h => by
    unfold matT at h
    simp only [Bool.and_eq_true] at h
    exact ⟨fp_ex C.kw h.1 (soundE (.mut m i es) C h.2), fun _ _ _ z => by have h := h.1; rw [z] at h; cases h⟩
  | .ex (.lc own tg it cond elt), sc, st, X, W, e, C, h => by
    unfold matT at h
    simp only [Bool.and_eq_true] at h
    exact ⟨fp_ex C.kw h.1 (soundE (.lc own tg it cond elt) C h.2), fun _ _ _ z => by have h := h.1; rw [z] at h; cases h⟩
  | .ex (.lc2 own vs1 tg it cond tg1 it1 cond1 elt), sc, st, X, W, e, C, h => by
    unfold matT at h
    simp only [Bool.and_eq_true] at h
    exact ⟨fp_ex C.kw h.1 (soundE (.lc2 own vs1 tg it cond tg1 it1 cond1 elt) C h.2), fun _ _ _ z => by have h := h.1; rw [z] at h; cases h⟩
  | .ex (.dc own tg it cond k v), sc, st, X, W, e, C, h => by
    unfold matT at h
    simp only [Bool.and_eq_true] at h
    exact ⟨fp_ex C.kw h.1 (soundE (.dc own tg it cond k v) C h.2), fun _ _ _ z => by have h := h.1; rw [z] at h; cases h⟩
theorem soundI : ∀ (c : CI) {tq : Tg} {sc : Scope} {st : Str → Bool} {X : Cx} {W : WX} {t e : Expr}, CtxOk S K Fa Ca pr G kr mg sc st X W → matI S c tq sc t e = true → PI X t e (tIt K tq Fa Ca pr W (evI G c))
  | .seq c, tq, sc, st, X, W, t, e, C, h => by
    unfold matI at h
    exact fi_seq C.kw (soundE c C h)
  | .rng (.cons c .nil), tq, sc, st, X, W, t, e, C, h => by
    unfold matI at h
    split at h
    · simp only [Bool.and_eq_true, decide_eq_true_eq] at h
      obtain ⟨⟨⟨rfl, h1⟩, h2⟩, h4⟩ := h
      unfold matEs at h4
      split at h4
      · simp only [Bool.and_eq_true] at h4
        have h5 := h4.2
        unfold matEs at h5
        split at h5
        · exact fi_rng1 (C.gl h1) (C.bn (by decide)) (noStar_plain h4.1.1) (soundE c C h4.1.2)
        · cases h5
      · cases h4
    · cases h
  | .rng (.cons c (.cons d .nil)), tq, sc, st, X, W, t, e, C, h => by
    unfold matI at h
    split at h
    · simp only [Bool.and_eq_true, decide_eq_true_eq] at h
      obtain ⟨⟨⟨rfl, h1⟩, h2⟩, h4⟩ := h
      unfold matEs at h4
      split at h4
      · simp only [Bool.and_eq_true] at h4
        have h5 := h4.2
        unfold matEs at h5
        split at h5
        · simp only [Bool.and_eq_true] at h5
          have h6 := h5.2
          unfold matEs at h6
          split at h6
          · exact fi_rng2 (C.gl h1) (C.bn (by decide)) (noStar_plain h4.1.1) (noStar_plain h5.1.1) (soundE c C h4.1.2) (soundE d C h5.1.2)
          · cases h6
        · cases h5
      · cases h4
    · cases h
  | .rng .nil, tq, sc, st, X, W, t, e, C, h => by
    unfold matI at h
    split at h
    · simp only [Bool.and_eq_true] at h
      have h3 := h.1.2
      have h4 := h.2
      unfold matEs at h4
      split at h4
      · cases h3
      · cases h4
    · cases h
  | .rng (.cons c (.cons d (.cons f cs))), tq, sc, st, X, W, t, e, C, h => by
    unfold matI at h
    split at h
    · simp only [Bool.and_eq_true] at h
      exact (rng_few3 h.1.2 h.2).elim
    · cases h
  | .enum (.cons c .nil), tq, sc, st, X, W, t, e, C, h => by
    unfold matI at h
    split at h
    · simp only [Bool.and_eq_true, decide_eq_true_eq] at h
      obtain ⟨⟨⟨⟨rfl, h1⟩, h2⟩, h3⟩, h4⟩ := h
      obtain ⟨es', k, p, rfl⟩ := tupE_out h3
      unfold matEs at h4
      simp only [Bool.and_eq_true] at h4
      exact fi_enum (tup_out h2) C.kw (C.gl h1) (C.bn (by decide)) (noStar_plain h4.1.1) (soundE c C h4.1.2)
    · cases h
  | .enum .nil, tq, sc, st, X, W, t, e, C, h => by
    unfold matI at h
    split at h
    · simp only [Bool.and_eq_true] at h
      have h4 := h.2
      unfold matEs at h4
      cases h4
    · cases h
  | .enum (.cons c (.cons d cs)), tq, sc, st, X, W, t, e, C, h => by
    unfold matI at h
    split at h
    · simp only [Bool.and_eq_true] at h
      have h4 := h.2
      unfold matEs at h4
      simp only [Bool.and_eq_true] at h4
      have h5 := h4.2
      unfold matEs at h5
      cases h5
    · cases h
  | .zip es, tq, sc, st, X, W, t, e, C, h => by
    unfold matI at h
    split at h
    · simp only [Bool.and_eq_true, decide_eq_true_eq] at h
      obtain ⟨⟨⟨⟨rfl, h1⟩, h2⟩, h3⟩, h4⟩ := h
      obtain ⟨es', k, p, rfl⟩ := tupE_out h3
      have hp := matEs_plain h4
      simp only [List.all_cons, Bool.and_eq_true] at hp
      exact fi_zip (tup_out h2) C.kw (C.gl h1) (C.bn (by decide)) hp.1 hp.2.1 (soundEs es C h4)
    · cases h
end
end
end E2

set_option Elab.async false
set_option linter.all false
set_option maxRecDepth 100000
set_option maxHeartbeats 8000000
namespace E2
variable [Tbs]
open PySem PySem.Spec PyProof.Rows L2
def pairTV (t : List Expr) (v : Expr) : Option (List Expr × List Expr) := match t, v with
    | [.Tuple ts _ _], .Tuple vs _ _ | [.List ts _], .Tuple vs _ _ => some (ts, vs)
    | _, _ => none
def namesTV (look : Str → Option NameKind) (ts : List Expr) : List Str := ts.filterMap fun
    | .Name id pos => if look id == some .local && pos.line == (ts.head?.map (·.pos.line)).getD 0 then some id else none
    | _ => none
def swS (sc : Scope) (t : List Expr) (v : Expr) : Option (Option (List Str)) :=
  match pairTV t v with
  | none => some none
  | some (ts, vs) =>
    if !(ts.length == 2 || ts.length == 3) || vs.length != ts.length then some none
    else if vs.any fun | .Starred .. => true | _ => false then some none
    else if (namesTV (fun x => sc.names.lookup x) ts).length != ts.length || (namesTV (fun x => sc.names.lookup x) ts).eraseDups.length != (namesTV (fun x => sc.names.lookup x) ts).length then some none
    else if vs.all (foldedForSure 8) then some none
    else if vs.all (constantsAlone 8) then none
    else some (some (namesTV (fun x => sc.names.lookup x) ts))
def swB (env : Env) : Option (List Expr × List Expr) → Sem (Option (List Str))
  | none => pure none
  | some (ts, vs) => if !(ts.length == 2 || ts.length == 3) || vs.length != ts.length || env.blockKind != .function then pure none
    else if vs.any fun | .Starred .. => true | _ => false then pure none
    else if (namesTV env.kindOf ts).length != ts.length || (namesTV env.kindOf ts).eraseDups.length != (namesTV env.kindOf ts).length then pure none
    else if vs.all (foldedForSure 8) then pure none
    else if vs.all (constantsAlone 8) then (do
      unsupported "assign.tuple-of-constant-expressions:order-of-the-stores"
      pure (some (namesTV env.kindOf ts)))
    else pure (some (namesTV env.kindOf ts))
theorem sw_eq {env : Env} {t : List Expr} {v : Expr} : swappedStores t v env = swB env (pairTV t v) := by
  have key : ∀ q : Option (List Expr × List Expr), (do
      let some (ts, vs) := q | return none
      if !(ts.length == 2 || ts.length == 3) || vs.length != ts.length || env.blockKind != .function then return none
      if vs.any fun | .Starred .. => true | _ => false then return none
      let line := (ts.head?.map (·.pos.line)).getD 0
      let names := ts.filterMap fun
        | .Name id pos => if env.kindOf id == some .local && pos.line == line then some id else none
        | _ => none
      if names.length != ts.length || names.eraseDups.length != names.length then return none
      if vs.all (foldedForSure 8) then return none
      if vs.all (constantsAlone 8) then unsupported "assign.tuple-of-constant-expressions:order-of-the-stores"
      return some names : Sem (Option (List Str))) = swB env q := by
    intro q
    cases q with
    | none => rfl
    | some p =>
      obtain ⟨ts, vs⟩ := p
      rfl
  exact key (pairTV t v)
theorem swS_out {env : Env} {sc : Scope} {t : List Expr} {v : Expr} {o : Option (List Str)} (hs : env.scope = sc) (hk : sc.kind = .function) (h : swS sc t v = some o) : swappedStores t v env = pure o := by
  have hb : env.blockKind = .function := by unfold Env.blockKind; rw [hs, hk]; rfl
  have hn : env.kindOf = fun x => sc.names.lookup x := by funext x; unfold Env.kindOf; rw [hs]
  rw [sw_eq]
  unfold swS at h
  cases e : pairTV t v with
  | none => rw [e] at h; cases h; rfl
  | some p =>
    obtain ⟨ts, vs⟩ := p
    rw [e] at h
    simp only at h
    unfold swB
    rw [hn, hb]
    simp only [bne_self_eq_false, Bool.or_false]
    split at h
    · rename_i c; cases h; rw [if_pos c]
    · rename_i c
      rw [if_neg c]
      split at h
      · rename_i c; cases h; rw [if_pos c]
      · rename_i c
        rw [if_neg c]
        split at h
        · rename_i c; cases h; rw [if_pos c]
        · rename_i c
          rw [if_neg c]
          split at h
          · rename_i c; cases h; rw [if_pos c]
          · rename_i c
            rw [if_neg c]
            split at h
            · cases h
            · rename_i c; cases h; rw [if_neg c]

/-! ## statements -/
def noComp : Expr → Bool
  | .ListComp _ _ _ _ => false
  | .SetComp _ _ _ _ => false
  | .DictComp _ _ _ _ _ => false
  | _ => true
theorem noComp_sw {e : Expr} (h : noComp e = true) {t : Option Expr} {l : Nat} {env : Env} : swapsWith e t l env = pure false := by
  cases e <;> first | rfl | cases h
/-- a comprehension on the line of its name -/
def swL (sc : Scope) (x : Str) (px : Pos) (scope : Scope) (pos : Pos) : Bool := decide (sc.names.lookup x = some .local) && (px.line == pos.line) && !(scope.names.any fun (n, k) => n == x && (k == .local || k == .cell))
theorem swL_true {sc : Scope} {x : Str} {px pos : Pos} {scope : Scope} {elt : Expr} {gs : List Comprehension} {l : Nat} {env : Env} (hs : env.scope = sc) (hk : sc.kind = .function) (h : swL sc x px scope pos = true) : swapsWith (.ListComp elt gs scope pos) (some (.Name x px)) l env = pure true ∧ env.scope.names.lookup x = some .local := by
  unfold swL at h
  simp only [Bool.and_eq_true, decide_eq_true_eq, Bool.not_eq_true'] at h
  exact ⟨sw_true (by rw [hs]; exact hk) (by rw [hs]; exact h.1.1) h.1.2 h.2, by rw [hs]; exact h.1.1⟩
theorem swL_false {sc : Scope} {x : Str} {px pos : Pos} {scope : Scope} {elt : Expr} {gs : List Comprehension} {l : Nat} {env : Env} (hs : env.scope = sc) (hk : sc.kind = .function) (h : swL sc x px scope pos = false) : swapsWith (.ListComp elt gs scope pos) (some (.Name x px)) l env = pure false := by
  have hb : env.blockKind = .function := by unfold Env.blockKind; rw [hs, hk]; rfl
  have hn : env.kindOf x = sc.names.lookup x := by unfold Env.kindOf; rw [hs]
  unfold swL at h
  have e : swapsWith (.ListComp elt gs scope pos) (some (.Name x px)) l env = pure (env.blockKind == .function && env.kindOf x == some .local && px.line == pos.line && !(scope.names.any fun (n, k) => n == x && (k == .local || k == .cell))) := rfl
  rw [e, hb, hn]
  congr 1
  rw [← h]
  simp only [beq_self_eq_true, Bool.true_and]
  congr 1
  congr 1
  rw [beq_eq_decide']
section
variable (S : Sm)
mutual
def matX (st : Str → Bool) : TX → Scope → Expr → Bool
  | .nm i, _, e => match e with
    | .Name x _ => decide (S.N[i]? = some x) && st x && !(S.nr.contains i)
    | _ => false
  | .sub i ix, sc, e => match e with
    | .Subscript (.Name x _) y _ => decide (S.N[i]? = some x) && visB sc x && okN x && noSlice y && matE S ix sc y
    | _ => false
  | .tup ts, sc, e => match e with
    | .Tuple es _ _ => matXs st ts sc es
    | _ => false
def matXs (st : Str → Bool) : TXs → Scope → List Expr → Bool
  | .nil, _, es => match es with
    | [] => true
    | _ => false
  | .cons t ts, sc, es => match es with
    | e :: es => noStar e && matX st t sc e && matXs st ts sc es
    | [] => false
end
/-- one plain parameter, of a name that lambdas have -/
def parB (x : Str) : Arguments → Bool
  | ⟨[], [⟨y, none, _⟩], none, [], [], none, []⟩ => decide (y = x) && decide (x ∈ ([Str.ofString "here", Str.ofString "one", Str.ofString "way", Str.ofString "effect", Str.ofString "rule"] : List Str))
  | _ => false
def lamB (S : Sm) (ld : LamDt) (params : Arguments) (body : Expr) (scope : Scope) : Bool :=
  parB ld.x params && NdefX.nscB ld.N [ld.x] ld.fr scope && matE ⟨ld.N, [], S.fnm, S.gnm, S.enm, none, S.lams⟩ ld.ce scope body
def capB (sc scope : Scope) (fr : List Str) (caps : List Nat) : Bool :=
  !caps.isEmpty && scope.names.all (fun y => !decide (y.2 = .free) || (decide (y.1 ∈ fr) && (decide (sc.names.lookup y.1 = some .cell) || decide (sc.names.lookup y.1 = some .free)))) && fr.all (fun y => decide ((y, NameKind.free) ∈ scope.names)) && decide (caps.map (fun j => S.N[j]?) = fr.map some)
def matLA (sc : Scope) : LA → Expr → Bool
  | .v i, e => matE S (.var i) sc e
  | .c d, e => match e with
    | .Constant c _ _ => cstB c d
    | _ => false
  | .g g, e => matE S (.gc g) sc e
  | .f k, e => matE S (.fnv k) sc e
  | .l k caps, e => match e with
    | .Lambda params body scope _ => S.lq.isSome && decide (S.fnm.length ≤ k) && (match S.lams[k - S.fnm.length]? with
      | some ld => lamB S ld params body scope && capB S sc scope ld.fr caps
      | none => false)
    | _ => false
def matLAs (sc : Scope) : List LA → List Expr → Bool
  | [], es => match es with
    | [] => true
    | _ => false
  | a :: as, es => match es with
    | e :: es => noStar e && matLA S sc a e && matLAs sc as es
    | [] => false
def matL1 (sc : Scope) : CE → Expr → Bool
  | .callL k as, e => match e with
    | .Call (.Name x _) (y :: xs) [] _ => decide (S.fnm[k]? = some x) && glB sc x && okN x && S.lq.isSome && matLAs S sc as (y :: xs)
    | _ => false
  | _, _ => false
/-- a call that gets lambdas, or a place of its answer -/
def matL (sc : Scope) : CE → Expr → Bool
  | .idx a i, e => match e with
    | .Subscript x y _ => noSlice y && matL1 S sc a x && matE S i sc y
    | _ => false
  | c, e => matL1 S sc c e
def augOp : Operator → Operator → Bool
  | .Add, .Add => true
  | .Sub, .Sub => true
  | _, _ => false
def coldE : CE → Scope → Expr → Bool
  | .var i, sc, e => matE S (.var i) sc e
  | .cst d, sc, e => matE S (.cst d) sc e
  | _, _, _ => false
def coldT : CT → Scope → Expr → Bool
  | .ex (.cmp op a b), sc, e => match e with
    | .Compare x [op'] [y] _ => decide (op = op') && !(behindInMarks op y) && coldE S a sc x && coldE S b sc y
    | _ => false
  | _, _, _ => false
/-- xs.append(c) -/
def coldM : CE → Scope → Expr → Bool
  | .mut m i (.cons c .nil), sc, e => match e with
    | .Call (.Attribute (.Name y _) nm ap) [x] [] cp => decide (nm = mutN m) && decide (S.N[i]? = some y) && visB sc y && okN y && (ap.endLine == cp.line) && plainX x && coldE S c sc x
    | _ => false
  | _, _, _ => false
mutual
def coldS : CS → Scope → Stmt → Bool
  | .ret e, sc, s => match s with
    | .Return (some x) _ => coldE S e sc x
    | _ => false
  | .retN, _, s => match s with
    | .Return none _ => true
    | _ => false
  | .ex c, sc, s => match s with
    | .Expr x _ => noComp x && coldM S c sc x
    | _ => false
  | .pass, _, s => match s with
    | .Pass _ => true
    | _ => false
  | .brk, _, s => match s with
    | .Break _ => true
    | _ => false
  | .cont, _, s => match s with
    | .Continue _ => true
    | _ => false
  | .ite t a b, sc, s => match s with
    | .If c x y _ => coldT S t sc c && coldSs a sc x && coldSs b sc y
    | _ => false
  | _, _, _ => false
def coldSs : CSs → Scope → List Stmt → Bool
  | .nil, _, ss => match ss with
    | [] => true
    | _ => false
  | .cons s ss, sc, l => match l with
    | x :: xs => coldS s sc x && coldSs ss sc xs
    | [] => false
end
mutual
def matS (st : Str → Bool) : CS → Scope → Stmt → Bool
  | .ret e, sc, s => match s with
    | .Return (some x) _ => matE S e sc x || matL S sc e x
    | _ => false
  | .retN, _, s => match s with
    | .Return none _ => true
    | _ => false
  | .retL _ _, _, _ => false
  | .ex c, sc, s => match s with
    | .Expr x _ => noComp x && matE S c sc x
    | _ => false
  | .set i c, sc, s => match s with
    | .Assign [.Name x px] e _ => decide (S.N[i]? = some x) && st x && !(S.nr.contains i) && matE S c sc e && (match e with
      | .ListComp _ _ scope pos => !(swL sc x px scope pos) || (match c with
        | .lc _ _ _ _ _ => true
        | .lc2 _ _ _ _ _ _ _ _ _ => true
        | _ => false)
      | e => noComp e)
    | _ => false
  | .par is es, sc, s => match s with
    | .Assign [.Tuple [.Name x px, .Name y py] kt pt] (.Tuple [a, b] k2 pt2) _ => match is with
      | [i, j] => decide (S.N[i]? = some x) && decide (S.N[j]? = some y) && decide (i ≠ j) && !(S.nr.contains i) && !(S.nr.contains j) && decide (sc.names.lookup x = some .local) && decide (sc.names.lookup y = some .local) && matEs S es sc [a, b] && decide (swS sc [.Tuple [.Name x px, .Name y py] kt pt] (.Tuple [a, b] k2 pt2) = some (some [x, y])) ||
        (decide (S.N[i]? = some x) && decide (S.N[j]? = some y) && !(S.nr.contains i) && !(S.nr.contains j) && st x && st y && matEs S es sc [a, b] && noComp (.Tuple [a, b] k2 pt2) && decide (swS sc [.Tuple [.Name x px, .Name y py] kt pt] (.Tuple [a, b] k2 pt2) = some none))
      | _ => false
    | .Assign [.Tuple [.Name x px, .Name y py, .Name z pz] kt pt] (.Tuple [a, b, c] k2 pt2) _ => match is with
      | [i, j, l] => decide (S.N[i]? = some x) && decide (S.N[j]? = some y) && decide (S.N[l]? = some z) && decide (i ≠ j) && decide (i ≠ l) && decide (j ≠ l) && !(S.nr.contains i) && !(S.nr.contains j) && !(S.nr.contains l) && decide (sc.names.lookup x = some .local) && decide (sc.names.lookup y = some .local) && decide (sc.names.lookup z = some .local) && matEs S es sc [a, b, c] && decide (swS sc [.Tuple [.Name x px, .Name y py, .Name z pz] kt pt] (.Tuple [a, b, c] k2 pt2) = some (some [x, y, z]))
      | _ => false
    | _ => false
  | .asg t c, sc, s => match s with
    | .Assign [tge] e _ => noStar tge && noComp e && matX S st t sc tge && (matE S c sc e || matL S sc c e) && decide (swS sc [tge] e = some none)
    | _ => false
  | .unk, _, _ => true
  | .aug i op c, sc, s => match s with
    | .AugAssign (.Name x _) o e _ => decide (S.N[i]? = some x) && st x && !(S.nr.contains i) && augOp op o && matE S c sc e
    | _ => false
  | .augi i ix op c, sc, s => match s with
    | .AugAssign (.Subscript (.Name x _) y _) o e _ => decide (S.N[i]? = some x) && visB sc x && okN x && noSlice y && augOp op o && matE S ix sc y && matE S c sc e
    | _ => false
  | .ite t a b, sc, s => match s with
    | .If c x y _ => matT S t sc c && matSs st a sc x && matSs st b sc y
    | _ => false
  | .whl t b, sc, s => match s with
    | .While c x [] _ => matT S t sc c && matSs st b sc x
    | _ => false
  | .for tg it b, sc, s => match s with
    | .For t i x [] _ => noSet i && disj (tgS tg) S.nr && matI S it tg sc t i && matG S st tg t && matSs st b sc x
    | _ => false
  | .pass, _, s => match s with
    | .Pass _ => true
    | _ => false
  | .brk, _, s => match s with
    | .Break _ => true
    | _ => false
  | .cont, _, s => match s with
    | .Continue _ => true
    | _ => false
  | .rais c es, sc, s => match s with
    | .Raise (some (.Call (.Name x _) [.Constant (.str m) _ _] [] _)) none _ => decide (S.enm[c]? = some x) && glB sc x && okN x && (match es with
      | .cons (.cst (.str m')) .nil => decide (m = m')
      | _ => false)
    | _ => false
  | .try_ b hs, sc, s => match s with
    | .Try x (h :: hds) [] [] _ => matSs st b sc x && matH hs sc (h :: hds)
    | _ => false
def matSs (st : Str → Bool) : CSs → Scope → List Stmt → Bool
  | .nil, _, ss => match ss with
    | [] => true
    | _ => false
  | .cons s ss, sc, l => match l with
    | x :: xs => matS st s sc x && matSs st ss sc xs
    | [] => false
def matH : Hds → Scope → List ExceptHandler → Bool
  | .nil, _, hs => match hs with
    | [] => true
    | _ => false
  | .cons c as_ b hs, sc, l => match l with
    | .ExceptHandler (some (.Name x _)) none (b₀ :: suite) _ :: hds => decide (S.enm[c]? = some x) && glB sc x && okN x && coldSs S b sc (b₀ :: suite) && matH hs sc hds
    | _ => false
end
end
end E2

set_option Elab.async false
set_option linter.all false
set_option maxRecDepth 100000
set_option maxHeartbeats 2000000
namespace E2
variable [Tbs]
open PySem PySem.Spec PyProof.Rows L2
section
variable {K : Kw} {Fa Ca : Nat → Addr} {pr : List (Nat × Addr)} {W : WX} {refs : List Addr} {N0 : NS} {H0 : Hp} {r r1 r2 r' : En} {σ σ2 : L2.St} {N N1 N' : NS} {H H1 H' : Hp} {v : V} {d : D} {a : Addr} {X : Cx} {G : Gs} {pos : Pos} {De : Ends}
/-! ### a tuple, built and taken apart: names, things of one's own among the items -/
theorem VlsR.ext {O : NS} {N H N' H'} (E : Ext O N H N' H') (t : ∀ b, N b → Mut (H b)) (hn : ∀ b, N b → N' b) (hk : ∀ a d, N a → RpM K N H a d → RpM K N' H' a d) : ∀ {vs : List V} {ys : List R}, VlsR K N H vs ys → VlsR K N' H' vs ys
  | [], [], _ => trivial
  | v :: vs, y :: ys, h => ⟨by
      cases y with
      | val o d => cases o with
        | false => exact h.1.ext E t
        | true => obtain ⟨a, h1, h2, h3⟩ := h.1; exact ⟨a, h1, hn a h2, hk a d h2 h3⟩
      | sl i => trivial
      | fn k ds => trivial, VlsR.ext E t hn hk h.2⟩
  | [], _ :: _, h => h.elim
  | _ :: _, [], h => h.elim
theorem par_runT {is : List Nat} {cs : CEs} (np : ∀ i ∈ is, NoPr pr i) (I : FrI K Fa pr refs N0 H0 r σ N H) (h : PostS K Fa Ca pr W refs N0 H0 N H De (evS G (.par is cs) r)) :
    tL K Fa Ca pr W (evEs G cs) σ H fun vs H1 => vs.length = is.length ∧ ∀ (p : Addr) (ob : Obj), H1 p = none → De.nx (setPar σ is vs) (upd H1 p (.frz ob (.tup vs))) := by
  simp only [evS] at h
  refine tG_mono (so_bind (rel := relL K Fa) I h) fun vs H1 ⟨ys, r1, N1, s1, I1, ⟨q1, f1, n1⟩, p1⟩ => ?_
  cases e1 : settle r1 ys with
  | none => simp only [e1] at p1; exact p1.elim
  | some yr =>
    obtain ⟨zs, r2⟩ := yr
    simp only [e1] at p1
    obtain ⟨N2, g2, s2, q2, _, f2, _⟩ := settle_ok I1.g q1 e1
    have I2 := I1.step s2 g2
    cases e2 : putPar is zs r2 with
    | none => simp only [e2] at p1; exact p1.elim
    | some r3 =>
      simp only [e2] at p1
      refine ⟨q2.length.trans (putPar_len e2), fun p ob hp => ?_⟩
      have E : Ext (fun _ => False) N2 H1 N2 (upd H1 p (.frz ob (.tup vs))) := ext_newT hp fun _ z => z.elim
      have I3 := I2.step (g2.stp0 E) (g2.ext0 E (trk_newT hp g2.trk))
      refine p1 _ N2 _ (putPar_ok I3 (q2.vl.ext E g2.trk (fun _ h => h) fun a d _ z => z.ext E g2.trk fun z => z) (fun a ha => ?_) (f2 ▸ n1) np e2) (frz_trans s2.ext.rps E.rps)
      obtain ⟨h1, h2⟩ := q2.noown a ha
      refine ⟨h2, ?_⟩
      by_cases z : a ∈ refs
      · exact .inl z
      · rcases I2.ext.new a h1 with n | n
        · rcases I.ow a (f1 a (f2 ▸ ha) (I.ext.stay a n z)) with q | q
          · exact .inl q
          · exact .inr q
        · exact .inr n
theorem fs_parT2 {i j : Nat} {cs : CEs} {x y : Str} {a b : Expr} {px py pt : Pos} {kt k2 : Nat} {pt2 : Pos} (hK : X.kw = K) (np : ∀ i' ∈ [i, j], NoPr pr i') (hc : X.calm = true) (hN : X.N.Nodup) (hi : X.N[i]? = some x) (hj : X.N[j]? = some y)
    (hx : Loc X.env.scope x) (hxf : X.fn x = true ∨ X.env.scope.names.lookup x = some .local) (hy : Loc X.env.scope y) (hyf : X.fn y = true ∨ X.env.scope.names.lookup y = some .local) (ha : PA X [a, b] (tL K Fa Ca pr W (evEs G cs)))
    (hw : swappedStores [.Tuple [.Name x px, .Name y py] kt pt] (.Tuple [a, b] k2 pt2) X.env = pure none) :
    PS X (.Assign [.Tuple [.Name x px, .Name y py] kt pt] (.Tuple [a, b] k2 pt2) pos) (tS K Fa Ca pr W refs N0 H0 (evS G (.par [i, j] cs))) := by
  subst hK
  refine PS.imp (ps_asg (pe_tupF ha) (pg_tup (n := 2) hc (pgs_cons (pg_name hN hi hx hxf) (pgs_cons (pg_name hN hj hy hyf) pgs_nil (by rw [asg_cons rfl]; rfl)) (by rw [asg_cons rfl]; rfl)) (by rw [asg_cons rfl, asg_cons rfl]; rfl) (by rw [asg_cons rfl, asg_cons rfl]; rfl)) rfl hw (by rw [asg_cons rfl]; rfl)) fun D σ H ⟨r, N, I, h⟩ => ?_
  refine tG_mono (par_runT np I h) fun vs H1 ⟨hl, q⟩ => ?_
  match vs, hl, q with
  | [v, w], _, q =>
    refine ⟨by rw [sizeLine_eq]; simp, fun p ob hp oc od => ⟨p, [v, w], rfl, Tp.sq (K := X.kw) (.inl ⟨ob, upd_same, oc, od⟩), rfl, v, [w], rfl, w, [], rfl, rfl, q p ob hp⟩⟩
end
end E2

set_option Elab.async false
set_option linter.all false
set_option maxRecDepth 100000
set_option maxHeartbeats 8000000
namespace E2
variable [Tbs]
open PySem PySem.Spec PyProof.Rows L2
/-- what statements lean on besides -/
structure StOk (S : Sm) (K : Kw) (Fa Ca : Nat → Addr) (pr : List (Nat × Addr)) (G : Gs) (kr : Nat) (mg : Str → Option Value) (sc : Scope) (st : Str → Bool) (X : Cx) (W : WX) : Prop where
  c : CtxOk S K Fa Ca pr G kr mg sc st X W
  po : PassesOwn (model X.prog X.w) X.A X.env X.xe
  stk : X.stack = X.env :: X.outer
  frm : X.env.frame = some X.env.locals
  ex : ∀ c nm, S.enm[c]? = some nm → mg nm = some (.ref (Ca c)) ∧ G.exf c = some [] ∧ ∃ B newId initId bmB, ExcBaseFacts B newId initId bmB ∧ PySem.W.excIn X.K (Ca c) bmB newId = true ∧ PySem.W.keepIn X.K (.ref (Ca c)) = true ∧ Raises X (.ref (Ca c))
  sub : ∀ a b k, G.sub a b = some k → PySem.W.exmOne X.K (.ref (Ca a)) (.ref (Ca b)) = some k
  lm : ∀ q, S.lq = some q → LmOk X q
  lf : ∀ (j : Nat) (ld : LamDt), S.lams[j]? = some ld → Tbs.isL (S.fnm.length + j) = true ∧ Tbs.fr (S.fnm.length + j) = ld.fr ∧ ∀ params body scope, lamB S ld params body scope = true → Tbs.fit (S.fnm.length + j) params body scope
section
variable {S : Sm} {K : Kw} {Fa Ca : Nat → Addr} {pr : List (Nat × Addr)} {G : Gs} {kr : Nat} {mg : Str → Option Value} {refs : List Addr} {N0 : NS} {H0 : Hp}
/-- the suite of a try -/
theorem StOk.tr {sc : Scope} {st : Str → Bool} {X : Cx} {W W' : WX} (C : StOk S K Fa Ca pr G kr mg sc st X W) {pn : List (Addr × Obj)} {xe : Value → Shared → Prop} (tk : Takes (X.tr pn xe) W') (po : PassesOwn (model X.prog X.w) X.A X.env xe) : StOk S K Fa Ca pr G kr mg sc st (X.tr pn xe) W' where
  c := ⟨C.c.kw, C.c.nn, C.c.nd, C.c.calm, C.c.room, C.c.scp, C.c.kind, C.c.mgq, tk, C.c.stq, fun k nm e => by
    obtain ⟨h1, fd, ps, F⟩ := C.c.fd k nm e
    exact ⟨h1, fd, ps, ⟨F.ok, F.keep, F.binds, F.np⟩⟩, C.c.sg, C.c.il, fun k h => ⟨(C.c.fl k h).run⟩, C.c.gc, C.c.bl, C.c.npr⟩
  po := po
  stk := C.stk
  frm := C.frm
  ex := C.ex
  sub := C.sub
  lm := fun q e => let L := C.lm q e; ⟨L.ex, L.qual, L.fn⟩
  lf := C.lf
theorem npr_of {sc : Scope} {st : Str → Bool} {X : Cx} {W : WX} (C : CtxOk S K Fa Ca pr G kr mg sc st X W) {i : Nat} (h : S.nr.contains i = false) : NoPr pr i := C.npr i fun z => by simp [z] at h
theorem asg_sub {o e : Expr} {pos : Pos} {env : Env} (h : noSlice e = true) : ∀ v, assign (.Subscript o e pos) env v = (do
      let ov ← holding [v] (eval o env)
      let iv ← holding [v, ov] (eval e env)
      standAt pos
      holding [v, ov, iv] (setItem ov iv v)
      release [v, ov, iv] []) := by
  intro v
  cases e <;> first | rfl | cases h
theorem augOp_out {a b : Operator} (h : augOp a b = true) : (a = .Add ∧ b = .Add) ∨ (a = .Sub ∧ b = .Sub) := by
  cases a <;> cases b <;> first | exact .inl ⟨rfl, rfl⟩ | exact .inr ⟨rfl, rfl⟩ | cases h
mutual
theorem soundX {sc : Scope} {st : Str → Bool} {X : Cx} {W : WX} (C : CtxOk S K Fa Ca pr G kr mg sc st X W) : ∀ (t : TX) {e : Expr}, matX S st t sc e = true → PG X e (gX K Fa Ca pr W refs N0 H0 (evX G t))
  | .nm i, e, h => by
    unfold matX at h
    split at h
    · simp only [Bool.and_eq_true, decide_eq_true_eq, Bool.not_eq_true'] at h
      obtain ⟨h1, h2⟩ := C.stq _ h.1.2
      exact fx_nm (npr_of C h.2) (by rw [C.nn]; exact C.nd) (nn_at C h.1.1) (by rw [C.scp]; exact h1) (by rw [C.scp]; exact h2)
    · cases h
  | .sub i ix, e, h => by
    unfold matX at h
    split at h
    · simp only [Bool.and_eq_true, decide_eq_true_eq] at h
      obtain ⟨⟨⟨⟨h1, h2⟩, h3⟩, h4⟩, h5⟩ := h
      obtain ⟨q3, q4⟩ := okN_out h3
      exact fx_sub C.kw C.un (nn_at C h1) (C.vis h2) q3 q4 (soundE ix C h5) (asg_sub h4)
    · cases h
  | .tup ts, e, h => by
    unfold matX at h
    split at h
    · obtain ⟨h1, h2, h3, h4⟩ := soundXs C ts h
      exact fx_tup C.kw C.calm h1 h4 h2 h3
    · cases h
theorem soundXs {sc : Scope} {st : Str → Bool} {X : Cx} {W : WX} (C : CtxOk S K Fa Ca pr G kr mg sc st X W) : ∀ (ts : TXs) {es : List Expr}, matXs S st ts sc es = true → PGs X es (gXs K Fa Ca pr W refs N0 H0 (evXs G ts)) ∧ (assignEach es X.env).length = es.length ∧ (assignEach es X.env).findIdx? (·.1) = none ∧ lenTX ts = es.length
  | .nil, es, h => by
    unfold matXs at h
    split at h
    · exact ⟨fx_nil, rfl, rfl, rfl⟩
    · cases h
  | .cons t ts, es, h => by
    unfold matXs at h
    split at h
    · rename_i e es
      simp only [Bool.and_eq_true] at h
      obtain ⟨h1, h2, h3, h4⟩ := soundXs C ts h.2
      have e1 := asg_cons (es := es) (env := X.env) h.1.1
      refine ⟨fx_cons (soundX C t h.1.2) h1 (by rw [e1]; rfl), by rw [e1]; exact congrArg (· + 1) h2, ?_, congrArg (· + 1) h4⟩
      rw [e1, List.findIdx?_cons]
      simp [h3]
    · cases h
end
/-! ### calls that get lambdas -/
theorem parB_out {x : Str} {params : Arguments} (h : parB x params = true) : ∃ p, params = ⟨[], [⟨x, none, p⟩], none, [], [], none, []⟩ ∧ x ∈ ([Str.ofString "here", Str.ofString "one", Str.ofString "way", Str.ofString "effect", Str.ofString "rule"] : List Str) := by
  unfold parB at h
  split at h
  · rename_i y p
    simp only [Bool.and_eq_true, decide_eq_true_eq] at h
    obtain ⟨rfl, h⟩ := h
    exact ⟨p, rfl, h⟩
  · cases h
theorem capB_out {X : Cx} {sc scope : Scope} {k : Nat} {caps : List Nat} (hN : X.N = S.N) (hs : X.env.scope = sc) (h : capB S sc scope (Tbs.fr k) caps = true) : LCap X scope k caps := by
  unfold capB at h
  simp only [Bool.and_eq_true, Bool.or_eq_true, decide_eq_true_eq, List.all_eq_true, Bool.not_eq_true', decide_eq_false_iff_not] at h
  obtain ⟨⟨⟨h1, h2⟩, h3⟩, h4⟩ := h
  refine ⟨fun y hy e => ?_, h3, by rw [hN]; exact h4, fun z => by subst z; simp at h1⟩
  rw [hs]
  rcases h2 y hy with z | z
  · exact absurd e z
  · exact z
theorem soundLA {sc : Scope} {st : Str → Bool} {X : Cx} {W : WX} (C : StOk S K Fa Ca pr G kr mg sc st X W) : ∀ (a : LA) {e : Expr}, matLA S sc a e = true → PE X e (tAt X Fa G a)
  | .v i, e, h => by
    have h : matE S (.var i) sc e = true := h
    unfold matE at h
    split at h
    · simp only [Bool.and_eq_true, decide_eq_true_eq] at h
      obtain ⟨h3, h4⟩ := okN_out h.2
      exact la_v (nn_at C.c h.1.1) (C.c.vis h.1.2) h3 h4
    · cases h
  | .c d, e, h => by
    simp only [matLA] at h
    split at h
    · exact la_c (cstB_rel h)
    · cases h
  | .g g, e, h => by
    have h : matE S (.gc g) sc e = true := h
    unfold matE at h
    split at h
    · simp only [Bool.and_eq_true, decide_eq_true_eq] at h
      obtain ⟨u, w, dd, q1, q2, q3, q4⟩ := C.c.gc _ _ h.1.1
      exact la_g (C.c.gl h.1.2) (by rw [C.c.mgq]; exact q1) q2 q3 (by rw [C.c.kw]; exact q4) (okN_out h.2).1
    · cases h
  | .f k, e, h => by
    have h : matE S (.fnv k) sc e = true := h
    unfold matE at h
    split at h
    · simp only [Bool.and_eq_true, decide_eq_true_eq] at h
      exact la_f (C.c.il _ _ h.1.1) (C.c.gl h.1.2) (C.c.fdk h.1.1).1 (okN_out h.2).1
    · cases h
  | .l k caps, e, h => by
    simp only [matLA] at h
    split at h
    · rename_i params body scope p
      simp only [Bool.and_eq_true, decide_eq_true_eq] at h
      obtain ⟨⟨h1, h2⟩, h3⟩ := h
      obtain ⟨q, hq⟩ := Option.isSome_iff_exists.mp h1
      split at h3
      · rename_i ld el
        simp only [Bool.and_eq_true] at h3
        obtain ⟨f1, f2, f3⟩ := C.lf _ ld el
        rw [Nat.add_sub_cancel' h2] at f1 f2 f3
        have hp := h3.1
        unfold lamB at hp
        simp only [Bool.and_eq_true] at hp
        obtain ⟨p', e1, _⟩ := parB_out hp.1.1
        exact la_l (C.lm q hq) f1 (f3 _ _ _ h3.1) (by rw [e1]; rfl) (capB_out C.c.nn C.c.scp (by rw [f2]; exact h3.2))
      · cases h3
    · cases h
theorem soundLAs {sc : Scope} {st : Str → Bool} {X : Cx} {W : WX} (C : StOk S K Fa Ca pr G kr mg sc st X W) : ∀ (as : List LA) {es : List Expr}, matLAs S sc as es = true → PA X es (tAts X Fa G as) ∧ es.all plainX = true
  | [], es, h => by
    unfold matLAs at h
    split at h
    · exact ⟨la_nil, rfl⟩
    · cases h
  | a :: as, es, h => by
    unfold matLAs at h
    split at h
    · simp only [Bool.and_eq_true] at h
      obtain ⟨h1, h2⟩ := soundLAs C as h.2
      exact ⟨la_cons (noStar_plain h.1.1) (soundLA C a h.1.2) h1, by rw [List.all_cons, noStar_plain h.1.1, h2]; rfl⟩
    · cases h
theorem soundL1 {sc : Scope} {st : Str → Bool} {X : Cx} {W : WX} (C : StOk S K Fa Ca pr G kr mg sc st X W) {c : CE} {e : Expr} (h : matL1 S sc c e = true) : PE X e (tE K Fa Ca pr W (evE G c)) := by
  unfold matL1 at h
  split at h
  · split at h
    · simp only [Bool.and_eq_true, decide_eq_true_eq] at h
      obtain ⟨⟨⟨⟨h1, h2⟩, h3⟩, h4⟩, h5⟩ := h
      obtain ⟨q, hq⟩ := Option.isSome_iff_exists.mp h4
      obtain ⟨z1, fd, ps, F⟩ := C.c.fdk h1
      obtain ⟨a1, a2⟩ := soundLAs C _ h5
      exact fe_callL C.c.kw (C.lm q hq).fn F C.c.room (C.c.gl h2) z1 (okN_out h3).1 a2 a1
    · cases h
  · cases h
theorem soundL {sc : Scope} {st : Str → Bool} {X : Cx} {W : WX} (C : StOk S K Fa Ca pr G kr mg sc st X W) {c : CE} {e : Expr} (h : matL S sc c e = true) : PE X e (tE K Fa Ca pr W (evE G c)) := by
  unfold matL at h
  split at h
  · split at h
    · simp only [Bool.and_eq_true] at h
      exact fe_idx C.c.kw C.c.un (by have := h.1.1; revert this; unfold noSlice; split <;> simp) (soundL1 C h.1.2) (soundE _ C.c h.2)
    · cases h
  · exact soundL1 C h
theorem soundEL {sc : Scope} {st : Str → Bool} {X : Cx} {W : WX} (C : StOk S K Fa Ca pr G kr mg sc st X W) {c : CE} {e : Expr} (h : matE S c sc e = true ∨ matL S sc c e = true) : PE X e (tE K Fa Ca pr W (evE G c)) := h.elim (soundE c C.c) (soundL C)
/-! ### the suite of an except clause -/
theorem cold_e {sc : Scope} {st : Str → Bool} {X : Cx} {W W' : WX} (C : CtxOk S K Fa Ca pr G kr mg sc st X W) {c : CE} {e : Expr} {a : Addr} {pn : List (Addr × Obj)} (h : coldE S c sc e = true) : PE (X.suite a pn) e (tE K Fa Ca pr W' (evE G c)) := by
  unfold coldE at h
  split at h
  · unfold matE at h
    split at h
    · simp only [Bool.and_eq_true, decide_eq_true_eq] at h
      obtain ⟨h3, h4⟩ := okN_out h.2
      exact fe_var (X := X.suite a pn) (show X.N[_]? = _ from nn_at C h.1.1) (C.vis h.1.2) h3 h4
    · cases h
  · unfold matE at h
    split at h
    · exact fe_cst (cstB_rel h)
    · cases h
  · cases h
theorem cold_t {sc : Scope} {st : Str → Bool} {X : Cx} {W W' : WX} (C : CtxOk S K Fa Ca pr G kr mg sc st X W) {c : CT} {e : Expr} {a : Addr} {pn : List (Addr × Obj)} (h : coldT S c sc e = true) : PT (X.suite a pn) e (tB K Fa Ca pr W' (evT G c)) := by
  unfold coldT at h
  split at h
  · split at h
    · simp only [Bool.and_eq_true, decide_eq_true_eq, Bool.not_eq_true'] at h
      rw [← h.1.1.1]
      exact ft_cmp (X := X.suite a pn) C.kw C.un h.1.1.2 (cold_e C h.1.2) (cold_e C h.2)
    · cases h
  · cases h
theorem cold_m {sc : Scope} {st : Str → Bool} {X : Cx} {W W' : WX} (C : CtxOk S K Fa Ca pr G kr mg sc st X W) {c : CE} {e : Expr} {a : Addr} {pn : List (Addr × Obj)} (h : coldM S c sc e = true) : PE (X.suite a pn) e (tE K Fa Ca pr W' (evE G c)) := by
  unfold coldM at h
  split at h
  · split at h
    · simp only [Bool.and_eq_true, decide_eq_true_eq] at h
      obtain ⟨⟨⟨⟨⟨⟨rfl, h1⟩, h2⟩, h3⟩, h4⟩, h5⟩, h6⟩ := h
      obtain ⟨q3, q4⟩ := okN_out h3
      exact fe_mut (X := X.suite a pn) (show X.N[_]? = _ from nn_at C h1) (C.vis h2) q3 q4 (noSup_out rfl) h4 (by simp [h5]) (by simp) (fe_cons h5 (cold_e C h6) fe_nil)
    · cases h
  · cases h
mutual
theorem cold_s : ∀ (c : CS) {sc : Scope} {st : Str → Bool} {X : Cx} {W W' : WX} {a : Addr} {pn : List (Addr × Obj)} {s : Stmt}, CtxOk S K Fa Ca pr G kr mg sc st X W → coldS S c sc s = true → PS (X.suite a pn) s (tS K Fa Ca pr W' refs N0 H0 (evS G c))
  | .ret e, sc, st, X, W, W', a, pn, s, C, h => by
    unfold coldS at h
    split at h
    · exact fs_ret (cold_e C h)
    · cases h
  | .retN, sc, st, X, W, W', a, pn, s, C, h => by
    unfold coldS at h
    split at h
    · exact fs_retN
    · cases h
  | .pass, sc, st, X, W, W', a, pn, s, C, h => by
    unfold coldS at h
    split at h
    · exact fs_pass
    · cases h
  | .brk, sc, st, X, W, W', a, pn, s, C, h => by
    unfold coldS at h
    split at h
    · exact fs_brk
    · cases h
  | .cont, sc, st, X, W, W', a, pn, s, C, h => by
    unfold coldS at h
    split at h
    · exact fs_cont
    · cases h
  | .ite t x y, sc, st, X, W, W', a, pn, s, C, h => by
    unfold coldS at h
    split at h
    · simp only [Bool.and_eq_true] at h
      exact fs_ite (cold_t C h.1.1) (cold_ss x C h.1.2) (cold_ss y C h.2)
    · cases h
  | .ex c, sc, st, X, W, W', a, pn, s, C, h => by
    unfold coldS at h
    split at h
    · simp only [Bool.and_eq_true] at h
      exact fs_ex (cold_m C h.2) (noComp_sw h.1)
    · cases h
  | .retL _ _, sc, st, X, W, W', a, pn, s, C, h => by simp [coldS] at h
  | .set _ _, sc, st, X, W, W', a, pn, s, C, h => by simp [coldS] at h
  | .par _ _, sc, st, X, W, W', a, pn, s, C, h => by simp [coldS] at h
  | .asg _ _, sc, st, X, W, W', a, pn, s, C, h => by simp [coldS] at h
  | .unk, sc, st, X, W, W', a, pn, s, C, h => by simp [coldS] at h
  | .aug _ _ _, sc, st, X, W, W', a, pn, s, C, h => by simp [coldS] at h
  | .augi _ _ _ _, sc, st, X, W, W', a, pn, s, C, h => by simp [coldS] at h
  | .whl _ _, sc, st, X, W, W', a, pn, s, C, h => by simp [coldS] at h
  | .for _ _ _, sc, st, X, W, W', a, pn, s, C, h => by simp [coldS] at h
  | .rais _ _, sc, st, X, W, W', a, pn, s, C, h => by simp [coldS] at h
  | .try_ _ _, sc, st, X, W, W', a, pn, s, C, h => by simp [coldS] at h
theorem cold_ss : ∀ (c : CSs) {sc : Scope} {st : Str → Bool} {X : Cx} {W W' : WX} {a : Addr} {pn : List (Addr × Obj)} {s : List Stmt}, CtxOk S K Fa Ca pr G kr mg sc st X W → coldSs S c sc s = true → PSs (X.suite a pn) s (tS K Fa Ca pr W' refs N0 H0 (evSs G c))
  | .nil, sc, st, X, W, W', a, pn, s, C, h => by
    unfold coldSs at h
    split at h
    · exact fs_nil
    · cases h
  | .cons c cs, sc, st, X, W, W', a, pn, s, C, h => by
    unfold coldSs at h
    split at h
    · simp only [Bool.and_eq_true] at h
      exact fs_cons (cold_s c C h.1) (cold_ss cs C h.2)
    · cases h
end
mutual
theorem soundS : ∀ (c : CS) {sc : Scope} {st : Str → Bool} {X : Cx} {W : WX} {s : Stmt}, StOk S K Fa Ca pr G kr mg sc st X W → matS S st c sc s = true → PS X s (tS K Fa Ca pr W refs N0 H0 (evS G c))
  | .ret e, sc, st, X, W, s, C, h => by
    unfold matS at h
    split at h
    · simp only [Bool.or_eq_true] at h
      exact fs_ret (soundEL C h)
    · cases h
  | .retL k caps, sc, st, X, W, s, C, h => by
    unfold matS at h
    cases h
  | .retN, sc, st, X, W, s, C, h => by
    unfold matS at h
    split at h
    · exact fs_retN
    · cases h
  | .ex c, sc, st, X, W, s, C, h => by
    unfold matS at h
    split at h
    · simp only [Bool.and_eq_true] at h
      exact fs_ex (soundE c C.c h.2) (noComp_sw h.1)
    · cases h
  | .set i c, sc, st, X, W, s, C, h => by
    unfold matS at h
    split at h
    · rename_i x px e pos
      simp only [Bool.and_eq_true, decide_eq_true_eq, Bool.not_eq_true'] at h
      obtain ⟨⟨⟨⟨h1, h2⟩, h3⟩, h4⟩, h5⟩ := h
      obtain ⟨q1, q2⟩ := C.c.stq x h2
      have nd : X.N.Nodup := by rw [C.c.nn]; exact C.c.nd
      have plain : swapsWith e (some (.Name x px)) pos.line X.env = pure false → PS X (.Assign [.Name x px] e pos) (tS K Fa Ca pr W refs N0 H0 (evS G (.set i c))) := fun hsw =>
        fs_set (npr_of C.c h3) nd (nn_at C.c h1) (by rw [C.c.scp]; exact q1) (by rw [C.c.scp]; exact q2) hsw (soundE c C.c h4)
      split at h5
      · rename_i elt gs scope lp
        cases hsw : swL sc x px scope lp with
        | false => exact plain (swL_false C.c.scp C.c.kind hsw)
        | true =>
          rw [hsw] at h5
          obtain ⟨w1, w2⟩ := swL_true (elt := elt) (gs := gs) (l := pos.line) C.c.scp C.c.kind hsw
          simp only [Bool.not_true, Bool.false_or] at h5
          split at h5
          · rename_i own tg it cond ec
            unfold matE at h4
            split at h4
            · rename_i x' t i' ifs scope' p e4
              cases e4
              simp only [Bool.and_eq_true] at h4
              obtain ⟨⟨⟨⟨⟨⟨k1, k2⟩, k3⟩, k4⟩, k5⟩, k6⟩, k7⟩ := h4
              obtain ⟨y1, y2, y3⟩ := C.c.blkOk k1
              exact fs_setLc (npr_of C.c h3) C.c.calm nd (nn_at C.c h1) w2 w1 (soundI it C.c k4) y1 y2 (all_out k2) (fun s H c cl fp => soundG (C.c.blk y3 s H cl c fp) k5) (fun s H c cl fp => soundC cond (C.c.blk y3 s H cl c fp) k6) (fun s H c cl fp => soundE ec (C.c.blk y3 s H cl c fp) k7) (noSet_out k3)
            · cases h4
          · rename_i own vs1 tg it cond tg1 it1 cond1 ec
            unfold matE at h4
            split at h4
            · rename_i x' t i' ifs t1 i1 ifs1 scope' p e4
              cases e4
              simp only [Bool.and_eq_true] at h4
              obtain ⟨⟨⟨⟨⟨⟨⟨⟨⟨⟨⟨⟨k1, k2⟩, k2b⟩, k2c⟩, k3⟩, k3b⟩, k4⟩, k5⟩, k6⟩, k7⟩, k8⟩, k9⟩, k10⟩ := h4
              obtain ⟨y1, y2, y3⟩ := C.c.blkOk k1
              exact fs_setLc2 (npr_of C.c h3) C.c.calm nd (nn_at C.c h1) w2 w1 (soundI it C.c k4) y1 (all_out k2c) y2 (all_out k2) (all_out k2b) (fun s H c cl fp => soundG (C.c.blk y3 s H cl c fp) k5) (fun s H c cl fp => soundC cond (C.c.blk y3 s H cl c fp) k6) (fun s H c cl fp => soundI it1 (C.c.blk y3 s H cl c fp) k7)
                (fun s H c cl fp => soundG (C.c.blk y3 s H cl c fp) k8) (fun s H c cl fp => soundC cond1 (C.c.blk y3 s H cl c fp) k9) (fun s H c cl fp => soundE ec (C.c.blk y3 s H cl c fp) k10) (noSet_out k3) (fun env => noSet_out k3b)
            · cases h4
          · cases h5
      · exact plain (noComp_sw h5)
    · cases h
  | .par is es, sc, st, X, W, s, C, h => by
    have nd : X.N.Nodup := by rw [C.c.nn]; exact C.c.nd
    unfold matS at h
    split at h
    · split at h
      · simp only [Bool.or_eq_true, Bool.and_eq_true, decide_eq_true_eq, Bool.not_eq_true'] at h
        rcases h with h | h
        · obtain ⟨⟨⟨⟨⟨⟨⟨⟨h1, h2⟩, h3⟩, h4⟩, h5⟩, h6⟩, h7⟩, h8⟩, h9⟩ := h
          exact fs_par2 (fun k hk => by
            simp only [List.mem_cons, List.not_mem_nil, or_false] at hk
            rcases hk with rfl | rfl
            · exact npr_of C.c h4
            · exact npr_of C.c h5) C.c.calm nd (nn_at C.c h1) (nn_at C.c h2) h3 (by rw [C.c.scp]; exact h6) (by rw [C.c.scp]; exact h7) (soundEs es C.c h8) (swS_out C.c.scp C.c.kind h9)
        · obtain ⟨⟨⟨⟨⟨⟨⟨⟨h1, h2⟩, h4⟩, h5⟩, h6⟩, h7⟩, h8⟩, h9⟩, h10⟩ := h
          obtain ⟨q1, q2⟩ := C.c.stq _ h6
          obtain ⟨q3, q4⟩ := C.c.stq _ h7
          exact fs_parT2 C.c.kw (fun k hk => by
            simp only [List.mem_cons, List.not_mem_nil, or_false] at hk
            rcases hk with rfl | rfl
            · exact npr_of C.c h4
            · exact npr_of C.c h5) C.c.calm nd (nn_at C.c h1) (nn_at C.c h2) (by rw [C.c.scp]; exact q1) (by rw [C.c.scp]; exact q2) (by rw [C.c.scp]; exact q3) (by rw [C.c.scp]; exact q4) (soundEs es C.c h8) (swS_out C.c.scp C.c.kind h10)
      · cases h
    · split at h
      · simp only [Bool.and_eq_true, decide_eq_true_eq, Bool.not_eq_true'] at h
        obtain ⟨⟨⟨⟨⟨⟨⟨⟨⟨⟨⟨⟨⟨h1, h2⟩, h3⟩, h4⟩, h5⟩, h6⟩, h7⟩, h8⟩, h9⟩, h10⟩, h11⟩, h12⟩, h13⟩, h14⟩ := h
        exact fs_par3 (fun k hk => by
          simp only [List.mem_cons, List.not_mem_nil, or_false] at hk
          rcases hk with rfl | rfl | rfl
          · exact npr_of C.c h7
          · exact npr_of C.c h8
          · exact npr_of C.c h9) C.c.calm nd (nn_at C.c h1) (nn_at C.c h2) (nn_at C.c h3) h4 h5 h6 (by rw [C.c.scp]; exact h10) (by rw [C.c.scp]; exact h11) (by rw [C.c.scp]; exact h12) (soundEs es C.c h13) (swS_out C.c.scp C.c.kind h14)
      · cases h
    · cases h
  | .asg t c, sc, st, X, W, s, C, h => by
    unfold matS at h
    split at h
    · simp only [Bool.and_eq_true, decide_eq_true_eq] at h
      obtain ⟨⟨⟨⟨h1, h2⟩, h3⟩, h4⟩, h5⟩ := h
      simp only [Bool.or_eq_true] at h4
      exact fs_asg (soundEL C h4) (soundX C.c t h3) (noComp_sw h2) (swS_out C.c.scp C.c.kind h5) (by rw [asg_cons h1]; rfl)
    · cases h
  | .unk, sc, st, X, W, s, C, h => ⟨fun pins s σ H D I q => by
    obtain ⟨r, N, _, z⟩ := q
    simp only [evS] at z
    exact z.elim⟩
  | .aug i op c, sc, st, X, W, s, C, h => by
    unfold matS at h
    split at h
    · simp only [Bool.and_eq_true, decide_eq_true_eq, Bool.not_eq_true'] at h
      obtain ⟨⟨⟨⟨h1, h2⟩, h3⟩, h4⟩, h5⟩ := h
      obtain ⟨q1, q2⟩ := C.c.stq _ h2
      have nd : X.N.Nodup := by rw [C.c.nn]; exact C.c.nd
      rcases augOp_out h4 with ⟨rfl, rfl⟩ | ⟨rfl, rfl⟩
      · exact fs_aug ip_add (fun _ _ => rfl) (npr_of C.c h3) nd (nn_at C.c h1) (by rw [C.c.scp]; exact q1) (by rw [C.c.scp]; exact q2) (soundE c C.c h5)
      · exact fs_aug ip_sub (fun _ _ => rfl) (npr_of C.c h3) nd (nn_at C.c h1) (by rw [C.c.scp]; exact q1) (by rw [C.c.scp]; exact q2) (soundE c C.c h5)
    · cases h
  | .augi i ix op c, sc, st, X, W, s, C, h => by
    unfold matS at h
    split at h
    · simp only [Bool.and_eq_true, decide_eq_true_eq] at h
      obtain ⟨⟨⟨⟨⟨⟨h1, h2⟩, h3⟩, h4⟩, h5⟩, h6⟩, h7⟩ := h
      obtain ⟨q3, q4⟩ := okN_out h3
      rcases augOp_out h5 with ⟨rfl, rfl⟩ | ⟨rfl, rfl⟩
      · exact fs_augi ip_add (fun _ _ => rfl) C.c.kw C.c.un (nn_at C.c h1) (C.c.vis h2) q3 q4 h4 (soundE ix C.c h6) (soundE c C.c h7)
      · exact fs_augi ip_sub (fun _ _ => rfl) C.c.kw C.c.un (nn_at C.c h1) (C.c.vis h2) q3 q4 h4 (soundE ix C.c h6) (soundE c C.c h7)
    · cases h
  | .ite t a b, sc, st, X, W, s, C, h => by
    unfold matS at h
    split at h
    · simp only [Bool.and_eq_true] at h
      exact fs_ite (soundT t C.c h.1.1).1 (soundSs a C h.1.2) (soundSs b C h.2)
    · cases h
  | .whl t b, sc, st, X, W, s, C, h => by
    unfold matS at h
    split at h
    · simp only [Bool.and_eq_true] at h
      exact fs_whl C.po (soundT t C.c h.1).1 (soundSs b C h.2)
    · cases h
  | .for tg it b, sc, st, X, W, s, C, h => by
    unfold matS at h
    split at h
    · simp only [Bool.and_eq_true] at h
      obtain ⟨⟨⟨⟨h1, h2⟩, h3⟩, h4⟩, h5⟩ := h
      exact fs_for C.po C.c.calm (fun j hj => C.c.npr j (disj_out h2 j hj)) (soundI it C.c h3) (soundG C.c h4) (soundSs b C h5) (noSet_out h1)
    · cases h
  | .pass, sc, st, X, W, s, C, h => by
    unfold matS at h
    split at h
    · exact fs_pass
    · cases h
  | .brk, sc, st, X, W, s, C, h => by
    unfold matS at h
    split at h
    · exact fs_brk
    · cases h
  | .cont, sc, st, X, W, s, C, h => by
    unfold matS at h
    split at h
    · exact fs_cont
    · cases h
  | .rais c es, sc, st, X, W, s, C, h => by
    unfold matS at h
    split at h
    · simp only [Bool.and_eq_true, decide_eq_true_eq] at h
      obtain ⟨⟨⟨h1, h2⟩, h3⟩, h4⟩ := h
      split at h4
      · have h4 := of_decide_eq_true h4
        subst h4
        obtain ⟨q1, q2, B, n1, n2, bm, q3, q4, q5, q6⟩ := C.ex _ _ h1
        exact fs_raise C.c.calm C.c.tk q2 q3 q4 (by rw [C.c.mgq]; exact q1) q5 q6 (C.c.gl h2) (okN_out h3).1
      · cases h4
    · cases h
  | .try_ b hs, sc, st, X, W, s, C, h => by
    unfold matS at h
    split at h
    · simp only [Bool.and_eq_true] at h
      exact fs_try C.stk C.frm C.c.tk C.sub (fun W' pn xe tk po => soundSs b (C.tr tk po) h.1) (soundH hs C h.2)
    · cases h
theorem soundSs : ∀ (c : CSs) {sc : Scope} {st : Str → Bool} {X : Cx} {W : WX} {s : List Stmt}, StOk S K Fa Ca pr G kr mg sc st X W → matSs S st c sc s = true → PSs X s (tS K Fa Ca pr W refs N0 H0 (evSs G c))
  | .nil, sc, st, X, W, s, C, h => by
    unfold matSs at h
    split at h
    · exact fs_nil
    · cases h
  | .cons c cs, sc, st, X, W, s, C, h => by
    unfold matSs at h
    split at h
    · simp only [Bool.and_eq_true] at h
      exact fs_cons (soundS c C h.1) (soundSs cs C h.2)
    · cases h
theorem soundH : ∀ (hs : Hds) {sc : Scope} {st : Str → Bool} {X : Cx} {W : WX} {l : List ExceptHandler}, StOk S K Fa Ca pr G kr mg sc st X W → matH S hs sc l = true → HdsOk X l (hdL K Fa Ca pr refs N0 H0 G hs)
  | .nil, sc, st, X, W, l, C, h => by
    unfold matH at h
    split at h
    · exact .nil
    · cases h
  | .cons c as_ b hs, sc, st, X, W, l, C, h => by
    unfold matH at h
    split at h
    · simp only [Bool.and_eq_true, decide_eq_true_eq] at h
      obtain ⟨⟨⟨⟨h1, h2⟩, h3⟩, h4⟩, h5⟩ := h
      obtain ⟨q1, _⟩ := C.ex _ _ h1
      exact .cons ⟨C.c.gl h2, (okN_out h3).1, .inl (by rw [C.c.mgq]; exact q1)⟩ (fun a oe cls d pn _ _ => cold_ss b C.c h4) (soundH hs C h5)
    · cases h
end
end
end E2

set_option Elab.async false
set_option linter.all false
set_option maxRecDepth 100000
set_option maxHeartbeats 4000000
namespace E2
variable [Tbs]
open PySem PySem.Spec PyProof.Rows L2
/-! ## defs -/
def prs : Nat → List V → List Ag → List (Nat × Addr)
  | i, .ref a :: vs, .rf _ :: xs => (i, a) :: prs (i + 1) vs xs
  | i, _ :: vs, _ :: xs => prs (i + 1) vs xs
  | _, _, _ => []
section
variable {K : Kw} {Fa Ca : Nat → Addr} {N N' : NS} {H H' : Hp} {r : En} {σ : L2.St} {pr : List (Nat × Addr)}
theorem prs_snd : ∀ {vs : List V} {ags : List Ag} (i : Nat), (prs i vs ags).map (·.2) = refAd vs ags
  | [], [], _ => rfl
  | [], _ :: _, _ => rfl
  | _ :: _, [], _ => by simp [prs, refAd]
  | v :: vs, x :: xs, i => by
    have ih := prs_snd (vs := vs) (ags := xs) (i + 1)
    cases x <;> cases v <;> simp only [prs, refAd, List.map_cons, ih]
theorem prs_fst : ∀ {sig : List Bool} {vs : List V} {ags : List Ag} (i : Nat), AgsR K Fa N H vs ags → okSig sig ags = true → (prs i vs ags).map (·.1) = refSlots i sig
  | [], [], [], _, _, _ => rfl
  | [], _ :: _, [], _, h, _ => h.elim
  | true :: bs, v :: vs, .rf d :: xs, i, h, o => by
    obtain ⟨a, rfl, _⟩ := h.1
    simp only [prs, refSlots, List.map_cons, prs_fst (i + 1) h.2 o]
  | false :: bs, v :: vs, .val d :: xs, i, h, o => by
    have ih := prs_fst (i + 1) h.2 o
    cases v <;> simp only [prs, refSlots, ih]
  | false :: bs, v :: vs, .fn k ds :: xs, i, h, o => by
    have ih := prs_fst (i + 1) h.2 o
    cases v <;> simp only [prs, refSlots, ih]
  | _, [], _ :: _, _, h, _ => h.elim
  | [], _, _ :: _, _, _, o => by simp [okSig] at o
  | _ :: _, _, [], _, _, o => by simp [okSig] at o
  | true :: _, _ :: _, .val _ :: _, _, _, o => by simp [okSig] at o
  | true :: _, _ :: _, .fn _ _ :: _, _, _, o => by simp [okSig] at o
  | false :: _, _ :: _, .rf _ :: _, _, _, o => by simp [okSig] at o
theorem prs_at : ∀ {vs : List V} {ags : List Ag} (i : Nat), ∀ p ∈ prs i vs ags, ∃ j, p.1 = i + j ∧ vs[j]? = some (.ref p.2)
  | [], [], _, p, hp => by simp [prs] at hp
  | [], _ :: _, _, p, hp => by simp [prs] at hp
  | _ :: _, [], _, p, hp => by simp [prs] at hp
  | v :: vs, x :: xs, i, p, hp => by
    have rest : p ∈ prs (i + 1) vs xs → ∃ j, p.1 = i + j ∧ (v :: vs)[j]? = some (.ref p.2) := fun hp => by
      obtain ⟨j, h1, h2⟩ := prs_at (i + 1) p hp
      exact ⟨j + 1, by omega, by simpa using h2⟩
    cases x with
    | rf d =>
      cases v with
      | ref a =>
        simp only [prs, List.mem_cons] at hp
        rcases hp with rfl | hp
        · exact ⟨0, rfl, rfl⟩
        · exact rest hp
      | _ => exact rest (by simpa only [prs] using hp)
    | val d => cases v <;> exact rest (by simpa only [prs] using hp)
    | fn k ds => cases v <;> exact rest (by simpa only [prs] using hp)
theorem startA_len : ∀ ags : List Ag, (startA ags).length = ags.length
  | [] => rfl
  | .val d :: r => congrArg (· + 1) (startA_len r)
  | .rf d :: r => congrArg (· + 1) (startA_len r)
  | .fn d _ :: r => congrArg (· + 1) (startA_len r)
theorem AgsR.len : ∀ {vs : List V} {ags : List Ag}, AgsR K Fa N H vs ags → vs.length = ags.length
  | [], [], _ => rfl
  | _ :: _, _ :: _, h => congrArg (· + 1) (AgsR.len h.2)
  | [], _ :: _, h => h.elim
  | _ :: _, [], h => h.elim
theorem startA_at : ∀ {vs : List V} {ags : List Ag} {j : Nat} {s : Sv}, AgsR K Fa N H vs ags → (startA ags)[j]? = some (some s) → ∃ v, vs[j]? = some v ∧ SvR K Fa N H v s ∧ ∀ d a, s = .dat true d → v = .ref a → a ∈ refAd vs ags
  | [], [], j, s, _, e => by simp [startA] at e
  | v :: vs, x :: xs, 0, s, h, e => by
    cases x with
    | val d =>
      simp only [startA, List.getElem?_cons_zero] at e
      cases e
      exact ⟨v, rfl, h.1, fun d a e => by cases e⟩
    | rf d =>
      simp only [startA, List.getElem?_cons_zero] at e
      cases e
      obtain ⟨a, rfl, h1, h2⟩ := h.1
      exact ⟨_, rfl, ⟨a, rfl, h1, h2⟩, fun d a' _ e => by cases e; exact List.mem_cons_self⟩
    | fn k ds =>
      simp only [startA, List.getElem?_cons_zero] at e
      cases e
      exact ⟨v, rfl, h.1, fun d a e => by cases e⟩
  | v :: vs, x :: xs, j + 1, s, h, e => by
    have e' : (startA xs)[j]? = some (some s) := by cases x <;> simpa [startA] using e
    obtain ⟨u, h1, h2, h3⟩ := startA_at h.2 e'
    refine ⟨u, by simpa using h1, h2, fun d a e1 e2 => ?_⟩
    have := h3 d a e1 e2
    unfold refAd
    split
    · rename_i q1 q2; cases q1; cases q2; exact List.mem_cons_of_mem _ this
    · rename_i q1 q2; cases q1; cases q2; exact this
    · rename_i q; exact (q v vs x xs rfl rfl).elim
  | [], _ :: _, _, _, h, _ => h.elim
  | _ :: _, [], _, _, h, _ => h.elim
theorem startA_inj : ∀ {vs : List V} {ags : List Ag} {i j : Nat} {d e : D} {a : Addr}, AgsR K Fa N H vs ags → (refAd vs ags).Nodup → (startA ags)[i]? = some (some (.dat true d)) → (startA ags)[j]? = some (some (.dat true e)) → vs[i]? = some (.ref a) → vs[j]? = some (.ref a) → i = j
  | [], [], i, j, d, e, a, _, _, h1, _, _, _ => by simp [startA] at h1
  | v :: vs, x :: xs, 0, 0, d, e, a, h, n, h1, h2, h3, h4 => rfl
  | v :: vs, x :: xs, 0, j + 1, d, e, a, h, n, h1, h2, h3, h4 => by
    cases x with
    | rf d' =>
      cases h3
      have e' : (startA xs)[j]? = some (some (.dat true e)) := by simpa [startA] using h2
      obtain ⟨u, k1, _, k3⟩ := startA_at h.2 e'
      have : u = .ref a := by
        have q : vs[j]? = some (.ref a) := by simpa using h4
        rw [q] at k1
        exact (Option.some.inj k1).symm
      exact absurd (k3 e a rfl this) (List.nodup_cons.mp (show (a :: refAd vs xs).Nodup from n)).1
    | val d' => simp only [startA, List.getElem?_cons_zero] at h1; cases h1
    | fn d' ds => simp only [startA, List.getElem?_cons_zero] at h1; cases h1
  | v :: vs, x :: xs, i + 1, 0, d, e, a, h, n, h1, h2, h3, h4 => by
    cases x with
    | rf d' =>
      cases h4
      have e' : (startA xs)[i]? = some (some (.dat true d)) := by simpa [startA] using h1
      obtain ⟨u, k1, _, k3⟩ := startA_at h.2 e'
      have : u = .ref a := by
        have q : vs[i]? = some (.ref a) := by simpa using h3
        rw [q] at k1
        exact (Option.some.inj k1).symm
      exact absurd (k3 d a rfl this) (List.nodup_cons.mp (show (a :: refAd vs xs).Nodup from n)).1
    | val d' => simp only [startA, List.getElem?_cons_zero] at h2; cases h2
    | fn d' ds => simp only [startA, List.getElem?_cons_zero] at h2; cases h2
  | v :: vs, x :: xs, i + 1, j + 1, d, e, a, h, n, h1, h2, h3, h4 => by
    have e1 : (startA xs)[i]? = some (some (.dat true d)) := by cases x <;> simpa [startA] using h1
    have e2 : (startA xs)[j]? = some (some (.dat true e)) := by cases x <;> simpa [startA] using h2
    have n' : (refAd vs xs).Nodup := by
      unfold refAd at n
      split at n
      · rename_i q1 q2; cases q1; cases q2; exact (List.nodup_cons.mp n).2
      · rename_i q1 q2; cases q1; cases q2; exact n
      · rename_i q; exact (q v vs x xs rfl rfl).elim
    exact congrArg (· + 1) (startA_inj h.2 n' e1 e2 (by simpa using h3) (by simpa using h4))
  | [], _ :: _, _, _, _, _, _, h, _, _, _, _, _ => h.elim
  | _ :: _, [], _, _, _, _, _, h, _, _, _, _, _ => h.elim
theorem refAd_N : ∀ {vs : List V} {ags : List Ag}, AgsR K Fa N H vs ags → ∀ a ∈ refAd vs ags, N a
  | [], [], _, a, ha => by simp [refAd] at ha
  | v :: vs, x :: xs, h, a, ha => by
    unfold refAd at ha
    split at ha
    · rename_i q1 q2
      cases q1
      cases q2
      rcases List.mem_cons.mp ha with rfl | ha
      · obtain ⟨b, h1, h2, _⟩ := h.1
        cases h1
        exact h2
      · exact refAd_N h.2 a ha
    · rename_i q1 q2
      cases q1
      cases q2
      exact refAd_N h.2 a ha
    · exact absurd ha (by simp)
  | [], _ :: _, h, _, _ => h.elim
  | _ :: _, [], h, _, _ => h.elim
theorem app_at {α : Type} {l : List α} {n : Nat} {x : α} {j : Nat} {y : α} (h : (l ++ List.replicate n x)[j]? = some y) : l[j]? = some y ∨ y = x := by
  rcases Nat.lt_or_ge j l.length with z | z
  · rw [List.getElem?_append_left z] at h
    exact .inl h
  · rw [List.getElem?_append_right z] at h
    have := List.mem_of_getElem? h
    exact .inr (List.eq_of_mem_replicate this)
/-- where a def's body starts -/
theorem start_ok {names : List Str} {vs : List V} {ags : List Ag} {n : Nat} (hn : n = names.length) (h : AgsR K Fa N H vs ags) (nd : (refAd vs ags).Nodup) (t : ∀ b, N b → Mut (H b)) (tb : TabO N H) : FrI K Fa (prs 0 vs ags) (refAd vs ags) N H (startA ags ++ List.replicate (n - ags.length) none) (L2.start names vs) N H := by
  have hl := h.len
  have sl : ∀ {j : Nat} {s : Sv}, (startA ags ++ List.replicate (n - ags.length) none)[j]? = some (some s) → (startA ags)[j]? = some (some s) := fun {j s} e => by
    rcases app_at e with z | z
    · exact z
    · cases z
  have sv : ∀ {j : Nat} {v : V}, vs[j]? = some v → (L2.start names vs)[j]? = some (some v) := fun {j v} e => by
    unfold L2.start
    rw [List.getElem?_append_left (by rw [List.length_map]; exact (List.getElem?_eq_some_iff.mp e).1), List.getElem?_map, e]
    rfl
  have vs' : ∀ {j : Nat} {v : V}, (L2.start names vs)[j]? = some (some v) → vs[j]? = some v := fun {j v} e => by
    unfold L2.start at e
    rcases app_at e with z | z
    · rw [List.getElem?_map] at z
      obtain ⟨u, h1, h2⟩ := Option.map_eq_some_iff.mp z
      cases h2
      exact h1
    · cases z
  refine ⟨⟨?_, fun j s e => ?_, fun i j d e a h1 h2 h3 h4 => startA_inj h nd (sl h1) (sl h2) (vs' h3) (vs' h4), t, fun p hp => ?_, tb⟩, ⟨fun _ _ e _ _ => e, fun h => h, fun _ h => .inl h, fun _ h _ => h, fun b hb => refAd_N h b hb, fun _ h => h⟩, fun b ⟨j, d, h1, h2⟩ => ?_, fun b hb => mutSome (t b hb)⟩
  · unfold L2.start
    rw [List.length_append, List.length_append, startA_len, List.length_map, List.length_replicate, List.length_replicate, hn, hl]
  · obtain ⟨v, h1, h2, _⟩ := startA_at h (sl e)
    exact ⟨v, sv h1, h2⟩
  · obtain ⟨j, h1, h2⟩ := prs_at 0 p hp
    rw [h1, Nat.zero_add]
    exact sv h2
  · obtain ⟨v, h3, _, h4⟩ := startA_at h (sl h1)
    have := vs' h2
    rw [h3] at this
    exact .inl (h4 d b rfl (Option.some.inj this))
theorem refsOf_ok (g : Good K Fa pr r σ N H) : ∀ {ps : List (Nat × Addr)} {ds : List D}, (∀ p ∈ ps, σ[p.1]? = some (some (.ref p.2))) → refsOf r (ps.map (·.1)) = some ds → RfsR K N H (ps.map (·.2)) ds ∧ ∀ p ∈ ps, own r σ p.2
  | [], ds, _, e => by
    simp only [List.map_nil, refsOf] at e
    cases e
    exact ⟨trivial, fun p hp => absurd hp (by simp)⟩
  | p :: ps, ds, h, e => by
    simp only [List.map_cons, refsOf] at e
    split at e
    · rename_i d ei
      obtain ⟨ds', e1, e2⟩ := Option.map_eq_some_iff.mp e
      subst e2
      obtain ⟨h1, h2⟩ := refsOf_ok g (fun q hq => h q (List.mem_cons_of_mem _ hq)) e1
      obtain ⟨v, h3, a, rfl, h4, h5⟩ := g.slot _ _ ei
      have h6 := h p List.mem_cons_self
      rw [h3] at h6
      cases h6
      refine ⟨⟨⟨h4, h5⟩, h1⟩, fun q hq => ?_⟩
      rcases List.mem_cons.mp hq with rfl | hq
      · exact ⟨_, d, ei, h3⟩
      · exact h2 q hq
    · cases e
end
end E2

set_option Elab.async false
set_option linter.all false
set_option maxRecDepth 100000
set_option maxHeartbeats 4000000
namespace E2
variable [Tbs]
open PySem PySem.Spec PyProof.Rows L2
/-- what is known of the module, whatever runs -/
structure ModOk (S : Sm) (P : Program) (w : World) (K : Kw) (mg : Str → Option Value) (base : Heap) (Fa Ca : Nat → Addr) (G : Gs) (k : Nat) : Prop where
  fd : ∀ i nm, S.fnm[i]? = some nm → mg nm = some (.ref (Fa i)) ∧ ∃ fd ps, FnOk P w K.fr mg base (L2.CX P w) k (Fa i) fd ps (spec K Fa Ca ps.length (G.call i)) ∧ PySem.W.keepIn K.fr (.ref (Fa i)) = true ∧ Binds K.fr fd ps [] ∧ (G.sig i).length = ps.length
  sg : ∀ i, G.sig i ≠ [] → Tbs.isL i = false → ∃ nm, S.fnm[i]? = some nm
  il : ∀ i nm, S.fnm[i]? = some nm → Tbs.isL i = false
  fl : ∀ i, Tbs.isL i = true → LamOk P w K mg base G k i
  gc : ∀ g nm, S.gnm[g]? = some nm → ∃ u w dd, mg nm = some u ∧ L2.RelV w u ∧ G.gcs g = some dd ∧ GcR K w dd
  bl : ∀ x, x ∈ bnames → mg x = none
  ex : ∀ c nm, S.enm[c]? = some nm → mg nm = some (.ref (Ca c)) ∧ G.exf c = some [] ∧ ∃ B newId initId bmB, ExcBaseFacts B newId initId bmB ∧ PySem.W.excIn K.fr (Ca c) bmB newId = true ∧ PySem.W.keepIn K.fr (.ref (Ca c)) = true ∧ PySem.W.subIn K.fr (.ref (Ca c)) (.type "BaseException") = some true ∧ PySem.W.typeIn K.fr (.ref (Ca c)) = some (.type "type")
  sub : ∀ a b k, G.sub a b = some k → PySem.W.exmOne K.fr (.ref (Ca a)) (.ref (Ca b)) = some k
  lf : ∀ (j : Nat) (ld : LamDt), S.lams[j]? = some ld → Tbs.isL (S.fnm.length + j) = true ∧ Tbs.fr (S.fnm.length + j) = ld.fr ∧ ∀ params body scope, lamB S ld params body scope = true → Tbs.fit (S.fnm.length + j) params body scope
section
variable {P : Program} {w : World} {K : Kw} {mg : Str → Option Value} {base : Heap} {Fa Ca : Nat → Addr} {G : Gs} {k : Nat}
theorem refs_at {r : En} : ∀ {ps : List (Nat × Addr)} {ds : List D}, refsOf r (ps.map (·.1)) = some ds → ∀ p ∈ ps, ∃ d, r[p.1]? = some (some (.dat true d))
  | [], _, _, p, hp => absurd hp (by simp)
  | q :: ps, ds, e, p, hp => by
    simp only [List.map_cons, refsOf] at e
    split at e
    · rename_i d ei
      obtain ⟨ds', e1, _⟩ := Option.map_eq_some_iff.mp e
      rcases List.mem_cons.mp hp with rfl | hp
      · exact ⟨d, ei⟩
      · exact refs_at e1 p hp
    · cases e
theorem fn_sound {f : Fn} {fa : Addr} {gn en : List Str} {lq : Option Str} {lams : List LamDt} {fnm names ps : List Str} {name qual : Str} {params : Arguments} {body : List Stmt} {scope : Scope} {dV kV doc pm cdv ct oc : Value} {an od : Option Addr} {osl : Array (Option Value)} (hw : K.w = w)
    (M : ModOk ⟨names, refSlots 0 f.sig, fnm, gn, en, lq, lams⟩ P w K mg base Fa Ca G k) (lk : K.fr.lookup fa = some ⟨oc, od, .func (PySem.W.fnOf name qual params body scope dV kV doc pm an cdv ct), osl⟩) (hcd : PySem.W.codeIn K.fr cdv qual = true) (FS : FnScope names ps scope)
    (hlm : ∀ q, lq = some q → q = qual ++ ".<locals>." ++ "<lambda>" ∧ ∃ c P, cdv = .ref c ∧ LamX.TabB base mg c P ∧ (P, q) ∈ Tbs.T ∧ ∀ p ∈ Tbs.T, p.1 = P → p.2 = q)
    (hn : f.n = names.length) (hm : matSs ⟨names, refSlots 0 f.sig, fnm, gn, en, lq, lams⟩ (stB scope) f.body scope body = true) :
    FnOk P w K.fr mg base (L2.CX P w) (k + 1) fa (PySem.W.fnOf name qual params body scope dV kV doc pm an cdv ct) ps (spec K Fa Ca ps.length (runF G f)) := by
  refine fn_of lk hcd FS (fun vs H Q E h => by obtain ⟨ags, N, h1, _⟩ := h; exact h1) fun A outer s H vs Q E room sp => ?_
  obtain ⟨ags, N, hl, hag, nd, trk, tb, post⟩ := sp
  obtain ⟨fr, kw⟩ : ∃ fr, K = ⟨fr, w⟩ := ⟨K.fr, by rw [← hw]⟩
  -- the pure run's own start
  have osg : okSig f.sig ags = true := by
    cases e : okSig f.sig ags with
    | true => rfl
    | false =>
      have e2 : runF G f ags = .stuck := by unfold runF; rw [e]; rfl
      rw [e2] at post
      exact post.elim
  have efs := prs_fst (i := 0) hag osg
  have esn := prs_snd (vs := vs) (ags := ags) 0
  have C : StOk ⟨names, refSlots 0 f.sig, fnm, gn, en, lq, lams⟩ K Fa Ca (prs 0 vs ags) G k mg scope (stB scope) (cxOf (L2.CX P w) P w K.fr mg base names qual scope fa cdv A outer s H E) (fun cls d _ H => E cls d H) := by
    refine ⟨⟨by rw [kw]; rfl, rfl, FS.nd, rfl, room, rfl, FS.kind, rfl, takes_of rfl rfl rfl rfl, fun x h => ?_, fun i nm e => ?_, M.sg, M.il, fun i h => ⟨(M.fl i h).run⟩, M.gc, M.bl, fun i hi p hp z => hi ?_⟩, passes_of rfl, rfl, rfl, fun c nm e => ?_, M.sub, fun q e => ?_, M.lf⟩
    · unfold stB at h
      split at h
      · rename_i e; exact ⟨.inl e, .inl rfl⟩
      · rename_i e; exact ⟨.inr e, .inl rfl⟩
      · cases h
    · obtain ⟨h1, fd, ps', h2, h3, h4, h5⟩ := M.fd i nm e
      exact ⟨h1, fd, ps', h2, h3, h4, h5⟩
    · show i ∈ refSlots 0 f.sig
      rw [← efs]
      exact List.mem_map.mpr ⟨p, hp, z⟩
    · obtain ⟨h1, h2, B, n1, n2, bm, h3, h4, h5, h6, h7⟩ := M.ex c nm e
      exact ⟨h1, h2, B, n1, n2, bm, h3, h4, h5, raises_own h6 h7⟩
    · obtain ⟨q1, c, P', q2, q3, q4, q5⟩ := hlm q e
      exact ⟨⟨c, P', q2, q3, q4, q5⟩, q1, fun _ => rfl⟩
  refine ⟨_, soundSs (refs := refAd vs ags) (N0 := N) (H0 := H) f.body C hm, startA ags ++ List.replicate (f.n - ags.length) none, N, start_ok hn hag nd trk tb, ?_⟩
  have fin : ∀ {r' : En} {σ' : L2.St} {N' : NS} {H' : Hp} {ds : List D}, FrI K Fa (prs 0 vs ags) (refAd vs ags) N H r' σ' N' H' → refsOf r' (refSlots 0 f.sig) = some ds → RfsR K N' H' (refAd vs ags) ds ∧ ∀ a ∈ refAd vs ags, own r' σ' a := fun {r' σ' N' H' ds} I e => by
    rw [← efs] at e
    obtain ⟨h1, h2⟩ := refsOf_ok I.g (fun p hp => I.g.prs p hp) e
    rw [esn] at h1
    refine ⟨h1, fun a ha => ?_⟩
    rw [← esn] at ha
    obtain ⟨p, hp, rfl⟩ := List.mem_map.mp ha
    exact h2 p hp
  have done : ∀ {x : R} {r' : En} {v : V} {σ' : L2.St} {N' : NS} {H' : Hp}, runF G f ags = finR f x r' → FrI K Fa (prs 0 vs ags) (refAd vs ags) N H r' σ' N' H' → RetR K Fa (refAd vs ags) N r' σ' N' H' v x → Q v H' := fun {x r' v σ' N' H'} e I rt => by
    rw [e] at post
    cases hr : refsOf r' (refSlots 0 f.sig) with
    | none => simp only [finR, hr] at post
    | some ds =>
      obtain ⟨h1, h2⟩ := fin I hr
      cases x with
      | fn k ds =>
        simp only [finR, hr] at post
        exact post v H' N' I.ext I.g.trk rt.1 h1
      | val o d =>
        simp only [finR, hr] at post
        refine post v H' N' I.ext I.g.trk ?_ h1
        cases o with
        | false => exact rt.1
        | true =>
          obtain ⟨a, e1, e2, e3, e4⟩ := rt.1
          exact ⟨a, e1, e2, e3, (rt.2 d a rfl e1).elim id fun z => absurd (h2 a z) e4⟩
      | sl i =>
        simp only [finR, hr] at post
        by_cases hi : i ∈ refSlots 0 f.sig
        · rw [if_pos hi] at post
          exact post.elim
        · rw [if_neg hi] at post
          obtain ⟨h3, o, d, ei⟩ := rt.1
          rw [ei] at post
          simp only at post
          refine post v H' N' I.ext I.g.trk ?_ h1
          obtain ⟨v', e1, e2⟩ := I.g.slot _ _ ei
          rw [e1] at h3
          cases h3
          cases o with
          | false => exact e2
          | true =>
            obtain ⟨a, rfl, e4, e5⟩ := e2
            refine ⟨a, rfl, e4, e5, fun z => ?_⟩
            rcases I.ow a ⟨i, d, ei, e1⟩ with q | q
            · rw [← esn] at q
              obtain ⟨p, hp, rfl⟩ := List.mem_map.mp q
              have es := I.g.prs p hp
              rw [← efs] at hr
              obtain ⟨d2, hd2⟩ := refs_at hr p hp
              have := I.g.inj i p.1 d d2 p.2 ei hd2 e1 es
              apply hi
              rw [this, ← efs]
              exact List.mem_map.mpr ⟨p, hp, rfl⟩
            · exact I.t0 a z q
  have er : runF G f ags = match evSs G f.body (startA ags ++ List.replicate (f.n - ags.length) none) with
      | .nx r => finR f (.val false .none) r
      | .ret x r => finR f x r
      | .exc x r => match refsOf r (refSlots 0 f.sig) with
        | some ds => .exc x ds
        | none => .stuck
      | _ => .stuck := by
    unfold runF
    rw [if_pos osg]
    first | done | (generalize evSs G f.body (startA ags ++ List.replicate (f.n - ags.length) none) = o; cases o <;> rfl)
  cases e : evSs G f.body (startA ags ++ List.replicate (f.n - ags.length) none) with
  | nx r' =>
    rw [e] at er
    exact fun σ' N' H' I f' => done er I ⟨Rp.non, fun d a z => by cases z⟩
  | ret x r' =>
    rw [e] at er
    exact fun v σ' N' H' I f' rt => done er I rt
  | exc x r' =>
    rw [e] at er
    intro cls d σ' N' H' I f' hx
    rw [er] at post
    cases hr : refsOf r' (refSlots 0 f.sig) with
    | none => simp only [hr] at post
    | some ds =>
      simp only [hr] at post
      exact post cls d H' N' I.ext I.g.trk hx (fin I hr).1
  | brk r' => rw [e] at er; rw [er] at post; exact post.elim
  | cont r' => rw [e] at er; rw [er] at post; exact post.elim
  | stuck => rw [e] at er; rw [er] at post; exact post.elim
end
end E2

set_option Elab.async false
set_option linter.all false
set_option maxRecDepth 100000
set_option maxHeartbeats 2000000
namespace E2
variable [Tbs]
open PySem PySem.Spec PyProof.Rows L2
/-! ## lambdas: their promise -/
def LamDt.fn (ld : LamDt) : Fn := ⟨ld.N.length, List.replicate (1 + ld.fr.length) false, .cons (.ret ld.ce) .nil⟩
theorem bind_lam {x : Str} {p : Pos} (h : x ∈ ([Str.ofString "here", Str.ofString "one", Str.ofString "way", Str.ofString "effect", Str.ofString "rule"] : List Str)) (q : Str) (body : Expr) (scope : Scope) (cl : List (Str × Addr)) (pm cv ctv u : Value) :
    bindArgs (PySem.W.kla_fn "<lambda>" q ⟨[], [⟨x, none, p⟩], none, [], [], none, []⟩ body scope cl pm cv ctv) ⟨[u], []⟩ = pure [(x, u)] := by
  simp only [List.mem_cons, List.not_mem_nil, or_false] at h
  rcases h with rfl | rfl | rfl | rfl | rfl <;> rfl
section
variable {P : Program} {w : World} {K : Kw} {mg : Str → Option Value} {base : Heap} {Fa Ca : Nat → Addr} {G : Gs} {k : Nat}
theorem startF_get {N : List Str} {vs ws : List V} {i : Nat} {v : V} (h : (vs ++ ws)[i]? = some v) : (NdefX.startF N vs (ws.map some))[i]? = some (some v) := by
  unfold NdefX.startF
  rw [← List.append_assoc, ← List.map_append, List.getElem?_append_left (by rw [List.length_map]; exact (List.getElem?_eq_some_iff.mp h).1), List.getElem?_map, h]; rfl
theorem startV_get {ds : List D} {n i : Nat} {s : Sv} (h : (startA (ds.map Ag.val) ++ List.replicate n none)[i]? = some (some s)) : ∃ d, ds[i]? = some d ∧ s = .dat false d := by
  have e : ∀ ds : List D, startA (ds.map Ag.val) = ds.map fun d => some (Sv.dat false d) := fun ds => by
    induction ds with
    | nil => rfl
    | cons d ds ih => exact congrArg (some (Sv.dat false d) :: ·) ih
  rw [e] at h
  by_cases hi : i < ds.length
  · rw [List.getElem?_append_left (by rw [List.length_map]; exact hi), List.getElem?_map] at h
    obtain ⟨d, h1, h2⟩ := Option.map_eq_some_iff.mp h
    cases h2
    exact ⟨d, h1, rfl⟩
  · rw [List.getElem?_append_right (by rw [List.length_map]; omega), List.getElem?_replicate] at h
    split at h <;> cases h
theorem okSig_vals : ∀ {ds : List D} {n : Nat}, okSig (List.replicate n false) (ds.map Ag.val) = true ↔ ds.length = n
  | [], 0 => by simp [okSig]
  | [], n + 1 => by simp [okSig, List.replicate_succ]
  | d :: ds, 0 => by simp [okSig]
  | d :: ds, n + 1 => by
    rw [List.replicate_succ, List.map_cons]
    simp only [okSig, List.length_cons]
    rw [okSig_vals]
    omega
theorem refSlots_none : ∀ (n i : Nat), refSlots i (List.replicate n false) = []
  | 0, _ => rfl
  | n + 1, i => by
    rw [List.replicate_succ]
    exact refSlots_none n (i + 1)
theorem lam_sound {ld : LamDt} {S : Sm} (hw : K.w = w) (M : ModOk ⟨ld.N, [], S.fnm, S.gnm, S.enm, none, S.lams⟩ P w K mg base Fa Ca G k) (i : Nat) (hf : ∀ params body scope, Tbs.fit i params body scope → lamB S ld params body scope = true) (hfr : Tbs.fr i = ld.fr) {G' : Gs} (hG : G'.call i = runF G ld.fn) :
    LamOk P w K mg base G' (k + 1) i := by
  refine ⟨fun A outer s H us vs ws ds q params body scope f c cl pm ctv Q hr e0 hfit hfo hcr CA rv sp => ?_⟩
  have hb := hf _ _ _ hfit
  unfold lamB at hb
  simp only [Bool.and_eq_true] at hb
  obtain ⟨⟨b1, b2⟩, b3⟩ := hb
  obtain ⟨p, rfl, hx⟩ := parB_out b1
  have SC := NdefX.nscope_by b2
  obtain ⟨N, r1, trk, tb, post⟩ := sp
  rw [hG] at post
  have osg : okSig ld.fn.sig (ds.map Ag.val) = true := by
    cases e : okSig ld.fn.sig (ds.map Ag.val) with
    | true => rfl
    | false =>
      have e2 : runF G ld.fn (ds.map .val) = .stuck := by unfold runF; rw [e]; rfl
      rw [e2] at post
      exact post.elim
  have hdl : ds.length = 1 + ld.fr.length := okSig_vals.mp osg
  have hwl : ws.length = ld.fr.length := by have := CA.len; rw [List.length_map, hfr] at this; exact this
  have hvl : vs.length = 1 := by
    have := r1.length
    rw [List.length_append, hdl, hwl] at this
    omega
  obtain ⟨u, rfl⟩ : ∃ u, us = [u] := by
    have := rv.length
    rw [hvl] at this
    match us, this with
    | [u], _ => exact ⟨u, rfl⟩
  have lim : s.heap.NoLimit := e0.mod.nolimit.keeps fun b o e => (e0.bs b o e).1
  refine PySem.W.kla_callFunE hr.depth hfo rfl SC.co SC.gen rfl hcr ?_
  rw [bind_lam hx]
  refine wpAny_pure (wpAny_newFunctionEnv SC.nocell (fun ⟨n, _⟩ hy => ?_) (fun h₁ hns hsb => ⟨lim.fresh _ hsb, ?_⟩) SC.kind)
  · rw [List.mem_singleton] at hy
    cases hy
    exact SC.par _ List.mem_cons_self
  · have kp : ∀ b o, s.heap.get? b = some o → h₁.get? b = some o := fun b o e => hsb.extBut b o (Nat.ne_of_lt (Heap.lt_size e)) (Heap.get?_push_of_some _ e)
    have I := NdefX.inv_startN (CX := L2.CX P w) (w := w) (F := ⟨"<lambda>", q, ⟨[], [⟨ld.x, none, p⟩], none, [], [], none, []⟩, [], scope, cl, c⟩) (f := f) (E := fun _ _ _ => False) (tk := s.toks + [(ld.x, u)].length) SC hr.hd e0 (by rw [hvl]; rfl) rv (hfr ▸ CA) hns kp
    obtain ⟨fr, kw⟩ : ∃ fr, K = ⟨fr, w⟩ := ⟨K.fr, by rw [← hw]⟩
    have C : CtxOk ⟨ld.N, [], S.fnm, S.gnm, S.enm, none, S.lams⟩ K Fa Ca [] G k mg scope (fun _ => false) (NdefX.ncx (L2.CX P w) P w K.fr mg base ld.N ⟨"<lambda>", q, ⟨[], [⟨ld.x, none, p⟩], none, [], [], none, []⟩, [], scope, cl, c⟩ f A outer s H (fun _ _ _ => False)) WF := by
      refine ⟨by rw [kw]; rfl, rfl, SC.nd, rfl, hr.deeper _, rfl, SC.kind, rfl, takes_none5, fun x h => (by cases h), fun j nm e => ?_, M.sg, M.il, fun j h => ⟨(M.fl j h).run⟩, M.gc, M.bl, fun j _ p hp => absurd hp (by simp)⟩
      obtain ⟨h1, fd, ps', h2, h3, h4, h5⟩ := M.fd j nm e
      exact ⟨h1, fd, ps', h2, h3, h4, h5⟩
    have ht := soundE ld.ce C b3
    have nl : 1 + ld.fr.length ≤ ld.N.length := by
      have q := congrArg List.length SC.pre
      rw [List.length_take, List.length_append] at q
      simp at q
      omega
    -- the pure run's own start
    have er : runF G ld.fn (ds.map .val) = match evE G ld.ce (startA (ds.map .val) ++ List.replicate (ld.N.length - ds.length) none) with
        | .ok x r => finR ld.fn x r
        | .exc x r => match refsOf r (refSlots 0 ld.fn.sig) with
          | some ds => .exc x ds
          | none => .stuck
        | .stuck => .stuck := by
      unfold runF
      rw [if_pos osg, List.length_map]
      show (match evSs G (.cons (.ret ld.ce) .nil) (startA (ds.map .val) ++ List.replicate (ld.N.length - ds.length) none) with
        | .nx r => finR ld.fn (.val false .none) r
        | .ret x r => finR ld.fn x r
        | .exc x r => match refsOf r (refSlots 0 ld.fn.sig) with
          | some ds => .exc x ds
          | none => .stuck
        | _ => .stuck) = _
      simp only [evSs, evS]
      cases evE G ld.ce (startA (ds.map .val) ++ List.replicate (ld.N.length - ds.length) none) <;> rfl
    have rn : refSlots 0 ld.fn.sig = [] := refSlots_none _ _
    have g0 : Good K Fa [] (startA (ds.map .val) ++ List.replicate (ld.N.length - ds.length) none) (NdefX.startF ld.N vs (ws.map some)) N H := by
      refine ⟨?_, fun j sv e => ?_, fun a b d e x h1 => ?_, trk, fun p hp => absurd hp (by simp), tb⟩
      · unfold NdefX.startF
        rw [List.length_append, startA_len, List.length_map, List.length_replicate, List.length_append, List.length_append, List.length_map, List.length_map, List.length_replicate, hvl, hwl, hdl]
        omega
      · obtain ⟨d, h1, rfl⟩ := startV_get e
        obtain ⟨v, h2, h3⟩ := r1.get h1
        exact ⟨v, startF_get h2, h3⟩
      · obtain ⟨_, _, z⟩ := startV_get h1
        cases z
    have noown : ∀ a, ¬ own (startA (ds.map .val) ++ List.replicate (ld.N.length - ds.length) none) (NdefX.startF ld.N vs (ws.map some)) a := fun a ⟨j, d, h1, _⟩ => by
      obtain ⟨_, _, z⟩ := startV_get h1
      cases z
    have hp : PostG K Fa Ca [] WF (relE K Fa) (startA (ds.map .val) ++ List.replicate (ld.N.length - ds.length) none) (NdefX.startF ld.N vs (ws.map some)) N H Q (evE G ld.ce (startA (ds.map .val) ++ List.replicate (ld.N.length - ds.length) none)) := by
      rw [er] at post
      cases e : evE G ld.ce (startA (ds.map .val) ++ List.replicate (ld.N.length - ds.length) none) with
      | stuck => rw [e] at post; exact post.elim
      | exc x r =>
        rw [e, rn] at post
        simp only [refsOf] at post
      | ok y r =>
        rw [e] at post
        intro v H' N' st g' rl
        have E : Ext (fun _ => False) N H N' H' := ⟨fun b o h _ t => st.ext.keep b o h (noown b) t, st.ext.tab, st.ext.new, fun b h _ => st.ext.stay b h (noown b), fun _ z => z.elim, st.ext.there⟩
        cases y with
        | fn i ds => simp only [finR, rn, refsOf] at post
        | val o d =>
          simp only [finR, rn, refsOf] at post
          refine post v H' N' E g'.trk ?_
          cases o with
          | false => exact rl.1
          | true =>
            obtain ⟨a, e1, e2, e3, e4⟩ := rl.1
            exact ⟨a, e1, e2, e3, fun z => noown a (rl.2 a e1 z)⟩
        | sl j =>
          simp only [finR, rn, refsOf] at post
          obtain ⟨h3, o, d, ei⟩ := rl.1
          rw [if_neg (by simp), ei] at post
          simp only at post
          refine post v H' N' E g'.trk ?_
          obtain ⟨v', e1, e2⟩ := g'.slot _ _ ei
          rw [h3] at e1
          cases e1
          cases o with
          | false => exact e2
          | true =>
            obtain ⟨a, rfl, e4, e5⟩ := e2
            exact absurd (st.own a ⟨j, d, ei, h3⟩) (noown a)
    show codeAny _ _ (.expr body _) _ _
    refine PySem.W.kla_codeExpr (wpAny_mono (ht.run [] _ _ H Q I ⟨_, N, g0, hp⟩) (fun v s' hq => ?_) fun e s' hq => hq)
    obtain ⟨w', H', J', rv', q'⟩ := hq
    exact ⟨w', H', J'.os, J'.bare, J'.base, J'.hok, rv', q'⟩
end
end E2

set_option Elab.async false
set_option linter.all false
set_option maxRecDepth 100000
set_option maxHeartbeats 4000000
namespace E2
variable [Tbs]
open PySem PySem.Spec PyProof.Rows L2
/-! ## defs that return a lambda, and nothing else -/
def matR (S : Sm) (sc : Scope) : CSs → List Stmt → Bool
  | .cons (.retL k caps) .nil, ss => match ss with
    | [.Return (some x) _] => S.nr.isEmpty && matLA S sc (.l k caps) x
    | _ => false
  | _, _ => false
/-- a def's body -/
def matF (S : Sm) (st : Str → Bool) (ss : CSs) (sc : Scope) (body : List Stmt) : Bool := matSs S st ss sc body || matR S sc ss body
theorem matR_out {S : Sm} {sc : Scope} {ss : CSs} {body : List Stmt} (h : matR S sc ss body = true) : ∃ k caps x p, ss = .cons (.retL k caps) .nil ∧ body = [.Return (some x) p] ∧ S.nr = [] ∧ matLA S sc (.l k caps) x = true := by
  unfold matR at h
  split at h
  · split at h
    · simp only [Bool.and_eq_true, List.isEmpty_iff] at h
      exact ⟨_, _, _, _, rfl, rfl, h.1, h.2⟩
    · cases h
  · cases h
section
variable {P : Program} {w : World} {K : Kw} {mg : Str → Option Value} {base : Heap} {Fa Ca : Nat → Addr} {G : Gs} {k : Nat}
theorem fnR_sound {f : Fn} {fa : Addr} {gn en : List Str} {lq : Option Str} {lams : List LamDt} {fnm names ps : List Str} {name qual : Str} {params : Arguments} {body : List Stmt} {scope : Scope} {dV kV doc pm cdv ct oc : Value} {an od : Option Addr} {osl : Array (Option Value)} (hw : K.w = w)
    (M : ModOk ⟨names, refSlots 0 f.sig, fnm, gn, en, lq, lams⟩ P w K mg base Fa Ca G k) (lk : K.fr.lookup fa = some ⟨oc, od, .func (PySem.W.fnOf name qual params body scope dV kV doc pm an cdv ct), osl⟩) (hcd : PySem.W.codeIn K.fr cdv qual = true) (FS : FnScope names ps scope)
    (hlm : ∀ q, lq = some q → q = qual ++ ".<locals>." ++ "<lambda>" ∧ ∃ c P, cdv = .ref c ∧ LamX.TabB base mg c P ∧ (P, q) ∈ Tbs.T ∧ ∀ p ∈ Tbs.T, p.1 = P → p.2 = q)
    (hn : f.n = names.length) (hm : matR ⟨names, refSlots 0 f.sig, fnm, gn, en, lq, lams⟩ scope f.body body = true) :
    FnOk P w K.fr mg base (L2.CX P w) (k + 1) fa (PySem.W.fnOf name qual params body scope dV kV doc pm an cdv ct) ps (spec K Fa Ca ps.length (runF G f)) := by
  refine ⟨fun vs H Q E h => by obtain ⟨ags, N, h1, _⟩ := h; exact h1, fun A outer s H args us vs Q E hr e0 hb rv0 hsp => ?_⟩
  obtain ⟨ags, N, hl, hag, nd, trk, tb, post⟩ := hsp
  obtain ⟨fr, kw⟩ : ∃ fr, K = ⟨fr, w⟩ := ⟨K.fr, by rw [← hw]⟩
  have KX : K.fr.In s.heap := e0.mod.kin.keeps fun b o e => (e0.bs b o e).1
  have lim : s.heap.NoLimit := e0.mod.nolimit.keeps fun b o e => (e0.bs b o e).1
  have hkind : ∀ y ∈ ps.zip us, scope.names.lookup y.1 = some .local ∨ (scope.names.lookup y.1 = some .cell ∧ ((cellsFrom (s.heap.objs.size + 1) scope.names []).lookup y.1).isSome = true) := fun ⟨n, v⟩ hy => by
    rcases FS.par n (List.of_mem_zip hy).1 with q | q
    · exact .inl q
    · exact .inr ⟨q, PySem.W.cellsFrom_some _ _ _ (.inl q)⟩
  refine codeAny_call_function hr.depth (KX _ _ lk) rfl FS.co FS.gen rfl (PySem.W.codeRec_of KX hcd) (hb _ _ _ _ ?_)
  refine wpAny_newFunctionEnv_cells FS.kind hkind fun env he s1 xc => ?_
  subst he
  refine ⟨lim.keeps xc.toInCall.keep, codeAny_func ?_⟩
  have room := hr.deeper (envOfC qual scope s.heap.objs.size fa cdv)
  -- the pure run's own start
  have osg : okSig f.sig ags = true := by
    cases e : okSig f.sig ags with
    | true => rfl
    | false =>
      have e2 : runF G f ags = .stuck := by unfold runF; rw [e]; rfl
      rw [e2] at post
      exact post.elim
  have efs := prs_fst (i := 0) hag osg
  have esn := prs_snd (vs := vs) (ags := ags) 0
  have C : StOk ⟨names, refSlots 0 f.sig, fnm, gn, en, lq, lams⟩ K Fa Ca (prs 0 vs ags) G k mg scope (stB scope) (cxOf (L2.CX P w) P w K.fr mg base names qual scope fa cdv A outer s H E) (fun cls d _ H => E cls d H) := by
    refine ⟨⟨by rw [kw]; rfl, rfl, FS.nd, rfl, room, rfl, FS.kind, rfl, takes_of rfl rfl rfl rfl, fun x h => ?_, fun i nm e => ?_, M.sg, M.il, fun i h => ⟨(M.fl i h).run⟩, M.gc, M.bl, fun i hi p hp z => hi ?_⟩, passes_of rfl, rfl, rfl, fun c nm e => ?_, M.sub, fun q e => ?_, M.lf⟩
    · unfold stB at h
      split at h
      · rename_i e; exact ⟨.inl e, .inl rfl⟩
      · rename_i e; exact ⟨.inr e, .inl rfl⟩
      · cases h
    · obtain ⟨h1, fd, ps', h2, h3, h4, h5⟩ := M.fd i nm e
      exact ⟨h1, fd, ps', h2, h3, h4, h5⟩
    · show i ∈ refSlots 0 f.sig
      rw [← efs]
      exact List.mem_map.mpr ⟨p, hp, z⟩
    · obtain ⟨h1, h2, B, n1, n2, bm, h3, h4, h5, h6, h7⟩ := M.ex c nm e
      exact ⟨h1, h2, B, n1, n2, bm, h3, h4, h5, raises_own h6 h7⟩
    · obtain ⟨q1, c, P', q2, q3, q4, q5⟩ := hlm q e
      exact ⟨⟨c, P', q2, q3, q4, q5⟩, q1, fun _ => rfl⟩

  have I : Inv (cxOf (L2.CX P w) P w K.fr mg base names qual scope fa cdv A outer s H E) [] (L2.start names vs) H s1 := inv_start FS hr.hd e0 hl rv0 xc
  have g := (start_ok (K := K) (Fa := Fa) hn hag nd trk tb).g
  obtain ⟨j, caps, x, p, hbody, hsts, hnr, hx⟩ := matR_out hm
  subst hsts
  have hnr : refSlots 0 f.sig = [] := hnr
  have hra : refAd vs ags = [] := by
    rw [hnr] at efs
    rw [← esn, List.map_eq_nil_iff.mp efs]; rfl
  have er : runF G f ags = match capsD (startA ags ++ List.replicate (f.n - ags.length) none) caps with
      | some ds => finR f (.fn j ds) (startA ags ++ List.replicate (f.n - ags.length) none)
      | none => .stuck := by
    unfold runF
    rw [if_pos osg, hbody]
    simp only [evSs, evS]
    cases capsD (startA ags ++ List.replicate (f.n - ags.length) none) caps <;> rfl
  rw [er] at post
  cases ed : capsD (startA ags ++ List.replicate (f.n - ags.length) none) caps with
  | none => rw [ed] at post; exact post.elim
  | some ds =>
    rw [ed] at post
    have hrf : refsOf (startA ags ++ List.replicate (f.n - ags.length) none) (refSlots 0 f.sig) = some [] := by rw [hnr]; rfl
    simp only [finR, hrf] at post
    rw [hra] at post
    skip
    have ea : laVs G (startA ags ++ List.replicate (f.n - ags.length) none) [.l j caps] = some [.fn j ds] := by
      simp only [laVs, laV, ed, Option.map_some]
    have hN0 : ∀ b, N b → H b ≠ none := fun b z => mutSome (trk b z)
    refine wpAny_execs_cons (wpAny_Return_some (thn ((soundLA C (.l j caps) hx).run [] s1 (L2.start names vs) H (fun v H1 => Gro N H H1 ∧ ArgF (cxOf (L2.CX P w) P w K.fr mg base names qual scope fa cdv A outer s H E) Fa G (L2.start names vs) N H1 v (.l j caps)) I ⟨N, tb, hN0, (fun i z => by cases z), fun v H1 gr af => ⟨gr, af⟩⟩) fun u s2 ⟨v, H1, I1, rv, gr, af⟩ => ?_))
    have hN1 : ∀ b, N b → H1 b ≠ none := fun b z e => hN0 b z (gr.nn b e)
    have afs : ArgFs (cxOf (L2.CX P w) P w K.fr mg base names qual scope fa cdv A outer s H E) Fa G (L2.start names vs) N H1 [v] [.l j caps] := ⟨af, trivial⟩
    have O := own_of I1 g ea (fun _ => rfl) (argFs_cap afs)
    have k1 := O.keep
    have fz : Fz N H N (addC H1 s2.heap (capCl (cxOf (L2.CX P w) P w K.fr mg base names qual scope fa cdv A outer s H E) (lamNs [.l j caps]))) := fun b o e n t => ⟨k1 b o (gr.keep b o e t), n⟩
    obtain ⟨q1, _⟩ := ags_of (by rw [kw]; rfl) I1 g O hN1 fz k1 (fun _ h => h) afs ea
    have fnr : FnR K Fa N (addC H1 s2.heap (capCl (cxOf (L2.CX P w) P w K.fr mg base names qual scope fa cdv A outer s H E) (lamNs [.l j caps]))) v j ds := q1.1
    have nn : ∀ b, addC H1 s2.heap (capCl (cxOf (L2.CX P w) P w K.fr mg base names qual scope fa cdv A outer s H E) (lamNs [.l j caps])) b = none → H b = none := fun b z => gr.nn b (O.none_ z).2
    have E0 : Ext (fun b => b ∈ ([] : List Addr)) N H N (addC H1 s2.heap (capCl (cxOf (L2.CX P w) P w K.fr mg base names qual scope fa cdv A outer s H E) (lamNs [.l j caps]))) :=
      ⟨fun b o h _ t => k1 b o (gr.keep b o h t), fun _ => gr.tab.ext (fun b o e _ => k1 b o e) (fun _ z => .inl z), fun b z => .inl z, fun b z _ => z, fun b z => absurd z (by simp), fun b h z => h (nn b z)⟩
    have t2 : ∀ b, N b → Mut (addC H1 s2.heap (capCl (cxOf (L2.CX P w) P w K.fr mg base names qual scope fa cdv A outer s H E) (lamNs [.l j caps])) b) := fun b z => by
      have m := gr.trk trk b z
      cases e : H1 b with
      | none => rw [e] at m; exact m.elim
      | some o' => rw [k1 b o' e]; rw [e] at m; exact m
    have Qv := post v _ N E0 t2 fnr trivial
    have un := I1.base
    refine ⟨v, _, I1.os, I1.bare, ⟨un.keep, un.slot, fun b o g0 n0 hx0 => ?_, un.there, fun b xs q => k1 b _ (un.tups b xs q), fun b o u q => k1 b _ (un.frzs b o u q), fun b ps q => ?_⟩, (O.env0 I1).hok, rv, Qv⟩
    · have h0 := un.free b o g0 n0 hx0
      unfold addC
      split
      · rename_i hb'
        exact absurd (Nat.lt_of_lt_of_le (Heap.lt_size g0) (O.ge b hb')) (Nat.lt_irrefl _)
      · exact h0
    · obtain ⟨more, e⟩ := un.tbls b ps q
      exact ⟨more, k1 b _ e⟩
end
end E2

set_option Elab.async false
set_option linter.all false
set_option maxRecDepth 100000
set_option maxHeartbeats 4000000
namespace E2
variable [Tbs]
open PySem PySem.Spec PyProof.Rows L2
/-- the def k of the module is the pure def f: the function object fd, of the parameters ps; cs: the code objects and tables of those that make lambdas -/
def DefAt (K : Kw) (mg : Str → Option Value) (Fa : Nat → Addr) (fnm gn en : List Str) (lams : List LamDt) (cs : List (Addr × Addr)) (k : Nat) (f : Fn) (fd : FuncData) (ps : List Str) : Prop :=
  ∃ (nm : Str) (names : List Str) (lq : Option Str) (name qual : Str) (params : Arguments) (body : List Stmt) (scope : Scope) (dV kV doc pm cdv ct oc : Value) (an od : Option Addr) (osl : Array (Option Value)),
    fd = PySem.W.fnOf name qual params body scope dV kV doc pm an cdv ct ∧ fnm[k]? = some nm ∧ mg nm = some (.ref (Fa k)) ∧ K.fr.lookup (Fa k) = some ⟨oc, od, .func (PySem.W.fnOf name qual params body scope dV kV doc pm an cdv ct), osl⟩ ∧ PySem.W.codeIn K.fr cdv qual = true ∧ FnScope names ps scope ∧
    f.n = names.length ∧ f.sig.length = ps.length ∧ matF ⟨names, refSlots 0 f.sig, fnm, gn, en, lq, lams⟩ (stB scope) f.body scope body = true ∧ PySem.W.keepIn K.fr (.ref (Fa k)) = true ∧ Binds K.fr (PySem.W.fnOf name qual params body scope dV kV doc pm an cdv ct) ps [] ∧
    ∀ q, lq = some q → q = qual ++ ".<locals>." ++ "<lambda>" ∧ ∃ c P, cdv = .ref c ∧ (c, P) ∈ cs ∧ (P, q) ∈ Tbs.T ∧ ∀ p ∈ Tbs.T, p.1 = P → p.2 = q
def DefOk (K : Kw) (mg : Str → Option Value) (Fa : Nat → Addr) (fnm gn en : List Str) (lams : List LamDt) (cs : List (Addr × Addr)) (k : Nat) (f : Fn) : Prop := ∃ fd ps, DefAt K mg Fa fnm gn en lams cs k f fd ps
/-- the class's own words are those of the lambdas lams behind n defs -/
structure TbsOk (fnm gn en : List Str) (lams : List LamDt) : Prop where
  isL : ∀ k, Tbs.isL k = decide (fnm.length ≤ k ∧ k < fnm.length + lams.length)
  fit : ∀ (j : Nat) (ld : LamDt), lams[j]? = some ld → ∀ params body scope, Tbs.fit (fnm.length + j) params body scope ↔ lamB ⟨[], [], fnm, gn, en, none, lams⟩ ld params body scope = true
  fr : ∀ (j : Nat) (ld : LamDt), lams[j]? = some ld → Tbs.fr (fnm.length + j) = ld.fr
structure PrgOk (Pr : Prg) (K : Kw) (mg : Str → Option Value) (Fa Ca : Nat → Addr) (fnm gn en : List Str) (lams : List LamDt) (cs : List (Addr × Addr)) : Prop where
  df : ∀ k f, k < fnm.length → Pr.fns[k]? = some f → DefOk K mg Fa fnm gn en lams cs k f
  sz : Pr.fns.length = fnm.length + lams.length
  lam : ∀ (j : Nat) (ld : LamDt), lams[j]? = some ld → Pr.fns[fnm.length + j]? = some ld.fn
  tb : TbsOk fnm gn en lams
  gc : ∀ (g : Nat) (nm : Str), gn[g]? = some nm → ∃ u w dd, mg nm = some u ∧ L2.RelV w u ∧ Pr.gcs[g]? = some dd ∧ GcR K w dd
  bl : ∀ x, x ∈ bnames → mg x = none
  ex : ∀ (c : Nat) (nm : Str), en[c]? = some nm → mg nm = some (.ref (Ca c)) ∧ Pr.exf[c]? = some [] ∧ ∃ B newId initId bmB, ExcBaseFacts B newId initId bmB ∧ PySem.W.excIn K.fr (Ca c) bmB newId = true ∧ PySem.W.keepIn K.fr (.ref (Ca c)) = true ∧ PySem.W.subIn K.fr (.ref (Ca c)) (.type "BaseException") = some true ∧ PySem.W.typeIn K.fr (.ref (Ca c)) = some (.type "type")
  sub : ∀ a b k, (Pr.gs fun _ _ => .stuck).sub a b = some k → PySem.W.exmOne K.fr (.ref (Ca a)) (.ref (Ca b)) = some k
section
variable {P : Program} {w : World} {K : Kw} {mg : Str → Option Value} {base : Heap} {Fa Ca : Nat → Addr}
theorem prog_sound {Pr : Prg} {fnm gn en : List Str} {lams : List LamDt} {cs : List (Addr × Addr)} (hw : K.w = w) (M : PrgOk Pr K mg Fa Ca fnm gn en lams cs) (hcs : ∀ p ∈ cs, LamX.TabB base mg p.1 p.2) : ∀ (n : Nat),
    (∀ (k : Nat) (f : Fn) (fd : FuncData) (ps : List Str), Pr.fns[k]? = some f → DefAt K mg Fa fnm gn en lams cs k f fd ps →
      FnOk P w K.fr mg base (L2.CX P w) n (Fa k) fd ps (spec K Fa Ca ps.length (run Pr n k)) ∧ PySem.W.keepIn K.fr (.ref (Fa k)) = true ∧ Binds K.fr fd ps [] ∧ f.sig.length = ps.length) ∧
    ∀ k, Tbs.isL k = true → LamOk P w K mg base (Pr.gs (run Pr n)) n k := by
  intro n
  induction n with
  | zero =>
    refine ⟨fun k f fd ps hf hd => ?_, fun k hk => ⟨fun A outer s H us vs ws ds q params body scope f c cl pm ctv Q _ _ _ _ _ _ _ h => ?_⟩⟩
    · obtain ⟨nm, names, lq, name, qual, params, body, scope, dV, kV, doc, pm, cdv, ct, oc, an, od, osl, h0, h1, h2, h3, h4, h5, h6, h7, h8, h9, h10, h11⟩ := hd
      subst h0
      refine ⟨⟨fun vs H Q E h => by obtain ⟨ags, N, q, _⟩ := h; exact q, fun A outer s H args us vs Q E _ _ _ _ h => ?_⟩, h9, h10, h7⟩
      obtain ⟨ags, N, _, _, _, _, _, q⟩ := h
      simp only [run] at q
    · obtain ⟨N, _, _, _, q⟩ := h
      have e : (Pr.gs (run Pr 0)).call k (ds.map .val) = .stuck := rfl
      rw [e] at q
      exact q.elim
  | succ n ih =>
    obtain ⟨ih, ihL⟩ := ih
    have fdq : ∀ i nm, fnm[i]? = some nm → mg nm = some (.ref (Fa i)) ∧ ∃ fd ps, FnOk P w K.fr mg base (L2.CX P w) n (Fa i) fd ps (spec K Fa Ca ps.length ((Pr.gs (run Pr n)).call i)) ∧ PySem.W.keepIn K.fr (.ref (Fa i)) = true ∧ Binds K.fr fd ps [] ∧ ((Pr.gs (run Pr n)).sig i).length = ps.length := fun i nm' hi => by
      have hlt0 : i < fnm.length := (List.getElem?_eq_some_iff.mp hi).1
      have hlt : i < Pr.fns.length := by rw [M.sz]; omega
      have hfi : Pr.fns[i]? = some Pr.fns[i] := List.getElem?_eq_getElem hlt
      obtain ⟨fd, ps', hdi⟩ := M.df i _ hlt0 hfi
      obtain ⟨q1, q2, q3, q4⟩ := ih i _ fd ps' hfi hdi
      obtain ⟨nm2, _, _, _, _, _, _, _, _, _, _, _, _, _, _, _, _, _, _, k1, k2, _⟩ := hdi
      have : nm' = nm2 := by have := hi.symm.trans k1; exact Option.some.inj this
      subst this
      refine ⟨k2, fd, ps', q1, q2, q3, ?_⟩
      show (((Pr.fns[i]?).map (·.sig)).getD []).length = _
      rw [hfi]
      exact q4
    have sgq : ∀ i, (Pr.gs (run Pr n)).sig i ≠ [] → Tbs.isL i = false → ∃ nm, fnm[i]? = some nm := fun i hi hl => by
      have hi' : ((Pr.fns[i]?).map (·.sig)).getD [] ≠ [] := hi
      rw [M.tb.isL, decide_eq_false_iff_not] at hl
      by_cases hlt : i < fnm.length
      · exact ⟨_, List.getElem?_eq_getElem hlt⟩
      · have : Pr.fns[i]? = none := List.getElem?_eq_none (by rw [M.sz]; omega)
        rw [this] at hi'
        exact absurd rfl hi'
    have ilq : ∀ i nm, fnm[i]? = some nm → Tbs.isL i = false := fun i nm hi => by
      have := (List.getElem?_eq_some_iff.mp hi).1
      rw [M.tb.isL, decide_eq_false_iff_not]
      omega
    have lfq : ∀ (j : Nat) (ld : LamDt), lams[j]? = some ld → Tbs.isL (fnm.length + j) = true ∧ Tbs.fr (fnm.length + j) = ld.fr ∧ ∀ params body scope, lamB ⟨[], [], fnm, gn, en, none, lams⟩ ld params body scope = true → Tbs.fit (fnm.length + j) params body scope := fun j ld hj => by
      have := (List.getElem?_eq_some_iff.mp hj).1
      refine ⟨?_, M.tb.fr j ld hj, fun params body scope h => (M.tb.fit j ld hj params body scope).mpr h⟩
      rw [M.tb.isL, decide_eq_true_eq]
      omega
    have exq : ∀ c nm, en[c]? = some nm → mg nm = some (.ref (Ca c)) ∧ (Pr.gs (run Pr n)).exf c = some [] ∧ ∃ B newId initId bmB, ExcBaseFacts B newId initId bmB ∧ PySem.W.excIn K.fr (Ca c) bmB newId = true ∧ PySem.W.keepIn K.fr (.ref (Ca c)) = true ∧ PySem.W.subIn K.fr (.ref (Ca c)) (.type "BaseException") = some true ∧ PySem.W.typeIn K.fr (.ref (Ca c)) = some (.type "type") := fun c nm' hc => by
      obtain ⟨q1, q2, q3⟩ := M.ex c nm' hc
      exact ⟨q1, q2, q3⟩
    refine ⟨fun k f fd ps hf hd => ?_, fun k hk => ?_⟩
    · obtain ⟨nm, names, lq, name, qual, params, body, scope, dV, kV, doc, pm, cdv, ct, oc, an, od, osl, h0, h1, h2, h3, h4, h5, h6, h7, h8, h9, h10, h11⟩ := hd
      subst h0
      have e : run Pr (n + 1) k = runF (Pr.gs (run Pr n)) f := by funext ags; simp only [run, hf]
      refine ⟨?_, h9, h10, h7⟩
      rw [e]
      have hq : ∀ q, lq = some q → q = qual ++ ".<locals>." ++ "<lambda>" ∧ ∃ c P, cdv = .ref c ∧ LamX.TabB base mg c P ∧ (P, q) ∈ Tbs.T ∧ ∀ p ∈ Tbs.T, p.1 = P → p.2 = q := fun q hq => by
        obtain ⟨z1, c, P', z2, z3, z4, z5⟩ := h11 q hq
        exact ⟨z1, c, P', z2, hcs _ z3, z4, z5⟩
      rcases (Bool.or_eq_true _ _).mp h8 with h8 | h8
      · exact fn_sound (fnm := fnm) (gn := gn) (en := en) (lq := lq) (lams := lams) hw ⟨fdq, sgq, ilq, ihL, M.gc, M.bl, exq, M.sub, lfq⟩ h3 h4 h5 hq h6 h8
      · exact fnR_sound (fnm := fnm) (gn := gn) (en := en) (lq := lq) (lams := lams) hw ⟨fdq, sgq, ilq, ihL, M.gc, M.bl, exq, M.sub, lfq⟩ h3 h4 h5 hq h6 h8
    · have hk' := hk
      rw [M.tb.isL, decide_eq_true_eq] at hk'
      obtain ⟨j, rfl⟩ : ∃ j, k = fnm.length + j := ⟨k - fnm.length, by omega⟩
      have hj : lams[j]? = some lams[j] := List.getElem?_eq_getElem (by omega)
      refine lam_sound (S := ⟨[], [], fnm, gn, en, none, lams⟩) hw ⟨fdq, sgq, ilq, ihL, M.gc, M.bl, exq, M.sub, lfq⟩ _ (fun params body scope h => (M.tb.fit j _ hj params body scope).mp h) (M.tb.fr j _ hj) ?_
      funext ags
      show run Pr (n + 1) (fnm.length + j) ags = _
      simp only [run, M.lam j _ hj]
end
end E2

set_option Elab.async false
set_option linter.all false
set_option maxRecDepth 100000
set_option maxHeartbeats 4000000
namespace E2
variable [Tbs]
open PySem PySem.Spec PyProof.Rows L2
/-- what law(script) promises -/
def spLaw (K : PySem.W.Frag) : Sp := fun vs H Q _ => ∃ (a : Addr) (ns : List Int), vs = [.ref a] ∧ SqL K H a (ns.map V.int) ∧ ns.length ≤ 63 ∧ TabO (fun _ => False) H ∧ ∀ H', Q (.bl true) H'
/-- the pure law -/
def LawTrue (Pr : Prg) (n k : Nat) : Prop := ∀ ns : List Int, ns.length ≤ 63 → ∃ o, run Pr n k [.val (.list (ns.map .int))] = .ok o (.bool true) []
theorem law_imp {P : Program} {w : World} {K : Kw} {mg : Str → Option Value} {base : Heap} {Fa Ca : Nat → Addr} {Pr : Prg} {n k : Nat} {fd : FuncData} {x : Str} {fa : Addr} (h : LawTrue Pr n k) (F : FnOk P w K.fr mg base (L2.CX P w) n fa fd [x] (spec K Fa Ca [x].length (run Pr n k))) : FnOk P w K.fr mg base (L2.CX P w) n fa fd [x] (spLaw K.fr) := by
  refine F.imp fun vs H Q E ⟨a, ns, e, hS, hl, tb, q⟩ => ?_
  subst e
  obtain ⟨o, ho⟩ := h ns hl
  refine ⟨[.val (.list (ns.map .int))], fun _ => False, rfl, ⟨.lst ?_ (RpA.ofInts ns), trivial⟩, by simp [refAd], fun _ z => z.elim, tb, ?_⟩
  · rcases hS with z | z
    · exact .inl ⟨z, fun z => z⟩
    · exact .inr z
  · rw [ho]
    intro v H' N' _ _ hr _
    cases o with
    | false => cases (show Rp K N' H' v (.bool true) from hr); exact q H'
    | true => obtain ⟨_, _, _, z, _⟩ := hr; exact z.elim
end E2

set_option Elab.async false
set_option linter.all false
set_option maxRecDepth 100000
set_option maxHeartbeats 4000000
namespace E2
open PySem PySem.Spec PyProof.Rows L2
/-- one def of a law's program: name, engine code, slots, parameters, statement -/
structure LD where
  nm : Str
  f : Fn
  names : List Str
  ps : List Str
  st : Stmt
  lm : Bool := false
/-- a law's program: defs, whole constants, own errors, which is which's heir -/
structure LP where
  ds : List LD
  whs : List (Str × Int)
  es : List Str
  heirs : List (List Nat)
  lams : List LamDt := []
def LD.dd (d : LD) : He.DefD := ⟨(d.nm, none), d.nm, d.nm, defArgs d.st, defBody d.st, defScope d.st, [], []⟩
def LP.pr (L : LP) : Prg := ⟨L.ds.map (·.f) ++ L.lams.map LamDt.fn, L.whs.map (fun g => .int g.2), L.es.map (fun _ => []), L.heirs⟩
def LP.fnm (L : LP) : List Str := L.ds.map (·.nm)
def LP.gn (L : LP) : List Str := L.whs.map (·.1)
def lamQ (nm : Str) : Str := nm ++ ".<locals>." ++ "<lambda>"
def LD.lq (d : LD) : Option Str := if d.lm then some (lamQ d.nm) else none
/-- the defs that make lambdas -/
def LP.tf (L : LP) : List He.Defn := (L.ds.filter (·.lm)).map fun d => (d.nm, none)
def LP.cs (L : LP) (K : PySem.W.Frag) : List (Addr × Addr) := L.tf.map (He.cT K)
def LP.ex (L : LP) (K : PySem.W.Frag) : Bool := decide ((L.tf.map fun p => (He.cT K p).2).Nodup)
def LP.tT (L : LP) (K : PySem.W.Frag) : List (Addr × Str) := L.tf.map fun p => ((He.cT K p).2, lamQ p.1)
@[reducible] def LP.tbs (L : LP) (K : PySem.W.Frag) : Tbs where
  T := L.tT K
  isL := fun k => decide (L.fnm.length ≤ k ∧ k < L.fnm.length + L.lams.length)
  fit := fun k params body scope => ∃ ld, L.lams[k - L.fnm.length]? = some ld ∧ lamB ⟨[], [], L.fnm, L.gn, L.es, none, L.lams⟩ ld params body scope = true
  fr := fun k => ((L.lams[k - L.fnm.length]?).map (·.fr)).getD []
def LP.exms (L : LP) : List He.Fa := (List.range L.heirs.length).flatMap fun a => (List.range L.heirs.length).map fun b => .exm (L.es.getD a "") (L.es.getD b "") ((L.heirs.getD a []).contains b)
def LP.fa (L : LP) : List He.Fa := L.ds.map (fun d => .glo d.nm) ++ (bnames.map .free ++ (L.whs.map (fun g => .int g.1 g.2) ++ (L.es.map .glo ++ (L.es.map .exc ++ L.exms))))
def LP.fn (L : LP) : List He.DefD := L.ds.map LD.dd
def scB (N P : List Str) (sc : Scope) : Bool := decide (sc.kind = .function) && (!sc.isCoroutine && (!sc.isGenerator && (decide N.Nodup && (decide (N.take P.length = P) && (P.all (fun x => decide (sc.names.lookup x = some .local ∨ sc.names.lookup x = some .cell)) && sc.names.all fun y => decide (y.2 ≠ .free))))))
theorem scB_ok {N P : List Str} {sc : Scope} (h : scB N P sc = true) : FnScope N P sc := by
  simp only [scB, Bool.and_eq_true, decide_eq_true_eq, Bool.not_eq_true', List.all_eq_true] at h
  obtain ⟨h1, h2, h3, h4, h5, h6, h7⟩ := h
  exact ⟨h1, h2, h3, h4, h5, h6, h7⟩
def LP.okD (L : LP) (d : LD) : Bool := scB d.names d.ps (defScope d.st) && (decide (d.f.n = d.names.length) && (decide (d.f.sig.length = d.ps.length) && matF ⟨d.names, refSlots 0 d.f.sig, L.fnm, L.gn, L.es, d.lq, L.lams⟩ (stB (defScope d.st)) d.f.body (defScope d.st) (defBody d.st)))
def BdD (d : LD) : Prop := ∀ (kV doc pm : Value) (an : Option Addr) (cdv ct : Value) (us : List Value), us.length = d.ps.length → bindArgs (PySem.W.fnOf d.nm d.nm (defArgs d.st) (defBody d.st) (defScope d.st) .none kV doc pm an cdv ct) ⟨us, []⟩ = pure (d.ps.zip us)
def BdAll : List LD → Prop
  | [] => True
  | d :: r => BdD d ∧ BdAll r
theorem BdAll.at : ∀ {ds : List LD} {k : Nat} {d : LD}, BdAll ds → ds[k]? = some d → BdD d
  | _ :: _, 0, _, h, e => by
    rw [List.getElem?_cons_zero] at e
    exact Option.some.inj e ▸ h.1
  | _ :: _, _ + 1, _, h, e => by
    rw [List.getElem?_cons_succ] at e
    exact BdAll.at h.2 e
theorem says_fact {fa : List He.Fa} {fn : List He.DefD} {K : PySem.W.Frag} (c : He.SaysD fa fn K) {f : He.Fa} (h : f ∈ fa) : f.ok K = true := by
  obtain ⟨i, hi⟩ := List.getElem?_of_mem h
  exact He.SaysD.fact c i hi
theorem tT_one {L : LP} {K : PySem.W.Frag} (h : L.ex K = true) {p : He.Defn} (hp : p ∈ L.tf) : ∀ q ∈ L.tT K, q.1 = (He.cT K p).2 → q.2 = lamQ p.1 := fun q hq e => by
  obtain ⟨p', hp', rfl⟩ := List.mem_map.mp hq
  have nd : (L.tf.map fun p => (He.cT K p).2).Nodup := of_decide_eq_true h
  have : p' = p := by
    rw [List.nodup_iff_pairwise_ne, List.pairwise_map] at nd
    refine Classical.byContradiction fun ne => ?_
    have key : ∀ {l : List He.Defn}, l.Pairwise (fun a b => (He.cT K a).2 ≠ (He.cT K b).2) → p ∈ l → p' ∈ l → False := by
      intro l
      induction l with
      | nil => intro _ h; cases h
      | cons a l ih =>
        intro nd h1 h2
        rw [List.pairwise_cons] at nd
        rcases List.mem_cons.mp h1 with e1 | k1 <;> rcases List.mem_cons.mp h2 with e2 | k2
        · exact ne (e2.trans e1.symm)
        · exact nd.1 _ k2 (by rw [← e1]; exact e.symm)
        · exact nd.1 _ k1 (by rw [← e2]; exact e)
        · exact ih nd.2 k1 k2
    exact key nd hp hp'
  rw [this]
theorem lp_at {L : LP} {K : Kw} {mg : Str → Option Value} {h : Heap} (X : K.fr.In h) (G : h.Ns mainGlobals mg) (c : He.SaysD L.fa L.fn K.fr) (hex : L.ex K.fr = true) (ok : L.ds.all L.okD = true) (hb : BdAll L.ds) {k : Nat} {d : LD} (hd : L.ds[k]? = some d) :
    ∃ fd, @DefAt (L.tbs K.fr) K mg (fun k => He.ga K.fr (L.fnm.getD k "")) L.fnm L.gn L.es L.lams (L.cs K.fr) k d.f fd d.ps ∧ (∀ (s : Shared) (us : List Value), us.length = d.ps.length → BindsTo s fd ⟨us, []⟩ (d.ps.zip us)) := by
  have hm : d ∈ L.ds := List.mem_of_getElem? hd
  have o := List.all_eq_true.mp ok d hm
  simp only [LP.okD, Bool.and_eq_true, decide_eq_true_eq] at o
  obtain ⟨o1, o2, o3, o4⟩ := o
  have hfn : L.fn[k]? = some d.dd := by
    show (L.ds.map LD.dd)[k]? = _
    rw [List.getElem?_map, hd] <;> rfl
  obtain ⟨fd, F⟩ := He.SaysD.def_ c k hfn
  have F' : FunD K.fr d.nm d.nm (defArgs d.st) (defBody d.st) (defScope d.st) [] [] (He.ga K.fr d.nm) fd := F
  have bb : Binds K.fr fd d.ps [] := F'.bindsN (hb.at hd)
  have bA := F'.bindsA (ps := d.ps) (hb.at hd)
  have kp := F'.kp
  obtain ⟨oc, od, dV, kV, doc, pm, an, cdv, ct, osl, e, lk, hcd, hdv, _⟩ := F'.ex
  have hk : L.fnm[k]? = some d.nm := by
    show (L.ds.map (·.nm))[k]? = _
    rw [List.getElem?_map, hd] <;> rfl
  have hg : L.fnm.getD k "" = d.nm := by rw [List.getD_eq_getElem?_getD, hk] <;> rfl
  have gl := He.glo_ok X G (says_fact c (f := .glo d.nm) (List.mem_append_left _ (List.mem_map_of_mem (f := fun d : LD => He.Fa.glo d.nm) hm)))
  subst e
  refine ⟨_, ⟨d.nm, d.names, d.lq, d.nm, d.nm, _, _, _, dV, kV, doc, pm, cdv, ct, oc, an, od, osl, rfl, hk, ?_, ?_, hcd, scB_ok o1, o2, o3, o4, ?_, bb, fun q hq => ?_⟩, bA⟩
  · show mg d.nm = some (.ref (He.ga K.fr (L.fnm.getD k "")))
    rw [hg]; exact gl
  · show K.fr.lookup (He.ga K.fr (L.fnm.getD k "")) = _
    rw [hg]; exact lk
  · show PySem.W.keepIn K.fr (.ref (He.ga K.fr (L.fnm.getD k ""))) = true
    rw [hg]; exact kp
  · unfold LD.lq at hq
    split at hq
    · rename_i hl
      cases hq
      obtain ⟨ca, rfl⟩ := He.codeIn_ref hcd
      have hc : He.codeOf K.fr (d.nm, none) = ca := He.codeOf_eq (p := (d.nm, none)) (show K.fr.lookup (He.fAd K.fr (d.nm, none)) = _ from lk) rfl
      have hp : ((d.nm, none) : He.Defn) ∈ L.tf := List.mem_map.mpr ⟨d, List.mem_filter.mpr ⟨hm, hl⟩, rfl⟩
      refine ⟨rfl, ca, (He.cT K.fr (d.nm, none)).2, rfl, List.mem_map.mpr ⟨(d.nm, none), hp, ?_⟩, List.mem_map.mpr ⟨(d.nm, none), hp, rfl⟩, tT_one hex hp⟩
      unfold He.cT
      rw [hc]
    · cases hq
theorem lp_ok {L : LP} {K : Kw} {mg : Str → Option Value} {h : Heap} (X : K.fr.In h) (G : h.Ns mainGlobals mg) (c : He.SaysD L.fa L.fn K.fr) (hex : L.ex K.fr = true) (ok : L.ds.all L.okD = true) (hb : BdAll L.ds) (hl : L.heirs.length = L.es.length) :
    @PrgOk (L.tbs K.fr) L.pr K mg (fun k => He.ga K.fr (L.fnm.getD k "")) (fun k => He.ga K.fr (L.es.getD k "")) L.fnm L.gn L.es L.lams (L.cs K.fr) := by
  refine @PrgOk.mk (L.tbs K.fr) _ _ _ _ _ _ _ _ _ _ ?_ ?_ ?_ ?_ ?_ ?_ ?_ ?_
  · intro k f hk hf
    have hk' : k < (L.ds.map (·.f)).length := by simpa [LP.fnm] using hk
    have hf' : (L.ds.map (·.f))[k]? = some f := by
      rw [← hf]
      exact (List.getElem?_append_left hk').symm
    rw [List.getElem?_map] at hf'
    cases hd : L.ds[k]? with
    | none => rw [hd] at hf'; cases hf'
    | some d =>
      rw [hd] at hf'
      obtain rfl : d.f = f := Option.some.inj hf'
      obtain ⟨fd, q, _⟩ := lp_at X G c hex ok hb hd
      exact ⟨fd, d.ps, q⟩
  · simp [LP.fnm, LP.pr]
  · intro j ld hj
    show (L.ds.map (·.f) ++ L.lams.map LamDt.fn)[L.fnm.length + j]? = _
    rw [List.getElem?_append_right (by simp [LP.fnm]), show L.fnm.length + j - (L.ds.map (·.f)).length = j by simp [LP.fnm], List.getElem?_map, hj]
    rfl
  · refine @TbsOk.mk (L.tbs K.fr) _ _ _ _ (fun k => rfl) (fun j ld hj params body scope => ?_) fun j ld hj => ?_
    · show (∃ ld', L.lams[L.fnm.length + j - L.fnm.length]? = some ld' ∧ lamB ⟨[], [], L.fnm, L.gn, L.es, none, L.lams⟩ ld' params body scope = true) ↔ _
      rw [Nat.add_sub_cancel_left, hj]
      exact ⟨fun ⟨_, e, h⟩ => by cases e; exact h, fun h => ⟨ld, rfl, h⟩⟩
    · show ((L.lams[L.fnm.length + j - L.fnm.length]?).map (·.fr)).getD [] = _
      rw [Nat.add_sub_cancel_left, hj]
      rfl
  · intro g nm hg
    have hg' : (L.whs.map (·.1))[g]? = some nm := hg
    rw [List.getElem?_map] at hg'
    cases hd : L.whs[g]? with
    | none => rw [hd] at hg'; cases hg'
    | some d =>
      rw [hd] at hg'
      obtain rfl : d.1 = nm := Option.some.inj hg'
      have hm : d ∈ L.whs := List.mem_of_getElem? hd
      obtain ⟨t, ht⟩ := He.int_ok X G (says_fact c (f := .int d.1 d.2) (List.mem_append_right _ (List.mem_append_right _ (List.mem_append_left _ (List.mem_map_of_mem (f := fun g : Str × Int => He.Fa.int g.1 g.2) hm)))))
      refine ⟨_, .int d.2, .int d.2, ht, ?_, ?_, ?_⟩
      · exact ⟨_, rfl⟩
      · show (L.whs.map (fun g => (.int g.2 : D)))[g]? = _
        rw [List.getElem?_map, hd] <;> rfl
      · intro N H
        exact Rp.int _
  · exact fun x hx => He.free_ok X G (says_fact c (f := .free x) (List.mem_append_right _ (List.mem_append_left _ (List.mem_map_of_mem hx))))
  · intro k nm hn
    have hm : nm ∈ L.es := List.mem_of_getElem? hn
    have hg : L.es.getD k "" = nm := by rw [List.getD_eq_getElem?_getD, hn] <;> rfl
    have g1 := He.glo_ok X G (says_fact c (f := .glo nm) (List.mem_append_right _ (List.mem_append_right _ (List.mem_append_right _ (List.mem_append_left _ (List.mem_map_of_mem hm))))))
    obtain ⟨e1, e2, e3, e4⟩ := He.exc_ok (says_fact c (f := .exc nm) (List.mem_append_right _ (List.mem_append_right _ (List.mem_append_right _ (List.mem_append_right _ (List.mem_append_left _ (List.mem_map_of_mem hm)))))))
    show mg nm = some (.ref (He.ga K.fr (L.es.getD k ""))) ∧ (L.es.map fun _ => ([] : List Str))[k]? = some [] ∧ ∃ B newId initId bmB, ExcBaseFacts B newId initId bmB ∧ PySem.W.excIn K.fr (He.ga K.fr (L.es.getD k "")) bmB newId = true ∧ PySem.W.keepIn K.fr (.ref (He.ga K.fr (L.es.getD k ""))) = true ∧ PySem.W.subIn K.fr (.ref (He.ga K.fr (L.es.getD k ""))) (.type "BaseException") = some true ∧ PySem.W.typeIn K.fr (.ref (He.ga K.fr (L.es.getD k ""))) = some (.type "type")
    rw [hg]
    refine ⟨g1, ?_, _, _, _, _, PySem.F.excBase_ValueError, e1, e2, e3, e4⟩
    rw [List.getElem?_map, hn] <;> rfl
  · intro a b k e
    have e' : (match L.heirs[a]? with
      | some l => if b < L.heirs.length then some (l.contains b) else none
      | none => none) = some k := e
    split at e'
    · rename_i l hl'
      split at e'
      · rename_i hb'
        have ha' : a < L.heirs.length := (List.getElem?_eq_some_iff.mp hl').1
        have hg : L.heirs.getD a [] = l := by rw [List.getD_eq_getElem?_getD, hl'] <;> rfl
        have hm : He.Fa.exm (L.es.getD a "") (L.es.getD b "") k ∈ L.exms := by
          refine List.mem_flatMap.mpr ⟨a, List.mem_range.mpr ha', List.mem_map.mpr ⟨b, List.mem_range.mpr hb', ?_⟩⟩
          rw [hg, Option.some.inj e']
        exact He.exm_ok (says_fact c (List.mem_append_right _ (List.mem_append_right _ (List.mem_append_right _ (List.mem_append_right _ (List.mem_append_right _ hm))))))
      · cases e'
    · cases e'
/-- the end: the law by its engine program -/
theorem lp_law {L : LP} {P : Program} {w : World} {K : Kw} {mg : Str → Option Value} {h : Heap} {n k : Nat} {nm x : Str} {f : Fn} {fa : Addr} (hw : K.w = w) (X : K.fr.In h) (G : h.Ns mainGlobals mg) (hfa : mg nm = some (.ref fa)) (c : He.SaysX L.fa L.fn [] L.tf L.ex w h K.fr) (ok : L.ds.all L.okD = true) (hb : BdAll L.ds) (hl : L.heirs.length = L.es.length)
    (hk : L.fnm[k]? = some nm) (hp : L.ds[k]?.map (·.ps) = some [x]) (T : LawTrue L.pr n k) :
    ∃ fd : FuncData, (∀ (s : Shared) (u : Value), BindsTo s fd ⟨[u], []⟩ [(x, u)]) ∧ ∀ base : Heap, K.fr.In base → base.Ns mainGlobals mg → (∀ p ∈ L.cs K.fr, LamX.TabB base mg p.1 p.2) → FnOk P w K.fr mg base (L2.CX P w) n fa fd [x] (@spLaw (L.tbs K.fr) K.fr) := by
  have cd : He.SaysD L.fa L.fn K.fr := c.t.d
  cases hd : L.ds[k]? with
  | none => rw [hd] at hp; cases hp
  | some d =>
    rw [hd] at hp
    have hps : d.ps = [x] := Option.some.inj hp
    have hk' : (L.ds.map (·.nm))[k]? = some nm := hk
    rw [List.getElem?_map, hd] at hk'
    obtain rfl : d.nm = nm := Option.some.inj hk'
    have hff : L.pr.fns[k]? = some d.f := by
      have hlt := (List.getElem?_eq_some_iff.mp hd).1
      show (L.ds.map (·.f) ++ L.lams.map LamDt.fn)[k]? = _
      rw [List.getElem?_append_left (by simpa using hlt), List.getElem?_map, hd] <;> rfl
    have hg : L.fnm.getD k "" = d.nm := by rw [List.getD_eq_getElem?_getD, hk] <;> rfl
    have gl := He.glo_ok X G (says_fact cd (f := .glo d.nm) (List.mem_append_left _ (List.mem_map_of_mem (f := fun d : LD => He.Fa.glo d.nm) (List.mem_of_getElem? hd))))
    have e := hfa.symm.trans gl
    obtain rfl : fa = He.ga K.fr d.nm := by injection e with e; injection e
    obtain ⟨fd, q, bA⟩ := lp_at X G cd c.more ok hb hd
    refine ⟨fd, fun s u => ?_, fun base KB GB TB => ?_⟩
    · have z := bA s [u] (by rw [hps] <;> rfl)
      rw [hps] at z
      exact z
    · have z := ((@prog_sound (L.tbs K.fr) P w K mg base _ _ _ _ _ _ _ _ hw (lp_ok X G cd c.more ok hb hl) TB n).1 k d.f fd d.ps hff q).1
      rw [hps] at z
      have z' : FnOk P w K.fr mg base (L2.CX P w) n (He.ga K.fr (L.fnm.getD k "")) fd [x] (@spec (L.tbs K.fr) K (fun k => He.ga K.fr (L.fnm.getD k "")) (fun k => He.ga K.fr (L.es.getD k "")) [x].length (run L.pr n k)) := z
      rw [hg] at z'
      exact @law_imp (L.tbs K.fr) _ _ _ _ _ _ _ _ _ _ _ _ _ T z'
theorem walkL {L : LP} {l : PySem.W.OpenLaw} {q : Program} {loose : List Str} {XP : (Str → Option Value) → Heap → Prop} {d : DefRec} {n : Nat} {x : Str} (hn : l.most = some 63) (hdf : d.params.defaults = []) (hr : Room n callerA)
    (F : ∀ (w : World) (mg : Str → Option Value) (fa : Addr) (h : Heap) (K : PySem.W.Frag), K.In h → He.SaysX L.fa L.fn [] L.tf L.ex w h K → h.Ns mainGlobals mg → mg d.name = some (.ref fa) →
      ∃ fd : FuncData, (∀ (s : Shared) (u : Value), BindsTo s fd ⟨[u], []⟩ [(x, u)]) ∧ ∀ base : Heap, K.In base → base.Ns mainGlobals mg → (∀ p ∈ L.cs K, LamX.TabB base mg p.1 p.2) → FnOk l.prog w K mg base (L2.CX l.prog w) n fa fd [x] (@spLaw (L.tbs K) K)) :
    PySem.W.WalkO q loose XP (fun w h => ∃ K : PySem.W.Frag, K.In h ∧ He.SaysX L.fa L.fn [] L.tf L.ex w h K) l.row.toRowW d [] (fun f vs => PySem.call f vs) := by
  refine Att.attach_call hn hdf fun w s₀ s₁ mg mb fa o pm cd doc a vs ns G Y ho hd hcd hmg hobj hints hlen hg => ?_
  obtain ⟨K, KX, c⟩ := Y
  obtain ⟨fd, hb, hF⟩ := F w mg fa _ K KX c G.T.g hmg
  have mem : ∀ p ∈ L.cs K, ∃ t ∈ L.tf, p = He.cT K t := fun p hp => by
    obtain ⟨t, h1, h2⟩ := List.mem_map.mp hp
    exact ⟨t, h1, h2.symm⟩
  refine LamX.law_callTs (cs := L.cs K) (sp := @spLaw (L.tbs K) K) KX G.T.g G.T.b G.T.builtins G.T.nolimit hg (fun p hp => ?_) (fun p hp => ?_) (fun p hp => ?_) G.T.bmain hobj hints (Nat.le_trans hlen (by decide)) hr hF hb (fun H hH hS => ⟨a, ns, rfl, hS, hlen, fun p hp => ?_, fun _ => rfl⟩) fun H e s' ⟨_, _, _, _, _, _, _, _, _, _, _, _, z⟩ => z
  · obtain ⟨t, h1, rfl⟩ := mem p hp
    exact c.empty t h1
  · obtain ⟨t, h1, rfl⟩ := mem p hp
    exact c.out t h1
  · obtain ⟨t, h1, rfl⟩ := mem p hp
    exact PySem.W.codeHd_of_K KX (c.hd t h1)
  · obtain ⟨t, h1, rfl⟩ := List.mem_map.mp hp
    exact ⟨#[], hH _ (List.mem_map.mpr ⟨t, h1, rfl⟩), True.intro, fun pos cv hc => by
      have z : codeAmong pos [] = some cv := hc
      simp [codeAmong] at z⟩
end E2

set_option Elab.async false
set_option linter.all false
set_option maxRecDepth 100000
set_option maxHeartbeats 1000000
namespace E2
open PySem L2
/-! ## what an evaluation ends in -/
/-- a mark that hangs on what simp is to leave alone -/
structure Blk {β : Type u} (b : β) : Type u where
inductive Rs.w0 {α : Type} : Rs α → (α → En → Prop) → (Ex → En → Prop) → Prop
  | ok {a : α} {r : En} {Q : α → En → Prop} {X : Ex → En → Prop} : Q a r → Rs.w0 (.ok a r) Q X
  | exc {e : Ex} {r : En} {Q : α → En → Prop} {X : Ex → En → Prop} : X e r → Rs.w0 (.exc e r) Q X
def Rs.w {α : Type} (x : Rs α) (Q : α → En → Prop) (X : Ex → En → Prop) (_t : Blk (Q, X) := ⟨⟩) : Prop := Rs.w0 x Q X
structure Pt where
  nx : En → Prop
  rt : R → En → Prop := fun _ _ => False
  ex : Ex → En → Prop := fun _ _ => False
  bk : En → Prop := fun _ => False
  ct : En → Prop := fun _ => False
inductive So.w0 : So → Pt → Prop
  | nx {r : En} {P : Pt} : P.nx r → So.w0 (.nx r) P
  | ret {x : R} {r : En} {P : Pt} : P.rt x r → So.w0 (.ret x r) P
  | brk {r : En} {P : Pt} : P.bk r → So.w0 (.brk r) P
  | cont {r : En} {P : Pt} : P.ct r → So.w0 (.cont r) P
  | exc {e : Ex} {r : En} {P : Pt} : P.ex e r → So.w0 (.exc e r) P
def So.w (o : So) (P : Pt) (_t : Blk P := ⟨⟩) : Prop := So.w0 o P
section
variable {α β : Type} {Q : α → En → Prop} {X : Ex → En → Prop} {P P' : Pt} {r : En}
theorem ok_w {a : α} : (Rs.ok a r).w Q X ↔ Q a r := ⟨fun h => by cases (show Rs.w0 _ _ _ from h); assumption, fun h => .ok h⟩
theorem exc_w {e : Ex} : (Rs.exc e r : Rs α).w Q X ↔ X e r := ⟨fun h => by cases (show Rs.w0 _ _ _ from h); assumption, fun h => .exc h⟩
theorem stuck_w : (Rs.stuck : Rs α).w Q X ↔ False := ⟨fun h => (nomatch (show Rs.w0 _ _ _ from h)), False.elim⟩
theorem nx_w : (So.nx r).w P ↔ P.nx r := ⟨fun h => by cases (show So.w0 _ _ from h); assumption, fun h => .nx h⟩
theorem ret_w {x : R} : (So.ret x r).w P ↔ P.rt x r := ⟨fun h => by cases (show So.w0 _ _ from h); assumption, fun h => .ret h⟩
theorem brk_w : (So.brk r).w P ↔ P.bk r := ⟨fun h => by cases (show So.w0 _ _ from h); assumption, fun h => .brk h⟩
theorem cont_w : (So.cont r).w P ↔ P.ct r := ⟨fun h => by cases (show So.w0 _ _ from h); assumption, fun h => .cont h⟩
theorem sexc_w {e : Ex} : (So.exc e r).w P ↔ P.ex e r := ⟨fun h => by cases (show So.w0 _ _ from h); assumption, fun h => .exc h⟩
theorem sstuck_w : So.stuck.w P ↔ False := ⟨fun h => (nomatch (show So.w0 _ _ from h)), False.elim⟩
theorem bind_w {x : Rs β} {f : β → En → Rs α} : (x.bind f).w Q X ↔ x.w (fun a r => (f a r).w Q X) X := by
  cases x <;> simp only [Rs.bind, ok_w, exc_w, stuck_w]
theorem so_w {x : Rs β} {f : β → En → So} : (x.so f).w P ↔ x.w (fun a r => (f a r).w P) P.ex := by
  cases x <;> simp only [Rs.so, ok_w, exc_w, stuck_w, sexc_w, sstuck_w]
theorem then_w {o : So} {f : En → So} : (o.then f).w P ↔ o.w { P with nx := fun r => (f r).w P } := by
  cases o <;> simp only [So.then, nx_w, ret_w, brk_w, cont_w, sexc_w, sstuck_w]
theorem Rs.w.imp {x : Rs α} {Q' : α → En → Prop} {X' : Ex → En → Prop} (h : x.w Q X) (hq : ∀ a r, Q a r → Q' a r) (hx : ∀ e r, X e r → X' e r) : x.w Q' X' := by
  have h : Rs.w0 x Q X := h
  cases h with
  | ok h => exact .ok (hq _ _ h)
  | exc h => exact .exc (hx _ _ h)
theorem So.w.imp {o : So} (h : o.w P) (h1 : ∀ r, P.nx r → P'.nx r) (h2 : ∀ x r, P.rt x r → P'.rt x r) (h3 : ∀ e r, P.ex e r → P'.ex e r) (h4 : ∀ r, P.bk r → P'.bk r) (h5 : ∀ r, P.ct r → P'.ct r) : o.w P' := by
  have h : So.w0 o P := h
  cases h with
  | nx h => exact .nx (h1 _ h)
  | ret h => exact .ret (h2 _ _ h)
  | brk h => exact .brk (h4 _ h)
  | cont h => exact .cont (h5 _ h)
  | exc h => exact .exc (h3 _ _ h)
end
/-- the inside of a loop's turn: nx, ct go on by I; bk leaves -/
def Pt.lp (P : Pt) (I : En → Prop) : Pt := ⟨I, P.rt, P.ex, P.nx, I⟩
theorem for_w {α : Type} {bind : D → En → Option En} {b : En → So} {P : Pt} (g : α → D) (I : List α → En → Prop) (hs : ∀ a as r, I (a :: as) r → ∃ r1, bind (g a) r = some r1 ∧ (b r1).w (P.lp (I as))) (he : ∀ r, I [] r → P.nx r) :
    ∀ (as : List α) (r : En), I as r → (forF bind b (as.map g) r).w P
  | [], r, h => .nx (he r h)
  | a :: as, r, h => by
    obtain ⟨r1, e, hb⟩ := hs a as r h
    rw [List.map_cons]
    simp only [forF, e]
    cases hb1 : b r1 with
    | nx r2 => rw [hb1] at hb; exact for_w g I hs he as r2 (nx_w.mp hb)
    | cont r2 => rw [hb1] at hb; exact for_w g I hs he as r2 (cont_w.mp hb)
    | brk r2 => rw [hb1] at hb; exact .nx (have q := brk_w.mp hb; q)
    | ret x r2 => rw [hb1] at hb; exact .ret (have q := ret_w.mp hb; q)
    | exc x r2 => rw [hb1] at hb; exact .exc (have q := sexc_w.mp hb; q)
    | stuck => rw [hb1] at hb; exact (sstuck_w.mp hb).elim
theorem while_w {t : En → Rs Bool} {b : En → So} {P : Pt} (I : Nat → En → Prop) (hs : ∀ n r, I n r → (t r).w (fun k r1 => (k = true → (b r1).w (P.lp fun r2 => ∃ m, m < n ∧ I m r2)) ∧ (k = false → P.nx r1)) P.ex) :
    ∀ (f n : Nat) (r : En), n < f → I n r → (whileF t b f r).w P
  | 0, n, r, h, _ => absurd h (Nat.not_lt_zero _)
  | f + 1, n, r, h, hI => by
    have h1 := hs n r hI
    simp only [whileF, so_w]
    refine Rs.w.imp h1 (fun k r1 hk => ?_) fun _ _ z => z
    cases k with
    | false => exact .nx (hk.2 rfl)
    | true =>
      have hb := hk.1 rfl
      show (match b r1 with
        | .nx r2 => whileF t b f r2
        | .cont r2 => whileF t b f r2
        | .brk r2 => .nx r2
        | .ret x r2 => .ret x r2
        | .exc x r2 => .exc x r2
        | .stuck => .stuck : So).w P
      cases hb1 : b r1 with
      | nx r2 =>
        rw [hb1] at hb
        obtain ⟨m, hm, hI2⟩ := nx_w.mp hb
        exact while_w I hs f m r2 (by omega) hI2
      | cont r2 =>
        rw [hb1] at hb
        obtain ⟨m, hm, hI2⟩ := cont_w.mp hb
        exact while_w I hs f m r2 (by omega) hI2
      | brk r2 => rw [hb1] at hb; exact .nx (have q := brk_w.mp hb; q)
      | ret x r2 => rw [hb1] at hb; exact .ret (have q := ret_w.mp hb; q)
      | exc x r2 => rw [hb1] at hb; exact .exc (have q := sexc_w.mp hb; q)
      | stuck => rw [hb1] at hb; exact (sstuck_w.mp hb).elim
/-- a comprehension that leaves its surroundings alone: g the items, p its test, f its element -/
theorem lcGo_eq {α : Type} {vs : List Nat} {bind : D → En → Option En} {cond : En → Rs Bool} {elt : En → Rs R} (g : α → D) (p : α → Bool) (f : α → D) {r0 : En} (hw : wipeE r0 vs = r0) :
    ∀ (as : List α) (acc : List D) (r : En), (∀ a ∈ as, ∃ r1, bind (g a) r0 = some r1 ∧ (∃ r2, cond r1 = .ok (p a) r2 ∧ wipeE r2 vs = r0 ∧ (p a = true → ∃ o r3, elt r2 = .ok (.val o (f a)) r3 ∧ wipeE r3 vs = r0))) → wipeE r vs = r0 → acc.length + as.length ≤ sizeLine →
      ∃ r', lcGo vs bind cond elt (as.map g) acc r = .ok (acc ++ (as.filter p).map f) r' ∧ wipeE r' vs = r0 ∧ (r' = r ∨ r' = r0)
  | [], acc, r, _, h, _ => ⟨r, by simp [lcGo], h, .inl rfl⟩
  | a :: as, acc, r, hs, h, hl => by
    obtain ⟨r1, e1, r2, e2, e3, e4⟩ := hs a (List.mem_cons_self)
    have hl' : acc.length + (as.length + 1) ≤ sizeLine := by simpa using hl
    have hs' := fun a h => hs a (List.mem_cons_of_mem _ h)
    cases hp : p a with
    | false =>
      obtain ⟨r', q1, q2, q3⟩ := lcGo_eq g p f hw as acc (wipeE r2 vs) hs' (by rw [e3, hw]) (by omega)
      refine ⟨r', ?_, q2, ?_⟩
      · rw [List.map_cons]
        simp only [lcGo, h, e1, e2, hp]
        rw [q1, List.filter_cons_of_neg (by simp [hp])]
      · rw [e3] at q3
        exact .inr (q3.elim id id)
    | true =>
      obtain ⟨o, r3, e5, e6⟩ := e4 hp
      obtain ⟨r', q1, q2, q3⟩ := lcGo_eq g p f hw as (acc ++ [f a]) (wipeE r3 vs) hs' (by rw [e6, hw]) (by simp; omega)
      refine ⟨r', ?_, q2, ?_⟩
      · rw [List.map_cons]
        simp only [lcGo, h, e1, e2, hp, e5, take]
        rw [if_pos (by omega), q1, List.filter_cons_of_pos (by simp [hp])]
        simp
      · rw [e6] at q3
        exact .inr (q3.elim id id)
/-! ## whole numbers as data -/
abbrev dn (n : Nat) : D := .int n
abbrev tn (xs : List Nat) : D := .tuple (xs.map dn)
theorem atI_nat {α : Type} (xs : List α) (n : Nat) : atI xs (n : Int) = xs[n]? := by
  unfold atI ixN
  by_cases h : n < xs.length
  · rw [if_pos (by omega), if_pos (by omega)]; rfl
  · rw [if_pos (by omega), if_neg (by omega)]
    exact (List.getElem?_eq_none (by omega)).symm
theorem ixN_nat {n i : Nat} (h : i < n) : ixN n (i : Int) = some i := by
  unfold ixN
  rw [if_pos (by omega), if_pos (by omega)]; rfl
theorem eqv_dn (a b : Nat) : PyData.eqv (dn a) (dn b) = decide (a = b) := by
  rw [PyData.eqv, Bool.eq_iff_iff, beq_iff_eq, decide_eq_true_eq]
  omega
theorem eqvAll_dn : ∀ xs ys : List Nat, PyData.eqvAll (xs.map dn) (ys.map dn) = decide (xs = ys)
  | [], [] => by simp [PyData.eqvAll]
  | [], _ :: _ => by simp [PyData.eqvAll]
  | _ :: _, [] => by simp [PyData.eqvAll]
  | x :: xs, y :: ys => by
    rw [List.map_cons, List.map_cons, PyData.eqvAll, eqv_dn, eqvAll_dn xs ys, ← Bool.decide_and]
    exact decide_eq_decide.mpr (by rw [List.cons.injEq])
theorem any_dn (xs : List Nat) (k : Nat) : (xs.map dn).any (fun x => PyData.eqv x (dn k)) = decide (k ∈ xs) := by
  rw [List.any_map, Bool.eq_iff_iff, List.any_eq_true, decide_eq_true_eq]
  constructor
  · rintro ⟨y, hy, e⟩
    have e' : PyData.eqv (dn y) (dn k) = true := e
    rw [eqv_dn, decide_eq_true_eq] at e'
    exact e' ▸ hy
  · intro h
    exact ⟨k, h, by show PyData.eqv (dn k) (dn k) = true; rw [eqv_dn]; simp⟩
theorem canLayAll_dn : ∀ xs : List Nat, PyData.canLayAll0 (xs.map dn) = true
  | [] => by simp [PyData.canLayAll0]
  | x :: xs => by rw [List.map_cons, PyData.canLayAll0, canLayAll_dn xs]; simp [PyData.canLay0]
theorem depthAll_dn : ∀ xs : List Nat, PyData.depthAll (xs.map dn) = 0
  | [] => by simp [PyData.depthAll]
  | x :: xs => by rw [List.map_cons, PyData.depthAll, depthAll_dn xs]; simp [PyData.depth]
theorem rngI_nat (a b : Nat) : rngI a b = (List.range (b - a)).map fun i => dn (a + i) := by
  unfold rngI
  have e : ((b : Int) - (a : Int)).toNat = b - a := by omega
  rw [e]
  refine List.map_congr_left fun i _ => ?_
  show PyData.int ((a : Int) + (i : Int)) = PyData.int ((a + i : Nat) : Int)
  rw [Int.natCast_add]
theorem rngI_zero (b : Nat) : rngI 0 b = (List.range b).map dn := by
  have := rngI_nat 0 b
  simpa using this
theorem enumT_map {α : Type} (f : α → D) : ∀ (xs : List α) (n : Nat), enumT n (xs.map f) = (xs.zipIdx n).map fun p => .tuple [dn p.2, f p.1]
  | [], _ => rfl
  | x :: xs, n => by rw [List.map_cons, enumT, enumT_map f xs (n + 1), List.zipIdx_cons, List.map_cons]
end E2

set_option Elab.async false
set_option linter.all false
set_option maxRecDepth 100000
set_option maxHeartbeats 1000000
namespace E2
open PySem L2
/-! ## running by rewriting: only what stands in front is looked at -/
section
variable {α β : Type}
/-- keeps the kernel from unfolding both sides -/
theorem same {γ : Sort u} {a b : γ} (h : a = b) : a = b := Eq.trans h (Eq.refl b)
/-- a mark: it goes away as soon as it is looked at -/
def tick {γ : Sort u} (x : γ) : γ := x
@[simp] theorem tick_off {γ : Sort u} (x : γ) : tick x = x := Eq.trans (Eq.refl _) (Eq.refl x)
@[simp] theorem bind_okR {a : α} {r : En} {f : α → En → Rs β} : (Rs.ok a r).bind f = f a r := same rfl
@[simp] theorem bind_excR {e : Ex} {r : En} {f : α → En → Rs β} : (Rs.exc e r : Rs α).bind f = .exc e r := same rfl
@[simp] theorem so_ok {a : α} {r : En} {f : α → En → So} : (Rs.ok a r).so f = f a r := same rfl
@[simp] theorem so_exc {e : Ex} {r : En} {f : α → En → So} : (Rs.exc e r : Rs α).so f = .exc e r := same rfl
@[simp] theorem then_nx {r : En} {f : En → So} : (So.nx r).then f = f r := same rfl
@[simp] theorem then_ret {x : R} {r : En} {f : En → So} : (So.ret x r).then f = .ret x r := same rfl
@[simp] theorem then_exc {x : Ex} {r : En} {f : En → So} : (So.exc x r).then f = .exc x r := same rfl
@[simp] theorem then_brk {r : En} {f : En → So} : (So.brk r).then f = .brk r := same rfl
@[simp] theorem then_cont {r : En} {f : En → So} : (So.cont r).then f = .cont r := same rfl
end
section
variable {α β : Type} {Q : α → En → Prop} {X : Ex → En → Prop} {P : Pt} {r : En}
@[simp] theorem ok_w' {a : α} : (Rs.ok a r).w Q X ↔ Q a r := ok_w
@[simp] theorem exc_w' {e : Ex} : (Rs.exc e r : Rs α).w Q X ↔ X e r := exc_w
@[simp] theorem nx_w' : (So.nx r).w P ↔ P.nx r := nx_w
@[simp] theorem ret_w' {x : R} : (So.ret x r).w P ↔ P.rt x r := ret_w
@[simp] theorem cont_w' : (So.cont r).w P ↔ P.ct r := cont_w
@[simp] theorem brk_w' : (So.brk r).w P ↔ P.bk r := brk_w
@[simp] theorem sexc_w' {e : Ex} : (So.exc e r).w P ↔ P.ex e r := sexc_w
end
/-! ## the steps, each by a lemma of its own: no match is left on a right side -/
section
variable {α β : Type}
def oS (o : Option α) (f : α → Rs β) : Rs β := match o with | some a => f a | none => .stuck
def oX (o : Option α) (f : α → So) : So := match o with | some a => f a | none => .stuck
def oO (o : Option α) (f : α → Option β) : Option β := match o with | some a => f a | none => none
def bS (b : Bool) (x y : Rs β) : Rs β := match b with | true => x | false => y
def bX (b : Bool) (x y : So) : So := match b with | true => x | false => y
def gS (c : Prop) [Decidable c] (x : Rs β) : Rs β := if c then x else .stuck
def gO (c : Prop) [Decidable c] (x : Option β) : Option β := if c then x else none
@[simp] theorem oS_some {a : α} {f : α → Rs β} : oS (some a) f = f a := same rfl
@[simp] theorem oS_none {f : α → Rs β} : oS none f = .stuck := same rfl
@[simp] theorem oX_some {a : α} {f : α → So} : oX (some a) f = f a := same rfl
@[simp] theorem oO_some {a : α} {f : α → Option β} : oO (some a) f = f a := same rfl
@[simp] theorem oO_none {f : α → Option β} : oO none f = none := same rfl
@[simp] theorem bS_true {x y : Rs β} : bS true x y = x := same rfl
@[simp] theorem bS_false {x y : Rs β} : bS false x y = y := same rfl
@[simp] theorem bX_true {x y : So} : bX true x y = x := same rfl
@[simp] theorem bX_false {x y : So} : bX false x y = y := same rfl
@[simp] theorem gS_of {c : Prop} [Decidable c] {x : Rs β} (h : c) : gS c x = x := if_pos h
@[simp] theorem gO_of {c : Prop} [Decidable c] {x : Option β} (h : c) : gO c x = x := if_pos h
end
def svR (i : Nat) : Option (Option Sv) → Option R
  | some (some (.dat false d)) => some (.val false d)
  | some (some (.dat true _)) => some (.sl i)
  | some (some (.fn k ds)) => some (.fn k ds)
  | _ => none
def svD : Option (Option Sv) → Option D
  | some (some (.dat _ d)) => some d
  | _ => none
def svO : Option (Option Sv) → Option D
  | some (some (.dat true d)) => some d
  | _ => none
def svF : Option (Option Sv) → Option (Nat × List D)
  | some (some (.fn k ds)) => some (k, ds)
  | _ => none
def svL : Option (Option Sv) → Option Unit
  | some (some (.dat true (.list _))) => some ()
  | _ => none
def rInt : R → Option Int
  | .val _ (.int i) => some i
  | _ => none
@[simp] theorem svR_0 {i : Nat} {d : D} : svR i (some (some (.dat false d))) = some (.val false d) := same rfl
@[simp] theorem svR_1 {i : Nat} {d : D} : svR i (some (some (.dat true d))) = some (.sl i) := same rfl
@[simp] theorem svR_f {i k : Nat} {ds : List D} : svR i (some (some (.fn k ds))) = some (.fn k ds) := same rfl
@[simp] theorem svD_d {o : Bool} {d : D} : svD (some (some (.dat o d))) = some d := same (by cases o <;> rfl)
@[simp] theorem svO_d {d : D} : svO (some (some (.dat true d))) = some d := same rfl
@[simp] theorem svF_f {k : Nat} {ds : List D} : svF (some (some (.fn k ds))) = some (k, ds) := same rfl
@[simp] theorem svL_l {xs : List D} : svL (some (some (.dat true (.list xs)))) = some () := same rfl
@[simp] theorem rInt_i {o : Bool} {i : Int} : rInt (.val o (.int i)) = some i := same rfl
def repR (r2 : En) (x y : R) : Rs R := match x, y with
    | .val true (.list xs), .val false (.int k) => if k < 2 ^ 63 ∧ -(2 ^ 63) ≤ k ∧ xs.length * k.toNat ≤ sizeLine then .ok (.val true (.list (List.replicate k.toNat xs).flatten)) r2 else .stuck
    | _, _ => .stuck
def crS (c : Cr) (sl : List Nat) (r1 : En) : Rs R := match c with
  | .ok own d refs => oS (putRefs r1 sl refs) fun r2 => .ok (.val own d) r2
  | .fn k l refs => oS (putRefs r1 sl refs) fun r2 => .ok (.fn k l) r2
  | .exc x refs => oS (putRefs r1 sl refs) fun r2 => .exc x r2
  | .stuck => .stuck
section
variable {G : Gs} {r : En}
@[simp] theorem crS_ok {o : Bool} {d : D} {refs : List D} {sl : List Nat} : crS (.ok o d refs) sl r = oS (putRefs r sl refs) fun r2 => .ok (.val o d) r2 := same rfl
@[simp] theorem crS_fn {k : Nat} {l refs : List D} {sl : List Nat} : crS (.fn k l refs) sl r = oS (putRefs r sl refs) fun r2 => .ok (.fn k l) r2 := same rfl
@[simp] theorem crS_exc {x : Ex} {refs : List D} {sl : List Nat} : crS (.exc x refs) sl r = oS (putRefs r sl refs) fun r2 => .exc x r2 := same rfl
def crV (c : Cr) (r : En) : Rs R := match c with
  | .ok o d _ => .ok (.val o d) r
  | _ => .stuck
@[simp] theorem crV_ok {o : Bool} {d : D} {refs : List D} : crV (.ok o d refs) r = .ok (.val o d) r := same rfl
def clR (G : Gs) (k : Nat) (ds : List D) (xs : List R) (r1 : En) : Rs R := match ds with
  | [] => callR G k xs r1
  | _ :: _ => oS (takes r1 xs) fun q => crV (G.call k ((q.1 ++ ds).map .val)) q.2
@[simp] theorem clR_nil {k : Nat} {xs : List R} : clR G k [] xs r = callR G k xs r := same rfl
@[simp] theorem clR_cons {k : Nat} {d : D} {ds : List D} {xs : List R} : clR G k (d :: ds) xs r = oS (takes r xs) fun q => crV (G.call k ((q.1 ++ (d :: ds)).map .val)) q.2 := same rfl
def dicM (ds : List D) (r : En) : Rs R := match ds with
  | [kk, vv] => gS ((flatK kk || tupK kk) = true) (.ok (.val true (.dict [(kk, vv)])) r)
  | _ => .stuck
@[simp] theorem dicM_2 {kk vv : D} : dicM [kk, vv] r = gS ((flatK kk || tupK kk) = true) (.ok (.val true (.dict [(kk, vv)])) r) := same rfl
def svK : Option (Option Sv) → Option D
  | some (some (.dat false d)) => some d
  | _ => none
def svA : Option (Option Sv) → Option Ag
  | some (some (.dat false d)) => some (.val d)
  | some (some (.fn k ds)) => some (.fn k ds)
  | _ => none
@[simp] theorem svK_d {d : D} : svK (some (some (.dat false d))) = some d := same rfl
@[simp] theorem svA_d {d : D} : svA (some (some (.dat false d))) = some (.val d) := same rfl
@[simp] theorem svA_f {k : Nat} {ds : List D} : svA (some (some (.fn k ds))) = some (.fn k ds) := same rfl
@[simp] theorem capsD_nil : capsD r [] = some [] := same rfl
@[simp] theorem capsD_cons {i : Nat} {is : List Nat} : capsD r (i :: is) = oO (svK r[i]?) fun d => oO (capsD r is) fun ds => some (d :: ds) := by
  rw [capsD]
  cases r[i]? with
  | none => rfl
  | some x => cases x with
    | none => rfl
    | some y => cases y with
      | dat o d => cases o with
        | true => rfl
        | false => show (capsD r is).map _ = oO _ _; cases capsD r is <;> rfl
      | _ => rfl
@[simp] theorem laV_v {i : Nat} : laV G r (.v i) = svA r[i]? := same (by
  rw [laV]
  cases r[i]? with
  | none => rfl
  | some x => cases x with
    | none => rfl
    | some y => cases y with
      | dat o d => cases o <;> rfl
      | _ => rfl)
@[simp] theorem laV_c {d : D} : laV G r (.c d) = some (.val d) := same rfl
@[simp] theorem laV_g {g : Nat} : laV G r (.g g) = oO (G.gcs g) fun d => some (.val d) := same (by rw [laV]; cases G.gcs g <;> rfl)
@[simp] theorem laV_f {k : Nat} : laV G r (.f k) = some (.fn k []) := same rfl
@[simp] theorem laV_l {k : Nat} {caps : List Nat} : laV G r (.l k caps) = oO (capsD r caps) fun ds => some (.fn k ds) := same (by rw [laV]; cases capsD r caps <;> rfl)
@[simp] theorem laVs_nil : laVs G r [] = some [] := same rfl
@[simp] theorem laVs_cons {a : LA} {as : List LA} : laVs G r (a :: as) = oO (laV G r a) fun x => oO (laVs G r as) fun xs => some (x :: xs) := same (by
  rw [laVs]
  cases laV G r a with
  | none => rfl
  | some x => show (laVs G r as).map _ = oO _ _; cases laVs G r as <;> rfl)
theorem nameR_sv {i : Nat} : nameR r i = svR i r[i]? := by
  unfold nameR svR; rfl
@[simp] theorem dref_val {o : Bool} {d : D} : dref r (.val o d) = some d := same rfl
@[simp] theorem dref_sl {i : Nat} : dref r (.sl i) = svD r[i]? := same (by unfold dref svD; rfl)
@[simp] theorem take_val {o : Bool} {d : D} : take r (.val o d) = some (d, r) := same rfl
@[simp] theorem take_sl {i : Nat} : take r (.sl i) = oO (svD r[i]?) fun d => some (d, r.set i (some (.dat false d))) := by
  unfold take svD
  show (match r[i]? with
    | some (some (.dat _ d)) => some (d, r.set i (some (.dat false d)))
    | _ => none) = _
  cases r[i]? with
  | none => rfl
  | some x => cases x with
    | none => rfl
    | some y => cases y <;> rfl
@[simp] theorem takes_nil : takes r [] = some ([], r) := same rfl
@[simp] theorem takes_cons {x : R} {xs : List R} : takes r (x :: xs) = oO (take r x) fun p => oO (takes p.2 xs) fun q => some (p.1 :: q.1, q.2) := by
  show (match take r x with
    | some (d, r1) => match takes r1 xs with
      | some (ds, r2) => some (d :: ds, r2)
      | none => none
    | none => none) = _
  cases take r x with
  | none => rfl
  | some p =>
    show (match takes p.2 xs with
      | some (ds, r2) => some (p.1 :: ds, r2)
      | none => none) = oO (takes p.2 xs) _
    cases takes p.2 xs <;> rfl
@[simp] theorem drefs_nil : drefs r [] = some [] := same rfl
@[simp] theorem drefs_cons {x : R} {xs : List R} : drefs r (x :: xs) = oO (dref r x) fun d => oO (drefs r xs) fun ds => some (d :: ds) := by
  show (match dref r x, drefs r xs with
    | some d, some ds => some (d :: ds)
    | _, _ => none) = _
  cases dref r x <;> cases drefs r xs <;> rfl
@[simp] theorem optR_some {o : Bool} {d : D} : optR r (some (o, d)) = .ok (.val o d) r := same rfl
@[simp] theorem e_var {i : Nat} : evE G (.var i) r = oS (svR i r[i]?) fun x => .ok x r := by
  rw [evE, nameR_sv]
  cases svR i r[i]? <;> rfl
@[simp] theorem e_cst {d : D} : evE G (.cst d) r = .ok (.val false d) r := by rw [evE]
@[simp] theorem e_gc {g : Nat} : evE G (.gc g) r = oS (G.gcs g) fun d => .ok (.val false d) r := by
  rw [evE]
  cases G.gcs g <;> rfl
@[simp] theorem e_fnv {k : Nat} : evE G (.fnv k) r = .ok (.fn k []) r := by rw [evE]
theorem bind_ext {α β : Type} {x : Rs α} {f g : α → En → Rs β} (h : ∀ a r, f a r = g a r) : x.bind f = x.bind g := by
  have : f = g := funext fun a => funext fun r => h a r
  rw [this]
theorem so_ext {α : Type} {x : Rs α} {f g : α → En → So} (h : ∀ a r, f a r = g a r) : x.so f = x.so g := by
  have : f = g := funext fun a => funext fun r => h a r
  rw [this]
@[simp] theorem e_tup {es : CEs} : evE G (.tup es) r = (evEs G es r).bind fun xs r1 => oS (takes r1 xs) fun p => gS (p.1.length ≤ 16777216) (.ok (.val false (.tuple p.1)) p.2) := by
  rw [evE]
  refine bind_ext fun xs r1 => ?_
  cases takes r1 xs with
  | none => rfl
  | some p => show (if p.1.length ≤ sizeLine then _ else _) = _; rw [sizeLine_eq]; rfl
@[simp] theorem e_lst {es : CEs} : evE G (.lst es) r = (evEs G es r).bind fun xs r1 => oS (takes r1 xs) fun p => gS (p.1.length ≤ 16777216) (.ok (.val true (.list p.1)) p.2) := by
  rw [evE]
  refine bind_ext fun xs r1 => ?_
  cases takes r1 xs with
  | none => rfl
  | some p => show (if p.1.length ≤ sizeLine then _ else _) = _; rw [sizeLine_eq]; rfl
@[simp] theorem e_dic0 : evE G .dic0 r = .ok (.val true (.dict [])) r := by rw [evE]
@[simp] theorem e_bin {op : Operator} {a b : CE} : evE G (.bin op a b) r = (evE G a r).bind fun x r1 => (evE G b r1).bind fun y r2 => oS (dref r2 x) fun d => oS (dref r2 y) fun e => optR r2 (binD op d e) := by
  rw [evE]
  refine bind_ext fun x r1 => bind_ext fun y r2 => ?_
  cases dref r2 x <;> cases dref r2 y <;> rfl
@[simp] theorem e_rep {a b : CE} : evE G (.rep a b) r = (evE G a r).bind fun x r1 => (evE G b r1).bind fun y r2 => repR r2 x y := by rw [evE] <;> rfl
@[simp] theorem repR_nat {d : D} {n : Nat} (h : n ≤ 16777216) : repR r (.val true (.list [d])) (.val false (.int n)) = .ok (.val true (.list (List.replicate n d))) r := by
  have e : (List.replicate n [d]).flatten = List.replicate n d := by simp
  have e2 : (n : Int) < 2 ^ 63 ∧ -(2 ^ 63) ≤ (n : Int) ∧ [d].length * (n : Int).toNat ≤ sizeLine := by
    rw [sizeLine_eq]
    refine ⟨by omega, by omega, ?_⟩
    simp only [List.length_singleton, Int.toNat_natCast]
    omega
  unfold repR
  simp only [Int.toNat_natCast] at e2 ⊢
  rw [if_pos e2, e]
@[simp] theorem e_neg {a : CE} : evE G (.neg a) r = (evE G a r).bind fun x r1 => oS (rInt x) fun i => .ok (.val false (.int (-i))) r1 := by
  rw [evE]
  refine bind_ext fun x r1 => ?_
  cases x with
  | val o d => cases d <;> rfl
  | _ => rfl
@[simp] theorem e_cmp {op : CmpOp} {a b : CE} : evE G (.cmp op a b) r = (evE G a r).bind fun x r1 => (evE G b r1).bind fun y r2 => oS (dref r2 x) fun d => oS (dref r2 y) fun e => oS (cmpD op d e) fun k => .ok (.val false (.bool k)) r2 := by
  rw [evE]
  refine bind_ext fun x r1 => bind_ext fun y r2 => ?_
  cases dref r2 x with
  | none => cases dref r2 y <;> rfl
  | some d => cases dref r2 y with
    | none => rfl
    | some e =>
      show (match cmpD op d e with
      | some k => Rs.ok (R.val false (.bool k)) r2
      | none => .stuck) = oS (cmpD op d e) _
      cases cmpD op d e <;> rfl
@[simp] theorem e_chn {op1 op2 : CmpOp} {a b c : CE} : evE G (.chn op1 op2 a b c) r = (evE G a r).bind fun x r1 => (evE G b r1).bind fun y r2 => oS (dref r2 x) fun d => oS (dref r2 y) fun e => oS (cmpD op1 d e) fun k => bS k
    ((evE G c r2).bind fun z r3 => oS (dref r3 y) fun e' => oS (dref r3 z) fun f => oS (cmpD op2 e' f) fun k => .ok (.val false (.bool k)) r3) (.ok (.val false (.bool false)) r2) := by
  rw [evE]
  refine bind_ext fun x r1 => bind_ext fun y r2 => ?_
  cases dref r2 x with
  | none => cases dref r2 y <;> rfl
  | some d => cases dref r2 y with
    | none => rfl
    | some e =>
      simp only [oS_some, tick_off]
      cases cmpD op1 d e with
      | none => rfl
      | some k => cases k with
        | false => rfl
        | true =>
          simp only [oS_some, bS_true, tick_off]
          refine bind_ext fun z r3 => ?_
          cases dref r3 y with
          | none => cases dref r3 z <;> rfl
          | some d => cases dref r3 z with
            | none => rfl
            | some e =>
              simp only [oS_some, tick_off]
              cases cmpD op2 d e <;> rfl
@[simp] theorem e_and {a b : CE} : evE G (.and a b) r = (evE G a r).bind fun x r1 => oS (oO (dref r1 x) truD) fun k => bS k (evE G b r1) (.ok x r1) := by
  rw [evE]
  refine bind_ext fun x r1 => ?_
  cases dref r1 x with
  | none => rfl
  | some d =>
    simp only [Option.bind_some, oO_some, tick_off]
    cases truD d with
    | none => rfl
    | some k => cases k <;> rfl
@[simp] theorem e_or {a b : CE} : evE G (.or a b) r = (evE G a r).bind fun x r1 => oS (oO (dref r1 x) truD) fun k => bS k (.ok x r1) (evE G b r1) := by
  rw [evE]
  refine bind_ext fun x r1 => ?_
  cases dref r1 x with
  | none => rfl
  | some d =>
    simp only [Option.bind_some, oO_some, tick_off]
    cases truD d with
    | none => rfl
    | some k => cases k <;> rfl
@[simp] theorem e_not {a : CE} : evE G (.not a) r = (evE G a r).bind fun x r1 => oS (oO (dref r1 x) truD) fun k => .ok (.val false (.bool (!k))) r1 := by
  rw [evE]
  refine bind_ext fun x r1 => ?_
  cases dref r1 x with
  | none => rfl
  | some d =>
    simp only [Option.bind_some, oO_some, tick_off]
    cases truD d <;> rfl
@[simp] theorem e_ife {c : CT} {a b : CE} : evE G (.ife c a b) r = (evT G c r).bind fun k r1 => bS k (evE G a r1) (evE G b r1) := by
  rw [evE]
  refine bind_ext fun k r1 => ?_
  cases k <;> rfl
@[simp] theorem e_idx {a i : CE} : evE G (.idx a i) r = (evE G a r).bind fun x r1 => (evE G i r1).bind fun y r2 => oS (dref r2 x) fun d => oS (dref r2 y) fun e => oS (idxD d e) fun v => .ok (.val false v) r2 := by
  rw [evE]
  refine bind_ext fun x r1 => bind_ext fun y r2 => ?_
  cases dref r2 x with
  | none => cases dref r2 y <;> rfl
  | some d => cases dref r2 y with
    | none => rfl
    | some e =>
      simp only [oS_some, tick_off]
      cases idxD d e <;> rfl
@[simp] theorem e_sli {a : CE} {lo hi : CEo} : evE G (.sli a lo hi) r = (evE G a r).bind fun x r1 => (evO G lo r1).bind fun l r2 => (evO G hi r2).bind fun h r3 => oS (dref r3 x) fun d => optR r3 (sliD d l h) := by
  rw [evE]
  refine bind_ext fun x r1 => bind_ext fun l r2 => bind_ext fun h r3 => ?_
  cases dref r3 x <;> rfl
@[simp] theorem e_call {k : Nat} {es : CEs} : evE G (.call k es) r = (evEs G es r).bind fun xs r1 => callR G k xs r1 := by rw [evE] <;> rfl
@[simp] theorem e_callv {i : Nat} {es : CEs} : evE G (.callv i es) r = oS (svF r[i]?) fun q => gS ((G.sig q.1).all (!·) = true ∧ G.sig q.1 ≠ []) ((evEs G es r).bind fun xs r1 => clR G q.1 q.2 xs r1) := by
  rw [evE]
  cases r[i]? with
  | none => rfl
  | some x => cases x with
    | none => rfl
    | some y => cases y with
      | fn k ds =>
        show ite _ _ _ = gS _ _
        unfold gS
        split
        · refine bind_ext fun xs r1 => ?_
          cases ds with
          | nil => rfl
          | cons d ds =>
            show (match takes r1 xs with | some (dd, r2) => _ | none => _) = oS (takes r1 xs) _
            cases takes r1 xs with
            | none => rfl
            | some q =>
              show (match G.call k ((q.1 ++ d :: ds).map .val) with | .ok o d _ => _ | _ => _) = crV (G.call k ((q.1 ++ d :: ds).map .val)) q.2
              cases G.call k ((q.1 ++ d :: ds).map .val) <;> rfl
        · rfl
      | _ => rfl
@[simp] theorem e_callL {k : Nat} {as : List LA} : evE G (.callL k as) r = gS ((G.sig k).all (!·) = true ∧ as.length = (G.sig k).length) (oS (laVs G r as) fun ags => crV (G.call k ags) r) := by
  rw [evE]
  unfold gS
  split
  · cases laVs G r as with
    | none => rfl
    | some ags =>
      show (match G.call k ags with | .ok o d _ => _ | _ => _) = crV (G.call k ags) r
      cases G.call k ags <;> rfl
  · rfl
@[simp] theorem e_dic1 {k v : CE} : evE G (.dic1 k v) r = (evE G k r).bind fun x r1 => (evE G v r1).bind fun y r2 => oS (takes r2 [x, y]) fun q => dicM q.1 q.2 := by
  rw [evE]
  refine bind_ext fun x r1 => bind_ext fun y r2 => ?_
  cases takes r2 [x, y] with
  | none => rfl
  | some q =>
    obtain ⟨ds, r3⟩ := q
    rcases ds with _ | ⟨a, _ | ⟨b, _ | ⟨c, ds⟩⟩⟩ <;> rfl
@[simp] theorem callR_sv {k : Nat} {rs : List R} : callR G k rs r = oS (passA r [] (G.sig k) rs) fun p => crS (G.call k p.1) p.2.1 p.2.2 := by
  unfold callR
  cases passA r [] (G.sig k) rs with
  | none => rfl
  | some p =>
    simp only [oS_some, tick_off]
    cases G.call k p.1 with
    | ok o d refs =>
      simp only [crS_ok, tick_off]
      cases putRefs p.2.2 p.2.1 refs <;> rfl
    | fn k l refs =>
      simp only [crS_fn, tick_off]
      cases putRefs p.2.2 p.2.1 refs <;> rfl
    | exc x refs =>
      simp only [crS_exc, tick_off]
      cases putRefs p.2.2 p.2.1 refs <;> rfl
    | stuck => rfl
@[simp] theorem pass_nil {used : List Nat} : passA r used [] [] = some ([], [], r) := by rw [passA]
@[simp] theorem pass_fn {used : List Nat} {bs : List Bool} {k : Nat} {cs : List D} {xs : List R} : passA r used (false :: bs) (.fn k cs :: xs) = oO (passA r used bs xs) fun p => some (.fn k cs :: p.1, p.2.1, p.2.2) := by
  rw [passA]
  cases passA r used bs xs <;> rfl
@[simp] theorem pass_val {used : List Nat} {bs : List Bool} {o : Bool} {d : D} {xs : List R} : passA r used (false :: bs) (.val o d :: xs) = oO (passA r used bs xs) fun p => some (.val d :: p.1, p.2.1, p.2.2) := by
  rw [passA]
  cases passA r used bs xs <;> rfl
@[simp] theorem pass_sl {used : List Nat} {bs : List Bool} {i : Nat} {xs : List R} : passA r used (false :: bs) (.sl i :: xs) = gO (¬ i ∈ used) (oO (take r (.sl i)) fun q => oO (passA q.2 used bs xs) fun p => some (.val q.1 :: p.1, p.2.1, p.2.2)) := by
  rw [passA]
  unfold gO
  by_cases h : i ∈ used
  · rw [if_pos h, if_neg (fun q => q h)]
  · rw [if_neg h, if_pos h]
    cases take r (.sl i) with
    | none => rfl
    | some q =>
      simp only [oO_some, tick_off]
      cases passA q.2 used bs xs <;> rfl
@[simp] theorem pass_rf {used : List Nat} {bs : List Bool} {i : Nat} {xs : List R} : passA r used (true :: bs) (.sl i :: xs) = gO (¬ i ∈ used) (oO (svO r[i]?) fun d => oO (passA r (i :: used) bs xs) fun p => some (.rf d :: p.1, i :: p.2.1, p.2.2)) := by
  rw [passA]
  unfold gO
  by_cases h : i ∈ used
  · rw [if_pos h, if_neg (fun q => q h)]
  · rw [if_neg h, if_pos h]
    cases r[i]? with
    | none => rfl
    | some x => cases x with
      | none => rfl
      | some y => cases y with
        | dat o d => cases o with
          | false => rfl
          | true =>
            simp only [svO_d, oO_some, tick_off]
            cases passA r (i :: used) bs xs <;> rfl
        | _ => rfl
@[simp] theorem e_blt {b : Blt} {es : CEs} : evE G (.blt b es) r = (evEs G es r).bind fun xs r1 => oS (drefs r1 xs) fun ds => optR r1 (bltD b ds) := by
  rw [evE]
  refine bind_ext fun xs r1 => ?_
  cases drefs r1 xs <;> rfl
@[simp] theorem e_rng0 {es : CEs} : evE G (.rng false es) r = (evEs G es r).bind fun xs r1 => oS (drefs r1 xs) fun ds => oS (rngD ds) fun is => gS (rngFew ds = true) (.ok (.val true (.list is)) r1) := by
  rw [evE]
  refine bind_ext fun xs r1 => ?_
  cases drefs r1 xs with
  | none => rfl
  | some ds =>
    simp only [oS_some, tick_off]
    cases rngD ds <;> rfl
@[simp] theorem e_rng1 {es : CEs} : evE G (.rng true es) r = (evEs G es r).bind fun xs r1 => oS (drefs r1 xs) fun ds => oS (rngD ds) fun is => gS (rngFew ds = true) (.ok (.val false (.tuple is)) r1) := by
  rw [evE]
  refine bind_ext fun xs r1 => ?_
  cases drefs r1 xs with
  | none => rfl
  | some ds =>
    simp only [oS_some, tick_off]
    cases rngD ds <;> rfl
@[simp] theorem e_isin {a : CE} {t : String} : evE G (.isin a t) r = (evE G a r).bind fun x r1 => oS (dref r1 x) fun d => oS (isTyD d t) fun k => .ok (.val false (.bool k)) r1 := by
  rw [evE]
  refine bind_ext fun x r1 => ?_
  cases dref r1 x with
  | none => rfl
  | some d =>
    simp only [oS_some, tick_off]
    cases isTyD d t <;> rfl
@[simp] theorem e_meth {m : Meth} {o : CE} {es : CEs} : evE G (.meth m o es) r = (evE G o r).bind fun x r1 => oS (dref r1 x) fun d0 => gS (methT m d0 ≠ "") ((evEs G es r1).bind fun xs r2 => oS (dref r2 x) fun d => oS (drefs r2 xs) fun ds => gS (tyName d0 = tyName d) (optR r2 (methD m d ds))) := by
  rw [evE]
  refine bind_ext fun x r1 => ?_
  cases dref r1 x with
  | none => rfl
  | some d0 =>
    simp only [oS_some, tick_off]
    unfold gS
    by_cases h : methT m d0 = ""
    · rw [if_pos h, if_neg (fun q => q h)]
    · rw [if_neg h, if_pos h]
      refine bind_ext fun xs r2 => ?_
      cases dref r2 x with
      | none => cases drefs r2 xs <;> rfl
      | some d => cases drefs r2 xs <;> rfl
def seqL : D → Option (List D)
  | .list xs => some xs
  | _ => none
@[simp] theorem seqL_l {xs : List D} : seqL (.list xs) = some xs := same rfl
theorem mutF_sv {m : MMeth} {i : Nat} {xs : List R} {r1 : En} : mutF m i xs r1 = oS (takes r1 xs) fun p => oS (svO p.2[i]?) fun d => oS (mutD m d p.1) fun q => .ok (.val false q.1) (p.2.set i (some (.dat true q.2))) := by
  unfold mutF
  cases takes r1 xs with
  | none => rfl
  | some p =>
    simp only [oS_some, tick_off]
    cases p.2[i]? with
    | none => rfl
    | some x => cases x with
      | none => rfl
      | some y => cases y with
        | dat o d => cases o with
          | false => rfl
          | true =>
            simp only [svO_d, oS_some, tick_off]
            cases mutD m d p.1 <;> rfl
        | _ => rfl
@[simp] theorem mutR_append {i : Nat} {xs : List R} {r1 : En} : mutR .append i xs r1 = oS (takes r1 xs) fun p => oS (svO p.2[i]?) fun d => oS (mutD .append d p.1) fun q => .ok (.val false q.1) (p.2.set i (some (.dat true q.2))) := mutF_sv
@[simp] theorem mutR_pop {i : Nat} {xs : List R} {r1 : En} : mutR .pop i xs r1 = oS (takes r1 xs) fun p => oS (svO p.2[i]?) fun d => oS (mutD .pop d p.1) fun q => .ok (.val false q.1) (p.2.set i (some (.dat true q.2))) := mutF_sv
@[simp] theorem mutR_popAt {i : Nat} {xs : List R} {r1 : En} : mutR .popAt i xs r1 = oS (takes r1 xs) fun p => oS (svO p.2[i]?) fun d => oS (mutD .popAt d p.1) fun q => .ok (.val false q.1) (p.2.set i (some (.dat true q.2))) := mutF_sv
@[simp] theorem mutR_extend {i : Nat} {zs : List D} {r1 : En} : mutR .extend i [.val true (.list zs)] r1 = oS (oO (svO r1[i]?) seqL) fun ys => gS (ys.length + zs.length ≤ 16777216) (.ok (.val false .none) (r1.set i (some (.dat true (.list (ys ++ zs)))))) := by
  show extR i zs r1 = _
  unfold extR
  cases r1[i]? with
  | none => rfl
  | some x => cases x with
    | none => rfl
    | some y => cases y with
      | dat o d => cases o with
        | false => rfl
        | true => cases d with
          | list ys => 
            simp only [svO_d, oO_some, seqL_l, oS_some]
            unfold gS
            rw [sizeLine_eq]
          | _ => rfl
      | _ => rfl
@[simp] theorem e_mut {m : MMeth} {i : Nat} {es : CEs} : evE G (.mut m i es) r = oS (svL r[i]?) fun _ => (evEs G es r).bind fun xs r1 => mutR m i xs r1 := by
  rw [evE]
  cases hr : r[i]? with
  | none => rfl
  | some x => cases x with
    | none => rfl
    | some y => cases y with
      | dat o d => cases o with
        | false => rfl
        | true => cases d with
          | list xs =>
            simp only [svL_l, oS_some, tick_off]
          | _ => rfl
      | _ => rfl
@[simp] theorem e_nil : evEs G .nil r = .ok [] r := by rw [evEs]
@[simp] theorem e_cons {e : CE} {es : CEs} : evEs G (.cons e es) r = (evE G e r).bind fun x r1 => (evEs G es r1).bind fun xs r2 => .ok (x :: xs) r2 := by rw [evEs] <;> rfl
@[simp] theorem o_non : evO G .non r = .ok none r := by rw [evO]
@[simp] theorem o_som {e : CE} : evO G (.som e) r = (evE G e r).bind fun x r1 => oS (rInt x) fun i => .ok (some i) r1 := by
  rw [evO]
  refine bind_ext fun x r1 => ?_
  cases x with
  | val o d => cases d <;> rfl
  | _ => rfl
@[simp] theorem c_non : evC G .non r = .ok true r := by rw [evC]
@[simp] theorem c_som {e : CT} : evC G (.som e) r = evT G e r := by rw [evC]
@[simp] theorem t_and {a b : CT} : evT G (.and a b) r = (evT G a r).bind fun k r1 => bS k (evT G b r1) (.ok false r1) := by
  rw [evT]
  refine bind_ext fun k r1 => ?_
  cases k <;> rfl
@[simp] theorem t_or {a b : CT} : evT G (.or a b) r = (evT G a r).bind fun k r1 => bS k (.ok true r1) (evT G b r1) := by
  rw [evT]
  refine bind_ext fun k r1 => ?_
  cases k <;> rfl
@[simp] theorem t_not {a : CT} : evT G (.not a) r = (evT G a r).bind fun k r1 => .ok (!k) r1 := by rw [evT] <;> rfl
@[simp] theorem t_ex {e : CE} : evT G (.ex e) r = (evE G e r).bind fun x r1 => oS (oO (dref r1 x) truD) fun k => .ok k r1 := by
  rw [evT]
  refine bind_ext fun x r1 => ?_
  cases dref r1 x with
  | none => rfl
  | some d =>
    simp only [Option.bind_some, oO_some, tick_off]
    cases truD d <;> rfl
@[simp] theorem i_seq {e : CE} : evI G (.seq e) r = (evE G e r).bind fun x r1 => oS (take r1 x) fun p => oS (seqOf p.1) fun xs => .ok xs p.2 := by
  rw [evI]
  refine bind_ext fun x r1 => ?_
  cases take r1 x with
  | none => rfl
  | some p =>
    simp only [oS_some, tick_off]
    cases seqOf p.1 <;> rfl
@[simp] theorem i_rng {es : CEs} : evI G (.rng es) r = (evEs G es r).bind fun xs r1 => oS (drefs r1 xs) fun ds => oS (rngD ds) fun is => .ok is r1 := by
  rw [evI]
  refine bind_ext fun xs r1 => ?_
  cases drefs r1 xs with
  | none => rfl
  | some ds =>
    simp only [oS_some, tick_off]
    cases rngD ds <;> rfl
def one_ : List D → Option D
  | [d] => some d
  | _ => none
def two_ : List D → Option (D × D)
  | [d, e] => some (d, e)
  | _ => none
@[simp] theorem one_is {d : D} : one_ [d] = some d := same rfl
@[simp] theorem two_is {d e : D} : two_ [d, e] = some (d, e) := same rfl
@[simp] theorem i_enum {es : CEs} : evI G (.enum es) r = (evEs G es r).bind fun xs r1 => oS (takes r1 xs) fun p => oS (one_ p.1) fun d => oS (seqOf d) fun ys => .ok (enumT 0 ys) p.2 := by
  rw [evI]
  refine bind_ext fun xs r1 => ?_
  cases takes r1 xs with
  | none => rfl
  | some p =>
    obtain ⟨ds, r2⟩ := p
    simp only [oS_some, tick_off]
    match ds with
    | [] => rfl
    | [d] =>
      simp only [one_is, oS_some, tick_off]
      cases seqOf d <;> rfl
    | _ :: _ :: _ => rfl
@[simp] theorem i_zip {es : CEs} : evI G (.zip es) r = (evEs G es r).bind fun xs r1 => oS (takes r1 xs) fun p => oS (two_ p.1) fun d => oS (zipD d.1 d.2) fun ys => .ok ys p.2 := by
  rw [evI]
  refine bind_ext fun xs r1 => ?_
  cases takes r1 xs with
  | none => rfl
  | some p =>
    obtain ⟨ds, r2⟩ := p
    simp only [oS_some, tick_off]
    match ds with
    | [] => rfl
    | [d] => rfl
    | [d, e] =>
      simp only [two_is, oS_some, tick_off]
      cases zipD d e <;> rfl
    | _ :: _ :: _ :: _ => rfl
@[simp] theorem seqOf_list {xs : List D} : seqOf (.list xs) = some xs := same rfl
@[simp] theorem seqOf_tuple {xs : List D} : seqOf (.tuple xs) = some xs := same rfl
@[simp] theorem truD_bool {b : Bool} : truD (.bool b) = some b := same rfl
@[simp] theorem bindT_nm {d : D} {i : Nat} : bindT d r (.nm i) = gO (i < r.length) (some (r.set i (some (.dat false d)))) := by rw [bindT]; rfl
@[simp] theorem bindT_tup {ds : List D} {ts : List Tg} : bindT (.tuple ds) r (.tup ts) = bindTs ds r ts := by rw [bindT]
@[simp] theorem bindTs_nil : bindTs [] r [] = some r := by rw [bindTs]
@[simp] theorem bindTs_cons {d : D} {ds : List D} {t : Tg} {ts : List Tg} : bindTs (d :: ds) r (t :: ts) = oO (bindT d r t) fun r1 => bindTs ds r1 ts := by
  rw [bindTs]
  show (match bindT d r t with
      | some r1 => bindTs ds r1 ts
      | none => none) = _
  cases bindT d r t <;> rfl
@[simp] theorem wipeE_nil : wipeE r [] = r := same rfl
@[simp] theorem wipeE_cons {v : Nat} {vs : List Nat} : wipeE r (v :: vs) = (wipeE r vs).set v none := same rfl
@[simp] theorem backE_nil {r0 : En} : backE r0 r [] = r := same rfl
@[simp] theorem backE_cons {r0 : En} {v : Nat} {vs : List Nat} : backE r0 r (v :: vs) = (backE r0 r vs).set v ((r0[v]?).getD none) := same rfl
@[simp] theorem s_ret {e : CE} : evS G (.ret e) r = (evE G e r).so fun x r1 => .ret x r1 := by rw [evS]
@[simp] theorem s_retN : evS G .retN r = .ret (.val false .none) r := by rw [evS]
@[simp] theorem s_ex {e : CE} : evS G (.ex e) r = (evE G e r).so fun _ r1 => .nx r1 := by rw [evS]
@[simp] theorem s_set {i : Nat} {e : CE} : evS G (.set i e) r = (evE G e r).so fun x r1 => oX (putSlot i x r1) fun r2 => .nx r2 := by
  rw [evS]
  refine so_ext fun x r1 => ?_
  cases putSlot i x r1 <;> rfl
@[simp] theorem s_par {is : List Nat} {es : CEs} : evS G (.par is es) r = (evEs G es r).so fun xs r1 => oX (settle r1 xs) fun p => oX (putPar is p.1 p.2) fun r3 => .nx r3 := by
  rw [evS]
  refine so_ext fun xs r1 => ?_
  cases settle r1 xs with
  | none => rfl
  | some p =>
    simp only [oX_some, tick_off]
    cases putPar is p.1 p.2 <;> rfl
@[simp] theorem s_asg {t : TX} {e : CE} : evS G (.asg t e) r = (evE G e r).so fun x r1 => oX (take r1 x) fun p => (evX G t p.1 p.2).so fun _ r3 => .nx r3 := by
  rw [evS]
  refine so_ext fun x r1 => ?_
  cases take r1 x <;> rfl
@[simp] theorem s_ite {t : CT} {a b : CSs} : evS G (.ite t a b) r = (evT G t r).so fun k r1 => bX k (evSs G a r1) (evSs G b r1) := by
  rw [evS]
  refine so_ext fun k r1 => ?_
  cases k <;> rfl
@[simp] theorem s_whl {t : CT} {b : CSs} : evS G (.whl t b) r = whileF (evT G t) (evSs G b) G.fuel r := by rw [evS]
@[simp] theorem s_for {tg : Tg} {it : CI} {b : CSs} : evS G (.for tg it b) r = (evI G it r).so fun xs r1 => forF (fun d r => bindT d r tg) (evSs G b) xs r1 := by rw [evS]
@[simp] theorem s_pass : evS G .pass r = .nx r := by rw [evS]
@[simp] theorem s_brk : evS G .brk r = .brk r := by rw [evS]
@[simp] theorem s_cont : evS G .cont r = .cont r := by rw [evS]
@[simp] theorem s_rais {c : Nat} {es : CEs} : evS G (.rais c es) r = (evEs G es r).so fun xs r1 => oX (takes r1 xs) fun p => oX (G.exf c) fun fs => .exc ⟨c, fs.zip p.1⟩ p.2 := by
  rw [evS]
  refine so_ext fun xs r1 => ?_
  cases takes r1 xs with
  | none => rfl
  | some p =>
    simp only [oX_some, tick_off]
    cases G.exf c <;> rfl
/-- what a try makes of its body's end -/
def tryX (h : Ex → En → So) : So → So
  | .exc x r => h x r
  | o => o
@[simp] theorem tryX_exc {h : Ex → En → So} {x : Ex} : tryX h (.exc x r) = h x r := same rfl
@[simp] theorem tryX_nx {h : Ex → En → So} : tryX h (.nx r) = .nx r := same rfl
@[simp] theorem tryX_ret {h : Ex → En → So} {x : R} : tryX h (.ret x r) = .ret x r := same rfl
@[simp] theorem s_try {b : CSs} {hs : Hds} : evS G (.try_ b hs) r = tryX (evH G hs) (evSs G b r) := by
  rw [evS]
  cases evSs G b r <;> rfl
/-- a handler may not raise -/
def noX : So → So
  | .exc _ _ => .stuck
  | o => o
@[simp] theorem noX_nx : noX (.nx r) = .nx r := same rfl
@[simp] theorem noX_ret {x : R} : noX (.ret x r) = .ret x r := same rfl
@[simp] theorem h_cons {c : Nat} {b : CSs} {hs : Hds} {x : Ex} : evH G (.cons c none b hs) x r = oX (G.sub x.cls c) fun k => bX k (noX (evSs G b r)) (evH G hs x r) := by
  rw [evH]
  cases G.sub x.cls c with
  | none => rfl
  | some k => cases k with
    | false => rfl
    | true =>
      simp only [oX_some, bX_true, tick_off]
      cases evSs G b r <;> rfl
@[simp] theorem h_nil {x : Ex} : evH G .nil x r = .exc x r := by rw [evH]
@[simp] theorem ss_nil : evSs G .nil r = .nx r := by rw [evSs]
@[simp] theorem ss_cons {s : CS} {ss : CSs} : evSs G (.cons s ss) r = (evS G s r).then fun r1 => evSs G ss r1 := by rw [evSs]
@[simp] theorem x_nm {i : Nat} {d : D} : evX G (.nm i) d r = gS (i < r.length) (.ok () (r.set i (some (.dat false d)))) := by rw [evX]; rfl
@[simp] theorem x_sub {i : Nat} {ix : CE} {d : D} : evX G (.sub i ix) d r = oS (svO r[i]?) fun _ => (evE G ix r).bind fun x r1 => oS (dref r1 x) fun k => oS (svO r1[i]?) fun c => oS (setD c k d) fun c' => .ok () (r1.set i (some (.dat true c'))) := by
  rw [evX]
  have key : ∀ (x : R) (r1 : En), (match dref r1 x with
      | some k => match r1[i]? with
        | some (some (.dat true c)) => match setD c k d with
          | some c' => Rs.ok () (r1.set i (some (.dat true c')))
          | none => .stuck
        | _ => .stuck
      | none => .stuck) = oS (dref r1 x) fun k => oS (svO r1[i]?) fun c => oS (setD c k d) fun c' => .ok () (r1.set i (some (.dat true c'))) := by
    intro x r1
    cases dref r1 x with
    | none => rfl
    | some k =>
      simp only [oS_some, tick_off]
      cases r1[i]? with
      | none => rfl
      | some x => cases x with
        | none => rfl
        | some y => cases y with
          | dat o c => cases o with
            | false => rfl
            | true =>
              simp only [svO_d, oS_some, tick_off]
              cases setD c k d <;> rfl
          | _ => rfl
  cases r[i]? with
  | none => rfl
  | some x => cases x with
    | none => rfl
    | some y => cases y with
      | dat o c => cases o with
        | false => rfl
        | true =>
          simp only [svO_d, oS_some, tick_off]
          exact bind_ext key
      | _ => rfl
@[simp] theorem putSlot_val {i : Nat} {o : Bool} {d : D} : putSlot i (.val o d) r = gO (i < r.length) (some (r.set i (some (.dat o d)))) := same rfl
@[simp] theorem putSlot_fn {i : Nat} {k : Nat} {ds : List D} : putSlot i (.fn k ds) r = gO (i < r.length) (some (r.set i (some (.fn k ds)))) := same rfl
@[simp] theorem putSlot_sl {i j : Nat} : putSlot i (.sl j) r = gO (i < r.length) (oO (svD r[j]?) fun d => some ((r.set j (some (.dat false d))).set i (some (.dat false d)))) := by
  unfold putSlot gO
  by_cases h : i < r.length
  · rw [if_pos h, if_pos h]
    show (match r[j]? with
      | some (some (.dat _ d)) => some ((r.set j (some (.dat false d))).set i (some (.dat false d)))
      | _ => none) = _
    cases r[j]? with
    | none => rfl
    | some x => cases x with
      | none => rfl
      | some y => cases y <;> rfl
  · rw [if_neg h, if_neg h]
@[simp] theorem settle_nil : settle r [] = some ([], r) := same rfl
@[simp] theorem settle_val {o : Bool} {d : D} {xs : List R} : settle r (.val o d :: xs) = oO (settle r xs) fun p => some (.val o d :: p.1, p.2) := by
  show (match settle r xs with
    | some (ys, r1) => some (R.val o d :: ys, r1)
    | none => none) = _
  cases settle r xs <;> rfl
@[simp] theorem settle_sl {i : Nat} {xs : List R} : settle r (.sl i :: xs) = oO (take r (.sl i)) fun q => oO (settle q.2 xs) fun p => some (.val false q.1 :: p.1, p.2) := by
  show (match take r (.sl i) with
    | some (d, r1) => match settle r1 xs with
      | some (ys, r2) => some (R.val false d :: ys, r2)
      | none => none
    | none => none) = _
  cases take r (.sl i) with
  | none => rfl
  | some q =>
    simp only [oO_some, tick_off]
    cases settle q.2 xs <;> rfl
@[simp] theorem putPar_nil : putPar [] [] r = some r := same rfl
@[simp] theorem putPar_cons {i : Nat} {is : List Nat} {o : Bool} {d : D} {xs : List R} : putPar (i :: is) (.val o d :: xs) r = gO (i < r.length) (putPar is xs (r.set i (some (.dat o d)))) := same rfl
@[simp] theorem putRefs_nil : putRefs r [] [] = some r := same rfl
@[simp] theorem putRefs_cons {i : Nat} {is : List Nat} {d : D} {ds : List D} : putRefs r (i :: is) (d :: ds) = putRefs (r.set i (some (.dat true d))) is ds := same rfl
@[simp] theorem gs_call {P : Prg} {c : Nat → List Ag → Cr} : (P.gs c).call = c := same rfl
@[simp] theorem gs_fuel {P : Prg} {c : Nat → List Ag → Cr} : (P.gs c).fuel = 1000000 := same rfl
end
end E2
namespace E2
open PySem L2
@[simp] theorem sizeLine_num : sizeLine = 16777216 := sizeLine_eq
@[simp] theorem rngD_one {n : Nat} (h : n ≤ 16777216) : rngD [.int n] = some ((List.range n).map dn) := by
  have e : rngOk 0 n = true := by
    unfold rngOk
    exact decide_eq_true ⟨by omega, by omega, by omega, by omega⟩
  show (if rngOk 0 n = true then some (rngI 0 n) else none) = _
  rw [if_pos e, rngI_zero]
@[simp] theorem rngFew_one {n : Nat} (h : n ≤ 16777216) : rngFew [.int n] = true := by
  unfold rngFew
  exact decide_eq_true (by omega)
theorem rngD_two {a b : Nat} (h : b ≤ 16777216) (h' : a ≤ 16777216) : rngD [.int a, .int b] = some ((List.range (b - a)).map fun i => dn (a + i)) := by
  have e : rngOk a b = true := by
    unfold rngOk
    exact decide_eq_true ⟨by omega, by omega, by omega, by omega⟩
  show (if rngOk a b = true then some (rngI a b) else none) = _
  rw [if_pos e, rngI_nat]
@[simp] theorem idxD_list {xs : List D} {n : Nat} : idxD (.list xs) (.int n) = xs[n]? := atI_nat xs n
@[simp] theorem idxD_tuple {xs : List D} {n : Nat} : idxD (.tuple xs) (.int n) = xs[n]? := atI_nat xs n
@[simp] theorem setD_nat {xs : List D} {n : Nat} {v : D} (h : n < xs.length) : setD (.list xs) (.int n) v = some (.list (xs.set n v)) := by
  show (ixN xs.length n).map (fun j => PyData.list (xs.set j v)) = _
  rw [ixN_nat h]; rfl
@[simp] theorem blt_len_list {xs : List D} : bltD .len [.list xs] = some (false, .int xs.length) := same rfl
@[simp] theorem blt_len_tuple {xs : List D} : bltD .len [.tuple xs] = some (false, .int xs.length) := same rfl
@[simp] theorem blt_tuple_list {xs : List D} : bltD .tuple [.list xs] = some (false, .tuple xs) := same rfl
@[simp] theorem blt_tuple_tuple {xs : List D} : bltD .tuple [.tuple xs] = some (false, .tuple xs) := same rfl
@[simp] theorem blt_list_list {xs : List D} : bltD .list [.list xs] = some (true, .list xs) := same rfl
@[simp] theorem blt_list_tuple {xs : List D} : bltD .list [.tuple xs] = some (true, .list xs) := same rfl
@[simp] theorem bin_add {i j : Int} : binD .Add (.int i) (.int j) = some (false, .int (i + j)) := same rfl
@[simp] theorem bin_sub {i j : Int} : binD .Sub (.int i) (.int j) = some (false, .int (i - j)) := same rfl
end E2
namespace E2
open PySem L2
section
variable {G : Gs} {r : En} {P : Pt} {X : Ex → En → Prop}
@[simp ↓] theorem w_e_var {i : Nat} {Q : R → En → Prop} : (evE G (.var i) r).w Q X ↔ (oS (svR i r[i]?) fun x => .ok x r : Rs (R)).w Q X := by rw [e_var]
@[simp ↓] theorem w_e_cst {d : D} {Q : R → En → Prop} : (evE G (.cst d) r).w Q X ↔ (.ok (.val false d) r : Rs (R)).w Q X := by rw [e_cst]
@[simp ↓] theorem w_e_gc {g : Nat} {Q : R → En → Prop} : (evE G (.gc g) r).w Q X ↔ (oS (G.gcs g) fun d => .ok (.val false d) r : Rs (R)).w Q X := by rw [e_gc]
@[simp ↓] theorem w_e_fnv {k : Nat} {Q : R → En → Prop} : (evE G (.fnv k) r).w Q X ↔ (.ok (.fn k []) r : Rs (R)).w Q X := by rw [e_fnv]
@[simp ↓] theorem w_e_tup {es : CEs} {Q : R → En → Prop} : (evE G (.tup es) r).w Q X ↔ ((evEs G es r).bind fun xs r1 => oS (takes r1 xs) fun p => gS (p.1.length ≤ 16777216) (.ok (.val false (.tuple p.1)) p.2) : Rs (R)).w Q X := by rw [e_tup]
@[simp ↓] theorem w_e_lst {es : CEs} {Q : R → En → Prop} : (evE G (.lst es) r).w Q X ↔ ((evEs G es r).bind fun xs r1 => oS (takes r1 xs) fun p => gS (p.1.length ≤ 16777216) (.ok (.val true (.list p.1)) p.2) : Rs (R)).w Q X := by rw [e_lst]
@[simp ↓] theorem w_e_dic0 {Q : R → En → Prop} : (evE G .dic0 r).w Q X ↔ (.ok (.val true (.dict [])) r : Rs (R)).w Q X := by rw [e_dic0]
@[simp ↓] theorem w_e_bin {op : Operator} {a b : CE} {Q : R → En → Prop} : (evE G (.bin op a b) r).w Q X ↔ ((evE G a r).bind fun x r1 => (evE G b r1).bind fun y r2 => oS (dref r2 x) fun d => oS (dref r2 y) fun e => optR r2 (binD op d e) : Rs (R)).w Q X := by rw [e_bin]
@[simp ↓] theorem w_e_rep {a b : CE} {Q : R → En → Prop} : (evE G (.rep a b) r).w Q X ↔ ((evE G a r).bind fun x r1 => (evE G b r1).bind fun y r2 => repR r2 x y : Rs (R)).w Q X := by rw [e_rep]
@[simp ↓] theorem w_e_neg {a : CE} {Q : R → En → Prop} : (evE G (.neg a) r).w Q X ↔ ((evE G a r).bind fun x r1 => oS (rInt x) fun i => .ok (.val false (.int (-i))) r1 : Rs (R)).w Q X := by rw [e_neg]
@[simp ↓] theorem w_e_cmp {op : CmpOp} {a b : CE} {Q : R → En → Prop} : (evE G (.cmp op a b) r).w Q X ↔ ((evE G a r).bind fun x r1 => (evE G b r1).bind fun y r2 => oS (dref r2 x) fun d => oS (dref r2 y) fun e => oS (cmpD op d e) fun k => .ok (.val false (.bool k)) r2 : Rs (R)).w Q X := by rw [e_cmp]
@[simp ↓] theorem w_e_chn {op1 op2 : CmpOp} {a b c : CE} {Q : R → En → Prop} : (evE G (.chn op1 op2 a b c) r).w Q X ↔ ((evE G a r).bind fun x r1 => (evE G b r1).bind fun y r2 => oS (dref r2 x) fun d => oS (dref r2 y) fun e => oS (cmpD op1 d e) fun k => bS k
    ((evE G c r2).bind fun z r3 => oS (dref r3 y) fun e' => oS (dref r3 z) fun f => oS (cmpD op2 e' f) fun k => .ok (.val false (.bool k)) r3) (.ok (.val false (.bool false)) r2) : Rs (R)).w Q X := by rw [e_chn]
@[simp ↓] theorem w_e_and {a b : CE} {Q : R → En → Prop} : (evE G (.and a b) r).w Q X ↔ ((evE G a r).bind fun x r1 => oS (oO (dref r1 x) truD) fun k => bS k (evE G b r1) (.ok x r1) : Rs (R)).w Q X := by rw [e_and]
@[simp ↓] theorem w_e_or {a b : CE} {Q : R → En → Prop} : (evE G (.or a b) r).w Q X ↔ ((evE G a r).bind fun x r1 => oS (oO (dref r1 x) truD) fun k => bS k (.ok x r1) (evE G b r1) : Rs (R)).w Q X := by rw [e_or]
@[simp ↓] theorem w_e_not {a : CE} {Q : R → En → Prop} : (evE G (.not a) r).w Q X ↔ ((evE G a r).bind fun x r1 => oS (oO (dref r1 x) truD) fun k => .ok (.val false (.bool (!k))) r1 : Rs (R)).w Q X := by rw [e_not]
@[simp ↓] theorem w_e_ife {c : CT} {a b : CE} {Q : R → En → Prop} : (evE G (.ife c a b) r).w Q X ↔ ((evT G c r).bind fun k r1 => bS k (evE G a r1) (evE G b r1) : Rs (R)).w Q X := by rw [e_ife]
@[simp ↓] theorem w_e_idx {a i : CE} {Q : R → En → Prop} : (evE G (.idx a i) r).w Q X ↔ ((evE G a r).bind fun x r1 => (evE G i r1).bind fun y r2 => oS (dref r2 x) fun d => oS (dref r2 y) fun e => oS (idxD d e) fun v => .ok (.val false v) r2 : Rs (R)).w Q X := by rw [e_idx]
@[simp ↓] theorem w_e_sli {a : CE} {lo hi : CEo} {Q : R → En → Prop} : (evE G (.sli a lo hi) r).w Q X ↔ ((evE G a r).bind fun x r1 => (evO G lo r1).bind fun l r2 => (evO G hi r2).bind fun h r3 => oS (dref r3 x) fun d => optR r3 (sliD d l h) : Rs (R)).w Q X := by rw [e_sli]
@[simp ↓] theorem w_e_call {k : Nat} {es : CEs} {Q : R → En → Prop} : (evE G (.call k es) r).w Q X ↔ ((evEs G es r).bind fun xs r1 => callR G k xs r1 : Rs (R)).w Q X := by rw [e_call]
@[simp ↓] theorem w_e_callv {i : Nat} {es : CEs} {Q : R → En → Prop} : (evE G (.callv i es) r).w Q X ↔ (oS (svF r[i]?) fun q => gS ((G.sig q.1).all (!·) = true ∧ G.sig q.1 ≠ []) ((evEs G es r).bind fun xs r1 => clR G q.1 q.2 xs r1) : Rs (R)).w Q X := by rw [e_callv]
@[simp ↓] theorem w_clR_nil {k : Nat} {xs : List R} {Q : R → En → Prop} : (clR G k [] xs r).w Q X ↔ (callR G k xs r).w Q X := by rw [clR_nil]
@[simp ↓] theorem w_clR_cons {k : Nat} {d : D} {ds : List D} {xs : List R} {Q : R → En → Prop} : (clR G k (d :: ds) xs r).w Q X ↔ (oS (takes r xs) fun q => crV (G.call k ((q.1 ++ (d :: ds)).map .val)) q.2 : Rs R).w Q X := by rw [clR_cons]
@[simp ↓] theorem w_e_callL {k : Nat} {as : List LA} {Q : R → En → Prop} : (evE G (.callL k as) r).w Q X ↔ (gS ((G.sig k).all (!·) = true ∧ as.length = (G.sig k).length) (oS (laVs G r as) fun ags => crV (G.call k ags) r) : Rs R).w Q X := by rw [e_callL]
@[simp ↓] theorem w_e_dic1 {k v : CE} {Q : R → En → Prop} : (evE G (.dic1 k v) r).w Q X ↔ ((evE G k r).bind fun x r1 => (evE G v r1).bind fun y r2 => oS (takes r2 [x, y]) fun q => dicM q.1 q.2 : Rs R).w Q X := by rw [e_dic1]
@[simp ↓] theorem w_dicM {kk vv : D} {Q : R → En → Prop} : (dicM [kk, vv] r).w Q X ↔ (gS ((flatK kk || tupK kk) = true) (.ok (.val true (.dict [(kk, vv)])) r) : Rs R).w Q X := by rw [dicM_2]
@[simp ↓] theorem w_callR_sv {k : Nat} {rs : List R} {Q : R → En → Prop} : (callR G k rs r).w Q X ↔ (oS (passA r [] (G.sig k) rs) fun p => crS (G.call k p.1) p.2.1 p.2.2 : Rs (R)).w Q X := by rw [callR_sv]
@[simp ↓] theorem w_e_blt {b : Blt} {es : CEs} {Q : R → En → Prop} : (evE G (.blt b es) r).w Q X ↔ ((evEs G es r).bind fun xs r1 => oS (drefs r1 xs) fun ds => optR r1 (bltD b ds) : Rs (R)).w Q X := by rw [e_blt]
@[simp ↓] theorem w_e_rng0 {es : CEs} {Q : R → En → Prop} : (evE G (.rng false es) r).w Q X ↔ ((evEs G es r).bind fun xs r1 => oS (drefs r1 xs) fun ds => oS (rngD ds) fun is => gS (rngFew ds = true) (.ok (.val true (.list is)) r1) : Rs (R)).w Q X := by rw [e_rng0]
@[simp ↓] theorem w_e_rng1 {es : CEs} {Q : R → En → Prop} : (evE G (.rng true es) r).w Q X ↔ ((evEs G es r).bind fun xs r1 => oS (drefs r1 xs) fun ds => oS (rngD ds) fun is => gS (rngFew ds = true) (.ok (.val false (.tuple is)) r1) : Rs (R)).w Q X := by rw [e_rng1]
@[simp ↓] theorem w_e_isin {a : CE} {t : String} {Q : R → En → Prop} : (evE G (.isin a t) r).w Q X ↔ ((evE G a r).bind fun x r1 => oS (dref r1 x) fun d => oS (isTyD d t) fun k => .ok (.val false (.bool k)) r1 : Rs (R)).w Q X := by rw [e_isin]
@[simp ↓] theorem w_e_meth {m : Meth} {o : CE} {es : CEs} {Q : R → En → Prop} : (evE G (.meth m o es) r).w Q X ↔ ((evE G o r).bind fun x r1 => oS (dref r1 x) fun d0 => gS (methT m d0 ≠ "") ((evEs G es r1).bind fun xs r2 => oS (dref r2 x) fun d => oS (drefs r2 xs) fun ds => gS (tyName d0 = tyName d) (optR r2 (methD m d ds))) : Rs (R)).w Q X := by rw [e_meth]
@[simp ↓] theorem w_e_mut {m : MMeth} {i : Nat} {es : CEs} {Q : R → En → Prop} : (evE G (.mut m i es) r).w Q X ↔ (oS (svL r[i]?) fun _ => (evEs G es r).bind fun xs r1 => mutR m i xs r1 : Rs (R)).w Q X := by rw [e_mut]
@[simp ↓] theorem w_mutR_append {i : Nat} {xs : List R} {Q : R → En → Prop} : (mutR .append i xs r).w Q X ↔ (oS (takes r xs) fun p => oS (svO p.2[i]?) fun d => oS (mutD .append d p.1) fun q => .ok (.val false q.1) (p.2.set i (some (.dat true q.2))) : Rs (R)).w Q X := by rw [mutR_append]
@[simp ↓] theorem w_mutR_pop {i : Nat} {xs : List R} {Q : R → En → Prop} : (mutR .pop i xs r).w Q X ↔ (oS (takes r xs) fun p => oS (svO p.2[i]?) fun d => oS (mutD .pop d p.1) fun q => .ok (.val false q.1) (p.2.set i (some (.dat true q.2))) : Rs (R)).w Q X := by rw [mutR_pop]
@[simp ↓] theorem w_mutR_popAt {i : Nat} {xs : List R} {Q : R → En → Prop} : (mutR .popAt i xs r).w Q X ↔ (oS (takes r xs) fun p => oS (svO p.2[i]?) fun d => oS (mutD .popAt d p.1) fun q => .ok (.val false q.1) (p.2.set i (some (.dat true q.2))) : Rs (R)).w Q X := by rw [mutR_popAt]
@[simp ↓] theorem w_mutR_extend {i : Nat} {zs : List D} {Q : R → En → Prop} : (mutR .extend i [.val true (.list zs)] r).w Q X ↔ (oS (oO (svO r[i]?) seqL) fun ys => gS (ys.length + zs.length ≤ 16777216) (.ok (.val false .none) (r.set i (some (.dat true (.list (ys ++ zs)))))) : Rs (R)).w Q X := by rw [mutR_extend]
@[simp ↓] theorem w_e_nil {Q : List R → En → Prop} : (evEs G .nil r).w Q X ↔ (.ok [] r : Rs (List R)).w Q X := by rw [e_nil]
@[simp ↓] theorem w_e_cons {e : CE} {es : CEs} {Q : List R → En → Prop} : (evEs G (.cons e es) r).w Q X ↔ ((evE G e r).bind fun x r1 => (evEs G es r1).bind fun xs r2 => .ok (x :: xs) r2 : Rs (List R)).w Q X := by rw [e_cons]
@[simp ↓] theorem w_o_non {Q : Option Int → En → Prop} : (evO G .non r).w Q X ↔ (.ok none r : Rs (Option Int)).w Q X := by rw [o_non]
@[simp ↓] theorem w_o_som {e : CE} {Q : Option Int → En → Prop} : (evO G (.som e) r).w Q X ↔ ((evE G e r).bind fun x r1 => oS (rInt x) fun i => .ok (some i) r1 : Rs (Option Int)).w Q X := by rw [o_som]
@[simp ↓] theorem w_c_non {Q : Bool → En → Prop} : (evC G .non r).w Q X ↔ (.ok true r : Rs (Bool)).w Q X := by rw [c_non]
@[simp ↓] theorem w_c_som {e : CT} {Q : Bool → En → Prop} : (evC G (.som e) r).w Q X ↔ (evT G e r : Rs (Bool)).w Q X := by rw [c_som]
@[simp ↓] theorem w_t_and {a b : CT} {Q : Bool → En → Prop} : (evT G (.and a b) r).w Q X ↔ ((evT G a r).bind fun k r1 => bS k (evT G b r1) (.ok false r1) : Rs (Bool)).w Q X := by rw [t_and]
@[simp ↓] theorem w_t_or {a b : CT} {Q : Bool → En → Prop} : (evT G (.or a b) r).w Q X ↔ ((evT G a r).bind fun k r1 => bS k (.ok true r1) (evT G b r1) : Rs (Bool)).w Q X := by rw [t_or]
@[simp ↓] theorem w_t_not {a : CT} {Q : Bool → En → Prop} : (evT G (.not a) r).w Q X ↔ ((evT G a r).bind fun k r1 => .ok (!k) r1 : Rs (Bool)).w Q X := by rw [t_not]
@[simp ↓] theorem w_t_ex {e : CE} {Q : Bool → En → Prop} : (evT G (.ex e) r).w Q X ↔ ((evE G e r).bind fun x r1 => oS (oO (dref r1 x) truD) fun k => .ok k r1 : Rs (Bool)).w Q X := by rw [t_ex]
@[simp ↓] theorem w_i_seq {e : CE} {Q : List D → En → Prop} : (evI G (.seq e) r).w Q X ↔ ((evE G e r).bind fun x r1 => oS (take r1 x) fun p => oS (seqOf p.1) fun xs => .ok xs p.2 : Rs (List D)).w Q X := by rw [i_seq]
@[simp ↓] theorem w_i_rng {es : CEs} {Q : List D → En → Prop} : (evI G (.rng es) r).w Q X ↔ ((evEs G es r).bind fun xs r1 => oS (drefs r1 xs) fun ds => oS (rngD ds) fun is => .ok is r1 : Rs (List D)).w Q X := by rw [i_rng]
@[simp ↓] theorem w_i_enum {es : CEs} {Q : List D → En → Prop} : (evI G (.enum es) r).w Q X ↔ ((evEs G es r).bind fun xs r1 => oS (takes r1 xs) fun p => oS (one_ p.1) fun d => oS (seqOf d) fun ys => .ok (enumT 0 ys) p.2 : Rs (List D)).w Q X := by rw [i_enum]
@[simp ↓] theorem w_i_zip {es : CEs} {Q : List D → En → Prop} : (evI G (.zip es) r).w Q X ↔ ((evEs G es r).bind fun xs r1 => oS (takes r1 xs) fun p => oS (two_ p.1) fun d => oS (zipD d.1 d.2) fun ys => .ok ys p.2 : Rs (List D)).w Q X := by rw [i_zip]
@[simp ↓] theorem w_s_ret {e : CE} : (evS G (.ret e) r).w P ↔ (((evE G e r).so fun x r1 => .ret x r1 : So)).w P := by rw [s_ret]
@[simp ↓] theorem w_s_retL {k : Nat} {caps : List Nat} : (evS G (.retL k caps) r).w P ↔ (oX (capsD r caps) fun ds => .ret (.fn k ds) r : So).w P := by
  rw [evS]
  cases capsD r caps <;> rfl
@[simp ↓] theorem w_s_retN : (evS G .retN r).w P ↔ ((.ret (.val false .none) r : So)).w P := by rw [s_retN]
@[simp ↓] theorem w_s_ex {e : CE} : (evS G (.ex e) r).w P ↔ (((evE G e r).so fun _ r1 => .nx r1 : So)).w P := by rw [s_ex]
@[simp ↓] theorem w_s_set {i : Nat} {e : CE} : (evS G (.set i e) r).w P ↔ (((evE G e r).so fun x r1 => oX (putSlot i x r1) fun r2 => .nx r2 : So)).w P := by rw [s_set]
@[simp ↓] theorem w_s_par {is : List Nat} {es : CEs} : (evS G (.par is es) r).w P ↔ (((evEs G es r).so fun xs r1 => oX (settle r1 xs) fun p => oX (putPar is p.1 p.2) fun r3 => .nx r3 : So)).w P := by rw [s_par]
@[simp ↓] theorem w_s_asg {t : TX} {e : CE} : (evS G (.asg t e) r).w P ↔ (((evE G e r).so fun x r1 => oX (take r1 x) fun p => (evX G t p.1 p.2).so fun _ r3 => .nx r3 : So)).w P := by rw [s_asg]
@[simp ↓] theorem w_s_ite {t : CT} {a b : CSs} : (evS G (.ite t a b) r).w P ↔ (((evT G t r).so fun k r1 => bX k (evSs G a r1) (evSs G b r1) : So)).w P := by rw [s_ite]
@[simp ↓] theorem w_s_whl {t : CT} {b : CSs} : (evS G (.whl t b) r).w P ↔ ((whileF (evT G t) (evSs G b) G.fuel r : So)).w P := by rw [s_whl]
@[simp ↓] theorem w_s_for {tg : Tg} {it : CI} {b : CSs} : (evS G (.for tg it b) r).w P ↔ (((evI G it r).so fun xs r1 => forF (fun d r => bindT d r tg) (evSs G b) xs r1 : So)).w P := by rw [s_for]
@[simp ↓] theorem w_s_pass : (evS G .pass r).w P ↔ ((.nx r : So)).w P := by rw [s_pass]
@[simp ↓] theorem w_s_brk : (evS G .brk r).w P ↔ ((.brk r : So)).w P := by rw [s_brk]
@[simp ↓] theorem w_s_cont : (evS G .cont r).w P ↔ ((.cont r : So)).w P := by rw [s_cont]
@[simp ↓] theorem w_s_rais {c : Nat} {es : CEs} : (evS G (.rais c es) r).w P ↔ (((evEs G es r).so fun xs r1 => oX (takes r1 xs) fun p => oX (G.exf c) fun fs => .exc ⟨c, fs.zip p.1⟩ p.2 : So)).w P := by rw [s_rais]
@[simp ↓] theorem w_s_try {b : CSs} {hs : Hds} : (evS G (.try_ b hs) r).w P ↔ ((tryX (evH G hs) (evSs G b r) : So)).w P := by rw [s_try]
@[simp ↓] theorem w_h_cons {c : Nat} {b : CSs} {hs : Hds} {x : Ex} : (evH G (.cons c none b hs) x r).w P ↔ ((oX (G.sub x.cls c) fun k => bX k (noX (evSs G b r)) (evH G hs x r) : So)).w P := by rw [h_cons]
@[simp ↓] theorem w_h_nil {x : Ex} : (evH G .nil x r).w P ↔ ((.exc x r : So)).w P := by rw [h_nil]
@[simp ↓] theorem w_ss_nil : (evSs G .nil r).w P ↔ ((.nx r : So)).w P := by rw [ss_nil]
@[simp ↓] theorem w_ss_cons {s : CS} {ss : CSs} : (evSs G (.cons s ss) r).w P ↔ (((evS G s r).then fun r1 => evSs G ss r1 : So)).w P := by rw [ss_cons]
@[simp ↓] theorem w_x_nm {i : Nat} {d : D} {Q : Unit → En → Prop} : (evX G (.nm i) d r).w Q X ↔ (gS (i < r.length) (.ok () (r.set i (some (.dat false d)))) : Rs (Unit)).w Q X := by rw [x_nm]
@[simp ↓] theorem w_x_sub {i : Nat} {ix : CE} {d : D} {Q : Unit → En → Prop} : (evX G (.sub i ix) d r).w Q X ↔ (oS (svO r[i]?) fun _ => (evE G ix r).bind fun x r1 => oS (dref r1 x) fun k => oS (svO r1[i]?) fun c => oS (setD c k d) fun c' => .ok () (r1.set i (some (.dat true c'))) : Rs (Unit)).w Q X := by rw [x_sub]
end
end E2

set_option Elab.async false
set_option linter.all false
set_option maxRecDepth 100000
set_option maxHeartbeats 1000000
namespace E2
open PySem L2
@[simp] theorem ty_none_int : isTyD PyData.none "int" = some false := same (by first | rfl | decide)
@[simp] theorem ty_none_bool : isTyD PyData.none "bool" = some false := same (by first | rfl | decide)
@[simp] theorem ty_none_str : isTyD PyData.none "str" = some false := same (by first | rfl | decide)
@[simp] theorem ty_none_tuple : isTyD PyData.none "tuple" = some false := same (by first | rfl | decide)
@[simp] theorem ty_none_list : isTyD PyData.none "list" = some false := same (by first | rfl | decide)
@[simp] theorem ty_none_dict : isTyD PyData.none "dict" = some false := same (by first | rfl | decide)
@[simp] theorem ty_bool_int {b : Bool} : isTyD (PyData.bool b) "int" = some true := same (by first | rfl | decide)
@[simp] theorem ty_bool_bool {b : Bool} : isTyD (PyData.bool b) "bool" = some true := same (by first | rfl | decide)
@[simp] theorem ty_bool_str {b : Bool} : isTyD (PyData.bool b) "str" = some false := same (by first | rfl | decide)
@[simp] theorem ty_bool_tuple {b : Bool} : isTyD (PyData.bool b) "tuple" = some false := same (by first | rfl | decide)
@[simp] theorem ty_bool_list {b : Bool} : isTyD (PyData.bool b) "list" = some false := same (by first | rfl | decide)
@[simp] theorem ty_bool_dict {b : Bool} : isTyD (PyData.bool b) "dict" = some false := same (by first | rfl | decide)
@[simp] theorem ty_int_int {i : Int} : isTyD (PyData.int i) "int" = some true := same (by first | rfl | decide)
@[simp] theorem ty_int_bool {i : Int} : isTyD (PyData.int i) "bool" = some false := same (by first | rfl | decide)
@[simp] theorem ty_int_str {i : Int} : isTyD (PyData.int i) "str" = some false := same (by first | rfl | decide)
@[simp] theorem ty_int_tuple {i : Int} : isTyD (PyData.int i) "tuple" = some false := same (by first | rfl | decide)
@[simp] theorem ty_int_list {i : Int} : isTyD (PyData.int i) "list" = some false := same (by first | rfl | decide)
@[simp] theorem ty_int_dict {i : Int} : isTyD (PyData.int i) "dict" = some false := same (by first | rfl | decide)
@[simp] theorem ty_str_int {s : Str} : isTyD (PyData.str s) "int" = some false := same (by first | rfl | decide)
@[simp] theorem ty_str_bool {s : Str} : isTyD (PyData.str s) "bool" = some false := same (by first | rfl | decide)
@[simp] theorem ty_str_str {s : Str} : isTyD (PyData.str s) "str" = some true := same (by first | rfl | decide)
@[simp] theorem ty_str_tuple {s : Str} : isTyD (PyData.str s) "tuple" = some false := same (by first | rfl | decide)
@[simp] theorem ty_str_list {s : Str} : isTyD (PyData.str s) "list" = some false := same (by first | rfl | decide)
@[simp] theorem ty_str_dict {s : Str} : isTyD (PyData.str s) "dict" = some false := same (by first | rfl | decide)
@[simp] theorem ty_list_int {xs : List D} : isTyD (PyData.list xs) "int" = some false := same (by first | rfl | decide)
@[simp] theorem ty_list_bool {xs : List D} : isTyD (PyData.list xs) "bool" = some false := same (by first | rfl | decide)
@[simp] theorem ty_list_str {xs : List D} : isTyD (PyData.list xs) "str" = some false := same (by first | rfl | decide)
@[simp] theorem ty_list_tuple {xs : List D} : isTyD (PyData.list xs) "tuple" = some false := same (by first | rfl | decide)
@[simp] theorem ty_list_list {xs : List D} : isTyD (PyData.list xs) "list" = some true := same (by first | rfl | decide)
@[simp] theorem ty_list_dict {xs : List D} : isTyD (PyData.list xs) "dict" = some false := same (by first | rfl | decide)
@[simp] theorem ty_tuple_int {xs : List D} : isTyD (PyData.tuple xs) "int" = some false := same (by first | rfl | decide)
@[simp] theorem ty_tuple_bool {xs : List D} : isTyD (PyData.tuple xs) "bool" = some false := same (by first | rfl | decide)
@[simp] theorem ty_tuple_str {xs : List D} : isTyD (PyData.tuple xs) "str" = some false := same (by first | rfl | decide)
@[simp] theorem ty_tuple_tuple {xs : List D} : isTyD (PyData.tuple xs) "tuple" = some true := same (by first | rfl | decide)
@[simp] theorem ty_tuple_list {xs : List D} : isTyD (PyData.tuple xs) "list" = some false := same (by first | rfl | decide)
@[simp] theorem ty_tuple_dict {xs : List D} : isTyD (PyData.tuple xs) "dict" = some false := same (by first | rfl | decide)
theorem Rs.w_eq {α : Type} {x : Rs α} {Q : α → En → Prop} (h : x.w Q fun _ _ => False) : ∃ a r, x = .ok a r ∧ Q a r := by
  cases h with
  | ok h => exact ⟨_, _, rfl, h⟩
  | exc h => exact h.elim
/-- a comprehension: g the items, p the test, f the element -/
theorem lc_eq {G : Gs} {α : Type} (g : α → D) (p : α → Bool) (f : α → D) (as : List α) {own : List (Str × Nat)} {tg : Tg} {it : CI} {cond : CTo} {elt : CE} {r r1 r0 : En} (hi : evI G it r = .ok (as.map g) r1) (hl : as.length ≤ 16777216)
    (h0 : wipeE r1 (own.map (·.2)) = r0) (hw : wipeE r0 (own.map (·.2)) = r0) (hb0 : backE r1 r0 (own.map (·.2)) = r1) (hb1 : backE r1 r1 (own.map (·.2)) = r1)
    (hs : ∀ a ∈ as, ∃ r2, bindT (g a) r0 tg = some r2 ∧ (evC G cond r2).w (fun k r3 => k = p a ∧ wipeE r3 (own.map (·.2)) = r0 ∧ (p a = true → (evE G elt r3).w (fun x r4 => (∃ o, x = .val o (f a)) ∧ wipeE r4 (own.map (·.2)) = r0) fun _ _ => False)) fun _ _ => False) :
    evE G (.lc own tg it cond elt) r = .ok (.val true (.list ((as.filter p).map f))) r1 := by
  obtain ⟨r', q1, q2, q3⟩ := lcGo_eq (vs := own.map (·.2)) (bind := fun d r => bindT d r tg) (cond := evC G cond) (elt := evE G elt) g p f hw as [] r1 (fun a ha => by
    obtain ⟨r2, e1, e2⟩ := hs a ha
    obtain ⟨k, r3, e3, e4, e5, e6⟩ := Rs.w_eq e2
    subst e4
    refine ⟨r2, e1, r3, e3, e5, fun hp => ?_⟩
    obtain ⟨x, r4, e7, ⟨o, e8⟩, e9⟩ := Rs.w_eq (e6 hp)
    subst e8
    exact ⟨o, r4, e7, e9⟩) h0 (by rw [sizeLine_eq, List.length_nil]; omega)
  rw [evE, hi]
  simp only [bind_okR]
  rw [q1]
  simp only [bind_okR, List.nil_append]
  rcases q3 with e | e
  · rw [e, hb1]
  · rw [e, hb0]
/-- without a test -/
theorem lcN_eq {G : Gs} {α : Type} (g : α → D) (f : α → D) (as : List α) {own : List (Str × Nat)} {tg : Tg} {it : CI} {elt : CE} {r r1 r0 : En} (hi : evI G it r = .ok (as.map g) r1) (hl : as.length ≤ 16777216)
    (h0 : wipeE r1 (own.map (·.2)) = r0) (hw : wipeE r0 (own.map (·.2)) = r0) (hb0 : backE r1 r0 (own.map (·.2)) = r1) (hb1 : backE r1 r1 (own.map (·.2)) = r1)
    (hs : ∀ a ∈ as, ∃ r2, bindT (g a) r0 tg = some r2 ∧ wipeE r2 (own.map (·.2)) = r0 ∧ (evE G elt r2).w (fun x r4 => (∃ o, x = .val o (f a)) ∧ wipeE r4 (own.map (·.2)) = r0) fun _ _ => False) :
    evE G (.lc own tg it .non elt) r = .ok (.val true (.list (as.map f))) r1 := by
  have := lc_eq g (fun _ => true) f as (cond := .non) (elt := elt) hi hl h0 hw hb0 hb1 (fun a ha => by
    obtain ⟨r2, e1, e2, e3⟩ := hs a ha
    refine ⟨r2, e1, ?_⟩
    rw [c_non]
    exact .ok ⟨rfl, e2, fun _ => e3⟩)
  rw [this, List.filter_eq_self.mpr fun _ _ => rfl]
theorem boolsOf_map : ∀ bs : List Bool, boolsOf (bs.map PyData.bool) = some bs
  | [] => rfl
  | b :: bs => by rw [List.map_cons, boolsOf, boolsOf_map bs]; rfl
theorem intsOf_map : ∀ bs : List Int, intsOf (bs.map PyData.int) = some bs
  | [] => rfl
  | b :: bs => by rw [List.map_cons, intsOf, intsOf_map bs]; rfl
end E2

set_option Elab.async false
set_option linter.all false
set_option maxRecDepth 100000
set_option maxHeartbeats 1000000
namespace E2
open PySem L2
/-! ## sorting whole numbers -/
def sortN (l : List Nat) : List Nat := l.mergeSort fun a b => decide (a ≤ b)
theorem dataLe_dn (a b : Nat) : PySem.W.dataLe false id (dn a) (dn b) = decide (a ≤ b) := by
  have e := congrFun (congrFun (PySem.W.dataLe_int (fun x : Int => x)) (a : Int)) (b : Int)
  have e2 : PySem.W.dataLe false id (dn a) (dn b) = PySem.W.dataLe false (fun b : Int => PyData.int b) (a : Int) (b : Int) := same rfl
  rw [e2, e]
  exact decide_eq_decide.mpr (by omega)
theorem sort_dn (l : List Nat) : (l.map dn).mergeSort (PySem.W.dataLe false id) = (sortN l).map dn :=
  (List.map_mergeSort (r := fun a b => decide (a ≤ b)) (s := PySem.W.dataLe false id) (f := dn) fun a _ b _ => (dataLe_dn a b).symm).symm
theorem sortOk_dn (l : List Nat) (h : l.length ≤ 16777216) : sortOk (l.map dn) = true := by
  unfold sortOk
  simp only [Bool.and_eq_true, Bool.or_eq_true, List.all_eq_true, List.mem_map, decide_eq_true_eq]
  refine ⟨⟨⟨?_, .inr ?_⟩, ?_⟩, by rw [sizeLine_eq, List.length_map]; exact h⟩
  · rintro _ ⟨a, _, rfl⟩ _ ⟨b, _, rfl⟩
    simp [PySem.W.alike]
  · rintro _ ⟨a, _, rfl⟩
    rfl
  · rintro _ ⟨a, _, rfl⟩
    simp [PyData.depth]
@[simp] theorem blt_sorted_tn {l : List Nat} (h : l.length ≤ 16777216) : bltD .sorted [.tuple (l.map dn)] = some (true, .list ((sortN l).map dn)) := by
  show (if sortOk (l.map dn) = true then some (true, PyData.list ((l.map dn).mergeSort (PySem.W.dataLe false id))) else none) = _
  rw [if_pos (sortOk_dn l h), sort_dn]
theorem sortN_of {l m : List Nat} (h : l.Perm m) (hm : m.Pairwise (· ≤ ·)) : sortN l = m := by
  have h1 : (sortN l).Pairwise fun a b => decide (a ≤ b) = true := List.pairwise_mergeSort (fun a b c h1 h2 => by simp at *; omega) (fun a b => by simp; omega) l
  refine List.Perm.eq_of_pairwise (le := fun a b => a ≤ b) (fun a b _ _ h1 h2 => by omega) (h1.imp fun h => by simpa using h) hm ((List.mergeSort_perm _ _).trans h)
/-! ## equality of rows -/
theorem shaped_dns (xs : List Nat) : SeqAt.shaped (.tuple (xs.map dn)) = true := by
  simp [SeqAt.shaped, PyData.canLay0, canLayAll_dn, PyData.depth, depthAll_dn]
theorem shaped_dnl (xs : List Nat) : SeqAt.shaped (.list (xs.map dn)) = true := by
  simp [SeqAt.shaped, PyData.canLay0, canLayAll_dn, PyData.depth, depthAll_dn]
theorem shaped_dn (x : Nat) : SeqAt.shaped (dn x) = true := by
  simp [SeqAt.shaped, PyData.canLay0, PyData.depth]
@[simp] theorem eqD_ll {xs ys : List Nat} : eqD (.list (xs.map dn)) (.list (ys.map dn)) = some (decide (xs = ys)) := by
  show (if SeqAt.shaped (.list (xs.map dn)) = true ∧ SeqAt.shaped (.list (ys.map dn)) = true then some (PyData.eqv (.list (xs.map dn)) (.list (ys.map dn))) else none) = _
  rw [if_pos ⟨shaped_dnl xs, shaped_dnl ys⟩, PyData.eqv, eqvAll_dn]
@[simp] theorem eqD_tt {xs ys : List Nat} : eqD (.tuple (xs.map dn)) (.tuple (ys.map dn)) = some (decide (xs = ys)) := by
  show (if SeqAt.shaped (.tuple (xs.map dn)) = true ∧ SeqAt.shaped (.tuple (ys.map dn)) = true then some (PyData.eqv (.tuple (xs.map dn)) (.tuple (ys.map dn))) else none) = _
  rw [if_pos ⟨shaped_dns xs, shaped_dns ys⟩, PyData.eqv, eqvAll_dn]
@[simp] theorem eqD_ii {i j : Int} : eqD (.int i) (.int j) = some (decide (i = j)) := same rfl
@[simp] theorem cmp_eq {a b : D} : cmpD .Eq a b = eqD a b := same (by cases a <;> rfl)
@[simp] theorem cmp_ne {a b : D} : cmpD .NotEq a b = (eqD a b).map (!·) := same (by cases a <;> rfl)
@[simp] theorem cmp_lt {i j : Int} : cmpD .Lt (.int i) (.int j) = some (decide (i < j)) := same rfl
@[simp] theorem cmp_le {i j : Int} : cmpD .LtE (.int i) (.int j) = some (decide (i ≤ j)) := same rfl
@[simp] theorem cmp_gt {i j : Int} : cmpD .Gt (.int i) (.int j) = some (decide (j < i)) := same rfl
@[simp] theorem cmp_ge {i j : Int} : cmpD .GtE (.int i) (.int j) = some (decide (j ≤ i)) := same rfl
@[simp] theorem cmp_in {a b : D} : cmpD .In a b = inD a b := same (by cases a <;> rfl)
@[simp] theorem cmp_nin {a b : D} : cmpD .NotIn a b = (inD a b).map (!·) := same (by cases a <;> rfl)
@[simp] theorem cmp_is {a b : D} : cmpD .Is a b = isD a b := same (by cases a <;> rfl)
@[simp] theorem cmp_isn {a b : D} : cmpD .IsNot a b = (isD a b).map (!·) := same (by cases a <;> rfl)
@[simp] theorem inD_dl {k : Nat} {xs : List Nat} : inD (.int k) (.list (xs.map dn)) = some (decide (k ∈ xs)) := by
  show (if SeqAt.shaped (dn k) = true ∧ SeqAt.shaped (.list (xs.map dn)) = true then some ((xs.map dn).any fun x => PyData.eqv x (dn k)) else none) = _
  rw [if_pos ⟨shaped_dn k, shaped_dnl xs⟩, any_dn]
@[simp] theorem inD_dt {k : Nat} {xs : List Nat} : inD (.int k) (.tuple (xs.map dn)) = some (decide (k ∈ xs)) := by
  show (if SeqAt.shaped (dn k) = true ∧ SeqAt.shaped (.tuple (xs.map dn)) = true then some ((xs.map dn).any fun x => PyData.eqv x (dn k)) else none) = _
  rw [if_pos ⟨shaped_dn k, shaped_dns xs⟩, any_dn]
end E2

set_option Elab.async false
set_option linter.all false
set_option maxRecDepth 100000
set_option maxHeartbeats 1000000
namespace E2
open PySem L2
/-! ## the wish goes inwards -/
section
variable {α β : Type} {Q : α → En → Prop} {X : Ex → En → Prop} {P : Pt}
def _root_.E2.Pt.th (P : Pt) (f : En → So) : Pt := ⟨fun r => (f r).w P, P.rt, P.ex, P.bk, P.ct⟩
def _root_.E2.Pt.tr (P : Pt) (h : Ex → En → So) : Pt := ⟨P.nx, P.rt, fun e r => (h e r).w P, P.bk, P.ct⟩
@[simp ↓] theorem th_nx {f : En → So} {r : En} : (P.th f).nx r ↔ (f r).w P := ⟨id, id⟩
@[simp ↓] theorem th_rt {f : En → So} {x : R} {r : En} : (P.th f).rt x r ↔ P.rt x r := ⟨id, id⟩
@[simp ↓] theorem th_ex {f : En → So} {x : Ex} {r : En} : (P.th f).ex x r ↔ P.ex x r := ⟨id, id⟩
@[simp ↓] theorem th_bk {f : En → So} {r : En} : (P.th f).bk r ↔ P.bk r := ⟨id, id⟩
@[simp ↓] theorem th_ct {f : En → So} {r : En} : (P.th f).ct r ↔ P.ct r := ⟨id, id⟩
@[simp ↓] theorem tr_nx {f : Ex → En → So} {r : En} : (P.tr f).nx r ↔ P.nx r := ⟨id, id⟩
@[simp ↓] theorem tr_rt {f : Ex → En → So} {x : R} {r : En} : (P.tr f).rt x r ↔ P.rt x r := ⟨id, id⟩
@[simp ↓] theorem tr_ex {f : Ex → En → So} {x : Ex} {r : En} : (P.tr f).ex x r ↔ (f x r).w P := ⟨id, id⟩
@[simp ↓] theorem tr_bk {f : Ex → En → So} {r : En} : (P.tr f).bk r ↔ P.bk r := ⟨id, id⟩
@[simp ↓] theorem tr_ct {f : Ex → En → So} {r : En} : (P.tr f).ct r ↔ P.ct r := ⟨id, id⟩
@[simp ↓] theorem then_wi {o : So} {f : En → So} : (o.then f).w P ↔ o.w (P.th f) := then_w
def _root_.E2.Pt.to (P : Pt) (I : En → Prop) : Pt := ⟨I, P.rt, P.ex, P.bk, P.ct⟩
@[simp ↓] theorem to_nx {I : En → Prop} {r : En} : (P.to I).nx r ↔ I r := ⟨id, id⟩
@[simp ↓] theorem to_rt {I : En → Prop} {x : R} {r : En} : (P.to I).rt x r ↔ P.rt x r := ⟨id, id⟩
@[simp ↓] theorem to_ex {I : En → Prop} {x : Ex} {r : En} : (P.to I).ex x r ↔ P.ex x r := ⟨id, id⟩
@[simp ↓] theorem to_bk {I : En → Prop} {r : En} : (P.to I).bk r ↔ P.bk r := ⟨id, id⟩
@[simp ↓] theorem to_ct {I : En → Prop} {r : En} : (P.to I).ct r ↔ P.ct r := ⟨id, id⟩
/-- one statement, then the rest, by what holds between -/
theorem cutS {G : Gs} {s : CS} {ss : CSs} {r : En} (I : En → Prop) (h1 : (evS G s r).w (P.to I)) (h2 : ∀ r, I r → (evSs G ss r).w P) : (evSs G (.cons s ss) r).w P := by
  rw [ss_cons, then_w]
  exact So.w.imp h1 h2 (fun _ _ h => h) (fun _ _ h => h) (fun _ h => h) (fun _ h => h)
theorem cutT {o : So} {f : En → So} (I : En → Prop) (h1 : o.w (P.to I)) (h2 : ∀ r, I r → (f r).w P) : o.w (P.th f) :=
  So.w.imp h1 h2 (fun _ _ h => h) (fun _ _ h => h) (fun _ h => h) (fun _ h => h)
theorem oS_w {o : Option β} {f : β → Rs α} : (oS o f).w Q X ↔ ∃ a, o = some a ∧ (f a).w Q X := by
  cases o with
  | none => exact ⟨fun h => (nomatch h), fun ⟨_, h, _⟩ => by cases h⟩
  | some a => exact ⟨fun h => ⟨a, rfl, h⟩, fun ⟨_, h, q⟩ => by cases h; exact q⟩
theorem oX_w {o : Option β} {f : β → So} : (oX o f).w P ↔ ∃ a, o = some a ∧ (f a).w P := by
  cases o with
  | none => exact ⟨fun h => (nomatch h), fun ⟨_, h, _⟩ => by cases h⟩
  | some a => exact ⟨fun h => ⟨a, rfl, h⟩, fun ⟨_, h, q⟩ => by cases h; exact q⟩
theorem gS_w {c : Prop} [Decidable c] {x : Rs α} : (gS c x).w Q X ↔ c ∧ x.w Q X := by
  unfold gS
  by_cases h : c
  · rw [if_pos h]; exact ⟨fun q => ⟨h, q⟩, fun q => q.2⟩
  · rw [if_neg h]; exact ⟨fun q => (nomatch q), fun q => absurd q.1 h⟩
@[simp ↓] theorem so_wi {x : Rs β} {f : β → En → So} : (x.so f).w P ↔ x.w (fun a r => (f a r).w P) P.ex := so_w
@[simp ↓] theorem bind_wi {x : Rs β} {f : β → En → Rs α} : (x.bind f).w Q X ↔ x.w (fun a r => (f a r).w Q X) X := bind_w
/-- a try's body -/
@[simp ↓] theorem tryX_w {h : Ex → En → So} {o : So} : (tryX h o).w P ↔ o.w (P.tr h) := by
  cases o <;> simp only [tryX, nx_w, ret_w, brk_w, cont_w, sexc_w, sstuck_w] <;> exact ⟨id, id⟩
end
/-! ## wishes that wait for their first part -/
def Ow {β : Type} (o : Option β) (K : β → Prop) (_t : Blk K := ⟨⟩) : Prop := ∃ a, o = some a ∧ K a
def Bw (b : Bool) (A B : Unit → Prop) (_t : Blk (A, B) := ⟨⟩) : Prop := (b = true → A ()) ∧ (b = false → B ())
inductive Cw0 : Cr → (Bool → D → List D → Prop) → (Nat → List D → List D → Prop) → (Ex → List D → Prop) → Prop
  | ok {o : Bool} {d : D} {refs : List D} {K : Bool → D → List D → Prop} {F : Nat → List D → List D → Prop} {X : Ex → List D → Prop} : K o d refs → Cw0 (.ok o d refs) K F X
  | fn {k : Nat} {l : List D} {refs : List D} {K : Bool → D → List D → Prop} {F : Nat → List D → List D → Prop} {X : Ex → List D → Prop} : F k l refs → Cw0 (.fn k l refs) K F X
  | exc {x : Ex} {refs : List D} {K : Bool → D → List D → Prop} {F : Nat → List D → List D → Prop} {X : Ex → List D → Prop} : X x refs → Cw0 (.exc x refs) K F X
def Cw (c : Cr) (K : Bool → D → List D → Prop) (F : Nat → List D → List D → Prop) (X : Ex → List D → Prop) (_t : Blk (K, F, X) := ⟨⟩) : Prop := Cw0 c K F X
section
variable {α β : Type} {Q : α → En → Prop} {X : Ex → En → Prop} {P : Pt}
@[simp] theorem ow_some {a : β} {K : β → Prop} : Ow (some a) K ↔ K a := ⟨fun ⟨_, h, q⟩ => by cases h; exact q, fun q => ⟨a, rfl, q⟩⟩
theorem ow_iff {o : Option β} {K : β → Prop} : Ow o K ↔ ∃ a, o = some a ∧ K a := ⟨id, id⟩
@[simp] theorem bw_true {A B : Unit → Prop} : Bw true A B ↔ A () := ⟨fun h => h.1 rfl, fun h => ⟨fun _ => h, fun z => (nomatch z)⟩⟩
@[simp] theorem bw_false {A B : Unit → Prop} : Bw false A B ↔ B () := ⟨fun h => h.2 rfl, fun h => ⟨fun z => (nomatch z), fun _ => h⟩⟩
@[simp low] theorem bw_any {b : Bool} {A B : Unit → Prop} : Bw b A B ↔ (b = true → A ()) ∧ (b = false → B ()) := ⟨id, id⟩
@[simp] theorem cw_ok {o : Bool} {d : D} {refs : List D} {K : Bool → D → List D → Prop} {F : Nat → List D → List D → Prop} {Y : Ex → List D → Prop} : Cw (.ok o d refs) K F Y ↔ K o d refs := ⟨fun h => by cases (show Cw0 _ _ _ _ from h); assumption, fun h => .ok h⟩
@[simp] theorem cw_fn {k : Nat} {l refs : List D} {K : Bool → D → List D → Prop} {F : Nat → List D → List D → Prop} {Y : Ex → List D → Prop} : Cw (.fn k l refs) K F Y ↔ F k l refs := ⟨fun h => by cases (show Cw0 _ _ _ _ from h); assumption, fun h => .fn h⟩
@[simp] theorem cw_exc {x : Ex} {refs : List D} {K : Bool → D → List D → Prop} {F : Nat → List D → List D → Prop} {Y : Ex → List D → Prop} : Cw (.exc x refs) K F Y ↔ Y x refs := ⟨fun h => by cases (show Cw0 _ _ _ _ from h); assumption, fun h => .exc h⟩
@[simp ↓] theorem oS_p {o : Option β} {f : β → Rs α} : (oS o f).w Q X ↔ Ow o fun a => (f a).w Q X := by
  cases o with
  | none => exact ⟨fun h => (stuck_w.mp h).elim, fun ⟨_, h, _⟩ => by cases h⟩
  | some a => exact ⟨fun h => ⟨a, rfl, h⟩, fun ⟨_, h, q⟩ => by cases h; exact q⟩
@[simp ↓] theorem oX_p {o : Option β} {f : β → So} : (oX o f).w P ↔ Ow o fun a => (f a).w P := by
  cases o with
  | none => exact ⟨fun h => (sstuck_w.mp h).elim, fun ⟨_, h, _⟩ => by cases h⟩
  | some a => exact ⟨fun h => ⟨a, rfl, h⟩, fun ⟨_, h, q⟩ => by cases h; exact q⟩
@[simp ↓] theorem bS_p {b : Bool} {x y : Rs α} : (bS b x y).w Q X ↔ Bw b (fun _ => x.w Q X) (fun _ => y.w Q X) := by cases b <;> simp [bS]
@[simp ↓] theorem bX_p {b : Bool} {x y : So} : (bX b x y).w P ↔ Bw b (fun _ => x.w P) (fun _ => y.w P) := by cases b <;> simp [bX]
@[simp ↓] theorem gS_p {c : Prop} [Decidable c] {x : Rs α} : (gS c x).w Q X ↔ c ∧ x.w Q X := by
  unfold gS
  by_cases h : c
  · rw [if_pos h]; exact ⟨fun q => ⟨h, q⟩, fun q => q.2⟩
  · rw [if_neg h]; exact ⟨fun q => (stuck_w.mp q).elim, fun q => absurd q.1 h⟩
@[simp ↓] theorem crV_p {c : Cr} {r : En} {Q : R → En → Prop} : (crV c r).w Q X ↔ Cw c (fun o d _ => Q (.val o d) r) (fun _ _ _ => False) (fun _ _ => False) := by
  cases c with
  | ok o d refs => rw [crV_ok, ok_w', cw_ok]
  | fn k l refs => rw [cw_fn]; exact ⟨fun h => (stuck_w.mp h).elim, fun h => h.elim⟩
  | exc x refs => rw [cw_exc]; exact ⟨fun h => (stuck_w.mp h).elim, fun h => h.elim⟩
  | stuck => exact ⟨fun h => (stuck_w.mp h).elim, fun h => (nomatch (show Cw0 _ _ _ _ from h))⟩
@[simp ↓] theorem crS_p {c : Cr} {sl : List Nat} {r : En} {Q : R → En → Prop} : (crS c sl r).w Q X ↔ Cw c (fun o d refs => Ow (putRefs r sl refs) fun r2 => Q (.val o d) r2) (fun k l refs => Ow (putRefs r sl refs) fun r2 => Q (.fn k l) r2) (fun x refs => Ow (putRefs r sl refs) fun r2 => X x r2) := by
  cases c with
  | ok o d refs =>
    rw [crS_ok, oS_p, cw_ok]
    exact ⟨fun ⟨a, h, q⟩ => ⟨a, h, ok_w.mp q⟩, fun ⟨a, h, q⟩ => ⟨a, h, ok_w.mpr q⟩⟩
  | fn k l refs =>
    rw [crS_fn, oS_p, cw_fn]
    exact ⟨fun ⟨a, h, q⟩ => ⟨a, h, ok_w.mp q⟩, fun ⟨a, h, q⟩ => ⟨a, h, ok_w.mpr q⟩⟩
  | exc x refs =>
    rw [crS_exc, oS_p, cw_exc]
    exact ⟨fun ⟨a, h, q⟩ => ⟨a, h, exc_w.mp q⟩, fun ⟨a, h, q⟩ => ⟨a, h, exc_w.mpr q⟩⟩
  | stuck => exact ⟨fun h => (stuck_w.mp h).elim, fun h => (nomatch (show Cw0 _ _ _ _ from h))⟩
/-- a handler may not raise -/
def _root_.E2.Pt.nox (P : Pt) : Pt := ⟨P.nx, P.rt, fun _ _ => False, P.bk, P.ct⟩
@[simp ↓] theorem nox_nx {r : En} : P.nox.nx r ↔ P.nx r := ⟨id, id⟩
@[simp ↓] theorem nox_rt {x : R} {r : En} : P.nox.rt x r ↔ P.rt x r := ⟨id, id⟩
@[simp ↓] theorem nox_ex {x : Ex} {r : En} : P.nox.ex x r ↔ False := ⟨id, id⟩
@[simp ↓] theorem nox_bk {r : En} : P.nox.bk r ↔ P.bk r := ⟨id, id⟩
@[simp ↓] theorem nox_ct {r : En} : P.nox.ct r ↔ P.ct r := ⟨id, id⟩
@[simp ↓] theorem noX_p {o : So} : (noX o).w P ↔ o.w P.nox := by
  cases o <;> simp only [noX, nx_w, ret_w, brk_w, cont_w, sexc_w, sstuck_w] <;> exact ⟨id, id⟩
end
/-! ## defs by their numbers -/
abbrev At (P : Prg) (k : Nat) (f : Fn) : Prop := P.fns[k]? = some f
section
variable {P : Prg} {k : Nat} {f : Fn}
theorem run_at (h : At P k f) (n : Nat) (ags : List Ag) : run P (n + 1) k ags = runF (P.gs (run P n)) f ags := by simp only [run, h]
theorem sig_at (h : At P k f) {c : Nat → List Ag → Cr} : (P.gs c).sig k = f.sig := by
  show ((P.fns[k]?).map (·.sig)).getD [] = _
  rw [h]; rfl
end
/-! ## a def's end -/
def retQ (r : En) : R → (Bool → D → Prop) → Prop
  | .val o d, Q => Q o d
  | .sl i, Q => ∃ o d, r[i]? = some (some (.dat o d)) ∧ Q o d
  | .fn _ _, _ => False
@[simp] theorem retQ_val {r : En} {o : Bool} {d : D} {Q : Bool → D → Prop} : retQ r (.val o d) Q ↔ Q o d := ⟨id, id⟩
@[simp] theorem retQ_sl {r : En} {i : Nat} {Q : Bool → D → Prop} : retQ r (.sl i) Q ↔ ∃ o d, r[i]? = some (some (.dat o d)) ∧ Q o d := ⟨id, id⟩
/-- returns what Q holds of; raises what X holds of -/
def RetP (Q : Bool → D → Prop) (X : Ex → Prop := fun _ => False) : Pt := ⟨fun _ => Q false .none, fun x r => retQ r x Q, fun e _ => X e, fun _ => False, fun _ => False⟩
@[simp ↓] theorem RetP_nx {Q : Bool → D → Prop} {X : Ex → Prop} {r : En} : (RetP Q X).nx r ↔ Q false .none := ⟨id, id⟩
@[simp ↓] theorem RetP_rt {Q : Bool → D → Prop} {X : Ex → Prop} {x : R} {r : En} : (RetP Q X).rt x r ↔ retQ r x Q := ⟨id, id⟩
@[simp ↓] theorem RetP_ex {Q : Bool → D → Prop} {X : Ex → Prop} {e : Ex} {r : En} : (RetP Q X).ex e r ↔ X e := ⟨id, id⟩
/-- a def that changes nothing of its caller's -/
theorem runF_ret {G : Gs} {f : Fn} {ags : List Ag} {Q : Bool → D → Prop} (ho : okSig f.sig ags = true) (hs : refSlots 0 f.sig = []) (h : (evSs G f.body (startA ags ++ List.replicate (f.n - ags.length) none)).w (RetP Q)) :
    ∃ o d, runF G f ags = .ok o d [] ∧ Q o d := by
  unfold runF
  rw [if_pos ho]
  cases e : evSs G f.body (startA ags ++ List.replicate (f.n - ags.length) none) with
  | nx r => rw [e] at h; exact ⟨false, .none, by simp [finR, hs, refsOf], nx_w.mp h⟩
  | ret x r =>
    rw [e] at h
    have h : retQ r x Q := ret_w.mp h
    cases x with
    | val o d => exact ⟨o, d, by simp [finR, hs, refsOf], h⟩
    | sl i =>
      obtain ⟨o, d, e1, e2⟩ := h
      exact ⟨o, d, by simp [finR, hs, refsOf, e1], e2⟩
    | fn k ds => exact h.elim
  | exc x r => rw [e] at h; exact (sexc_w.mp h).elim
  | brk r => rw [e] at h; exact (brk_w.mp h).elim
  | cont r => rw [e] at h; exact (cont_w.mp h).elim
  | stuck => rw [e] at h; exact (sstuck_w.mp h).elim
/-- it may raise -/
theorem runF_any {G : Gs} {f : Fn} {ags : List Ag} {Q : Bool → D → Prop} {X : Ex → Prop} (ho : okSig f.sig ags = true) (hs : refSlots 0 f.sig = []) (h : (evSs G f.body (startA ags ++ List.replicate (f.n - ags.length) none)).w (RetP Q X)) :
    (∃ o d, runF G f ags = .ok o d [] ∧ Q o d) ∨ ∃ e, runF G f ags = .exc e [] ∧ X e := by
  unfold runF
  rw [if_pos ho]
  cases e : evSs G f.body (startA ags ++ List.replicate (f.n - ags.length) none) with
  | nx r => rw [e] at h; exact .inl ⟨false, .none, by simp [finR, hs, refsOf], nx_w.mp h⟩
  | ret x r =>
    rw [e] at h
    have h : retQ r x Q := ret_w.mp h
    cases x with
    | val o d => exact .inl ⟨o, d, by simp [finR, hs, refsOf], h⟩
    | sl i =>
      obtain ⟨o, d, e1, e2⟩ := h
      exact .inl ⟨o, d, by simp [finR, hs, refsOf, e1], e2⟩
    | fn k ds => exact h.elim
  | exc x r => rw [e] at h; exact .inr ⟨x, by simp [hs, refsOf], sexc_w.mp h⟩
  | brk r => rw [e] at h; exact (brk_w.mp h).elim
  | cont r => rw [e] at h; exact (cont_w.mp h).elim
  | stuck => rw [e] at h; exact (sstuck_w.mp h).elim
/-- gives just this -/
theorem runF_is {G : Gs} {f : Fn} {ags : List Ag} {o : Bool} {d : D} (ho : okSig f.sig ags = true) (hs : refSlots 0 f.sig = []) (h : (evSs G f.body (startA ags ++ List.replicate (f.n - ags.length) none)).w (RetP fun o' d' => o' = o ∧ d' = d)) : runF G f ags = .ok o d [] := by
  obtain ⟨o', d', e, rfl, rfl⟩ := runF_ret ho hs h
  exact e
theorem runF_raises {G : Gs} {f : Fn} {ags : List Ag} {x : Ex} (ho : okSig f.sig ags = true) (hs : refSlots 0 f.sig = []) (h : (evSs G f.body (startA ags ++ List.replicate (f.n - ags.length) none)).w (RetP (fun _ _ => False) fun e => e = x)) : runF G f ags = .exc x [] := by
  rcases runF_any ho hs h with ⟨_, _, _, z⟩ | ⟨e, h1, rfl⟩
  · exact z.elim
  · exact h1
/-- the ends of a def with one thing of the caller's, in slot 0 -/
def Ret0P (Q : Bool → D → D → Prop) : Pt := ⟨fun r => ∃ d0, svO r[0]? = some d0 ∧ Q false .none d0, fun x r => ∃ d0, svO r[0]? = some d0 ∧ x ≠ .sl 0 ∧ retQ r x fun o d => Q o d d0, fun _ _ => False, fun _ => False, fun _ => False⟩
theorem svO_out {x : Option (Option Sv)} {d : D} (h : svO x = some d) : x = some (some (.dat true d)) := by
  unfold svO at h
  split at h
  · cases h; rfl
  · cases h
theorem runF_ret0 {G : Gs} {f : Fn} {ags : List Ag} {Q : Bool → D → D → Prop} (ho : okSig f.sig ags = true) (hs : refSlots 0 f.sig = [0]) (h : (evSs G f.body (startA ags ++ List.replicate (f.n - ags.length) none)).w (Ret0P Q)) :
    ∃ o d d0, runF G f ags = .ok o d [d0] ∧ Q o d d0 := by
  unfold runF
  rw [if_pos ho]
  cases e : evSs G f.body (startA ags ++ List.replicate (f.n - ags.length) none) with
  | nx r =>
    rw [e] at h
    obtain ⟨d0, h1, h2⟩ := nx_w.mp h
    exact ⟨false, .none, d0, by simp [finR, hs, refsOf, svO_out h1], h2⟩
  | ret x r =>
    rw [e] at h
    obtain ⟨d0, h1, hx, h⟩ := ret_w.mp h
    cases x with
    | val o d => exact ⟨o, d, d0, by simp [finR, hs, refsOf, svO_out h1], h⟩
    | sl i =>
      obtain ⟨o, d, e1, e2⟩ := h
      have hi : i ≠ 0 := fun z => hx (by rw [z])
      exact ⟨o, d, d0, by simp [finR, hs, refsOf, svO_out h1, e1, hi], e2⟩
    | fn k ds => exact h.elim
  | exc x r => rw [e] at h; exact (sexc_w.mp h).elim
  | brk r => rw [e] at h; exact (brk_w.mp h).elim
  | cont r => rw [e] at h; exact (cont_w.mp h).elim
  | stuck => rw [e] at h; exact (sstuck_w.mp h).elim
@[simp ↓] theorem Ret0P_nx {Q : Bool → D → D → Prop} {r : En} : (Ret0P Q).nx r ↔ ∃ d0, svO r[0]? = some d0 ∧ Q false .none d0 := ⟨id, id⟩
@[simp ↓] theorem Ret0P_rt {Q : Bool → D → D → Prop} {x : R} {r : En} : (Ret0P Q).rt x r ↔ ∃ d0, svO r[0]? = some d0 ∧ x ≠ .sl 0 ∧ retQ r x fun o d => Q o d d0 := ⟨id, id⟩
/-! ## the turn of a loop -/
@[simp ↓] theorem lp_nx {P : Pt} {I : En → Prop} {r : En} : (P.lp I).nx r ↔ I r := ⟨id, id⟩
@[simp ↓] theorem lp_ct {P : Pt} {I : En → Prop} {r : En} : (P.lp I).ct r ↔ I r := ⟨id, id⟩
@[simp ↓] theorem lp_rt {P : Pt} {I : En → Prop} {x : R} {r : En} : (P.lp I).rt x r ↔ P.rt x r := ⟨id, id⟩
@[simp ↓] theorem lp_ex {P : Pt} {I : En → Prop} {x : Ex} {r : En} : (P.lp I).ex x r ↔ P.ex x r := ⟨id, id⟩
@[simp ↓] theorem lp_bk {P : Pt} {I : En → Prop} {r : En} : (P.lp I).bk r ↔ P.nx r := ⟨id, id⟩
/-! ## written numbers as places -/
@[simp] theorem idx_l0 {xs : List D} : idxD (.list xs) (.int 0) = xs[0]? := idxD_list (n := 0)
@[simp] theorem idx_t0 {xs : List D} : idxD (.tuple xs) (.int 0) = xs[0]? := idxD_tuple (n := 0)
@[simp] theorem set_l0 {xs : List D} {v : D} (h : 0 < xs.length) : setD (.list xs) (.int 0) v = some (.list (xs.set 0 v)) := setD_nat (n := 0) h
@[simp] theorem idx_l1 {xs : List D} : idxD (.list xs) (.int 1) = xs[1]? := idxD_list (n := 1)
@[simp] theorem idx_t1 {xs : List D} : idxD (.tuple xs) (.int 1) = xs[1]? := idxD_tuple (n := 1)
@[simp] theorem set_l1 {xs : List D} {v : D} (h : 1 < xs.length) : setD (.list xs) (.int 1) v = some (.list (xs.set 1 v)) := setD_nat (n := 1) h
@[simp] theorem idx_l2 {xs : List D} : idxD (.list xs) (.int 2) = xs[2]? := idxD_list (n := 2)
@[simp] theorem idx_t2 {xs : List D} : idxD (.tuple xs) (.int 2) = xs[2]? := idxD_tuple (n := 2)
@[simp] theorem set_l2 {xs : List D} {v : D} (h : 2 < xs.length) : setD (.list xs) (.int 2) v = some (.list (xs.set 2 v)) := setD_nat (n := 2) h
@[simp] theorem idx_l3 {xs : List D} : idxD (.list xs) (.int 3) = xs[3]? := idxD_list (n := 3)
@[simp] theorem idx_t3 {xs : List D} : idxD (.tuple xs) (.int 3) = xs[3]? := idxD_tuple (n := 3)
@[simp] theorem set_l3 {xs : List D} {v : D} (h : 3 < xs.length) : setD (.list xs) (.int 3) v = some (.list (xs.set 3 v)) := setD_nat (n := 3) h
@[simp] theorem idx_l4 {xs : List D} : idxD (.list xs) (.int 4) = xs[4]? := idxD_list (n := 4)
@[simp] theorem idx_t4 {xs : List D} : idxD (.tuple xs) (.int 4) = xs[4]? := idxD_tuple (n := 4)
@[simp] theorem set_l4 {xs : List D} {v : D} (h : 4 < xs.length) : setD (.list xs) (.int 4) v = some (.list (xs.set 4 v)) := setD_nat (n := 4) h
@[simp] theorem idx_l5 {xs : List D} : idxD (.list xs) (.int 5) = xs[5]? := idxD_list (n := 5)
@[simp] theorem idx_t5 {xs : List D} : idxD (.tuple xs) (.int 5) = xs[5]? := idxD_tuple (n := 5)
@[simp] theorem set_l5 {xs : List D} {v : D} (h : 5 < xs.length) : setD (.list xs) (.int 5) v = some (.list (xs.set 5 v)) := setD_nat (n := 5) h
@[simp] theorem idx_l6 {xs : List D} : idxD (.list xs) (.int 6) = xs[6]? := idxD_list (n := 6)
@[simp] theorem idx_t6 {xs : List D} : idxD (.tuple xs) (.int 6) = xs[6]? := idxD_tuple (n := 6)
@[simp] theorem set_l6 {xs : List D} {v : D} (h : 6 < xs.length) : setD (.list xs) (.int 6) v = some (.list (xs.set 6 v)) := setD_nat (n := 6) h
@[simp] theorem idx_l7 {xs : List D} : idxD (.list xs) (.int 7) = xs[7]? := idxD_list (n := 7)
@[simp] theorem idx_t7 {xs : List D} : idxD (.tuple xs) (.int 7) = xs[7]? := idxD_tuple (n := 7)
@[simp] theorem set_l7 {xs : List D} {v : D} (h : 7 < xs.length) : setD (.list xs) (.int 7) v = some (.list (xs.set 7 v)) := setD_nat (n := 7) h
@[simp] theorem idx_l8 {xs : List D} : idxD (.list xs) (.int 8) = xs[8]? := idxD_list (n := 8)
@[simp] theorem idx_t8 {xs : List D} : idxD (.tuple xs) (.int 8) = xs[8]? := idxD_tuple (n := 8)
@[simp] theorem set_l8 {xs : List D} {v : D} (h : 8 < xs.length) : setD (.list xs) (.int 8) v = some (.list (xs.set 8 v)) := setD_nat (n := 8) h
@[simp] theorem idx_l9 {xs : List D} : idxD (.list xs) (.int 9) = xs[9]? := idxD_list (n := 9)
@[simp] theorem idx_t9 {xs : List D} : idxD (.tuple xs) (.int 9) = xs[9]? := idxD_tuple (n := 9)
@[simp] theorem set_l9 {xs : List D} {v : D} (h : 9 < xs.length) : setD (.list xs) (.int 9) v = some (.list (xs.set 9 v)) := setD_nat (n := 9) h
@[simp] theorem cmp_eqi {i j : Int} : cmpD .Eq (.int i) (.int j) = some (decide (i = j)) := same rfl
@[simp] theorem bin_pow {i j : Int} (h : 0 ≤ j ∧ j ≤ 1000000 ∧ i.natAbs < 2 ^ 64) : binD .Pow (.int i) (.int j) = some (false, .int (i ^ j.toNat)) := if_pos h
theorem bin_mul {i j : Int} (h : mulOk i j = true) : binD .Mult (.int i) (.int j) = some (false, .int (i * j)) := if_pos h
theorem bin_mod {i j : Int} (h : 0 < j) : binD .Mod (.int i) (.int j) = some (false, .int (i % j)) := if_pos h
theorem bin_div {i j : Int} (h : 0 < j ∧ j < 1073741824) : binD .FloorDiv (.int i) (.int j) = some (false, .int (i / j)) := if_pos h
@[simp] theorem mut_append {xs : List D} {y : D} (h : xs.length < 16777216) : mutD .append (.list xs) [y] = some (.none, .list (xs ++ [y])) := by
  rw [← sizeLine_eq] at h
  exact if_pos h
@[simp] theorem mut_popAt {xs : List D} {v : Nat} (h : v < xs.length) (hl : xs.length ≤ 16777216) : mutD .popAt (.list xs) [.int v] = some (xs[v], .list (xs.eraseIdx v)) := by
  have e : (if (0 : Int) ≤ (v : Int) ∧ (v : Int) < 2 ^ 63 then (match xs[(v : Int).toNat]? with
    | some y => some (y, PyData.list (xs.eraseIdx (v : Int).toNat))
    | none => none) else none) = some (xs[v], PyData.list (xs.eraseIdx v)) := by
    rw [if_pos (by omega), Int.toNat_natCast, List.getElem?_eq_getElem h]
  exact e
@[simp] theorem mut_pop {xs : List D} {y : D} : mutD .pop (.list (xs ++ [y])) [] = some (y, .list xs) := by
  have e : (match (xs ++ [y])[(xs ++ [y]).length - 1]? with
    | some y' => some (y', PyData.list (xs ++ [y]).dropLast)
    | none => none) = some (y, PyData.list xs) := by
    simp
  exact e
theorem cons_eraseIdx_perm {α : Type} (xs : List α) {v : Nat} (h : v < xs.length) : (xs[v] :: xs.eraseIdx v).Perm xs := by
  rw [List.eraseIdx_eq_take_drop_succ]
  have e : xs = xs.take v ++ xs[v] :: xs.drop (v + 1) := by
    rw [List.getElem_cons_drop]
    exact (List.take_append_drop v xs).symm
  exact (List.perm_middle.symm).trans (List.Perm.of_eq e.symm)
@[simp] theorem blt_int {i : Int} : bltD .int [.int i] = some (false, .int i) := same rfl
@[simp] theorem blt_intb {b : Bool} : bltD .int [.bool b] = some (false, .int (if b then 1 else 0)) := same rfl
end E2

set_option Elab.async false
set_option linter.all false
set_option maxRecDepth 100000
set_option maxHeartbeats 1000000
namespace E2
open PySem L2
/-! ## plain data: no dict, no truth value within, of bounded depth -/
def okP : Nat → D → Bool
  | _, .none => true
  | _, .int _ => true
  | _, .str s => PyData.canLay0 (.str s)
  | m + 1, .list xs => xs.all (okP m)
  | m + 1, .tuple xs => xs.all (okP m)
  | _, _ => false
theorem canAll {xs : List D} (h : ∀ x ∈ xs, x.canLay0 = true) : PyData.canLayAll0 xs = true := by
  induction xs with
  | nil => simp [PyData.canLayAll0]
  | cons x xs ih =>
    rw [PyData.canLayAll0, h x List.mem_cons_self, ih fun y hy => h y (List.mem_cons_of_mem _ hy)]
    rfl
theorem depAll {m : Nat} {xs : List D} (h : ∀ x ∈ xs, x.depth ≤ m) : PyData.depthAll xs ≤ m := by
  induction xs with
  | nil => simp [PyData.depthAll]
  | cons x xs ih =>
    have h1 := h x List.mem_cons_self
    have h2 := ih fun y hy => h y (List.mem_cons_of_mem _ hy)
    rw [PyData.depthAll]
    omega
theorem okP_can : ∀ {m : Nat} {d : D}, okP m d = true → d.canLay0 = true ∧ d.depth ≤ m
  | _, .none, _ => by simp [PyData.canLay0, PyData.depth]
  | _, .int _, _ => by simp [PyData.canLay0, PyData.depth]
  | m, .str s, h => by
    have h : PyData.canLay0 (.str s) = true := by cases m <;> exact h
    exact ⟨h, by simp [PyData.depth]⟩
  | 0, .list xs, h => by simp [okP] at h
  | m + 1, .list xs, h => by
    simp only [okP, List.all_eq_true] at h
    have h1 := fun x hx => okP_can (h x hx)
    have h2 := canAll fun x hx => (h1 x hx).1
    have h3 := depAll fun x hx => (h1 x hx).2
    constructor
    · rw [PyData.canLay0]; exact h2
    · rw [PyData.depth]; omega
  | 0, .tuple xs, h => by simp [okP] at h
  | m + 1, .tuple xs, h => by
    simp only [okP, List.all_eq_true] at h
    have h1 := fun x hx => okP_can (h x hx)
    have h2 := canAll fun x hx => (h1 x hx).1
    have h3 := depAll fun x hx => (h1 x hx).2
    constructor
    · rw [PyData.canLay0]; exact h2
    · rw [PyData.depth]; omega
  | 0, .dict _, h => by simp [okP] at h
  | _ + 1, .dict _, h => by simp [okP] at h
  | 0, .bool _, h => by simp [okP] at h
  | _ + 1, .bool _, h => by simp [okP] at h
theorem okP_shaped {m : Nat} {d : D} (h : okP m d = true) (hm : m ≤ 64) : SeqAt.shaped d = true := by
  obtain ⟨h1, h2⟩ := okP_can h
  unfold SeqAt.shaped
  rw [h1, decide_eq_true (Nat.le_trans h2 hm)]
  rfl
theorem okP_eqv : ∀ {m : Nat} {a b : D}, okP m a = true → okP m b = true → (PyData.eqv a b = true ↔ a = b)
  | m, .none, b, _, hb => by cases b <;> simp [PyData.eqv]
  | m, .int i, b, _, hb => by cases b <;> first | (cases m <;> simp [okP] at hb; done) | simp [PyData.eqv]
  | m, .str i, b, _, hb => by cases b <;> simp [PyData.eqv]
  | 0, .list xs, _, ha, _ => by simp [okP] at ha
  | 0, .tuple xs, _, ha, _ => by simp [okP] at ha
  | 0, .dict _, _, h, _ => by simp [okP] at h
  | _ + 1, .dict _, _, h, _ => by simp [okP] at h
  | 0, .bool _, _, h, _ => by simp [okP] at h
  | _ + 1, .bool _, _, h, _ => by simp [okP] at h
  | m + 1, .list xs, b, ha, hb => by
    cases b with
    | list ys =>
      simp only [okP, List.all_eq_true] at ha hb
      rw [PyData.eqv, PyData.list.injEq]
      induction xs generalizing ys with
      | nil => cases ys <;> simp [PyData.eqvAll]
      | cons x xs ih =>
        cases ys with
        | nil => simp [PyData.eqvAll]
        | cons y ys =>
          rw [PyData.eqvAll, Bool.and_eq_true, okP_eqv (ha x List.mem_cons_self) (hb y List.mem_cons_self), ih ys (fun z hz => ha z (List.mem_cons_of_mem _ hz)) (fun z hz => hb z (List.mem_cons_of_mem _ hz)), List.cons.injEq]
    | _ => simp [PyData.eqv]
  | m + 1, .tuple xs, b, ha, hb => by
    cases b with
    | tuple ys =>
      simp only [okP, List.all_eq_true] at ha hb
      rw [PyData.eqv, PyData.tuple.injEq]
      induction xs generalizing ys with
      | nil => cases ys <;> simp [PyData.eqvAll]
      | cons x xs ih =>
        cases ys with
        | nil => simp [PyData.eqvAll]
        | cons y ys =>
          rw [PyData.eqvAll, Bool.and_eq_true, okP_eqv (ha x List.mem_cons_self) (hb y List.mem_cons_self), ih ys (fun z hz => ha z (List.mem_cons_of_mem _ hz)) (fun z hz => hb z (List.mem_cons_of_mem _ hz)), List.cons.injEq]
    | _ => simp [PyData.eqv]
theorem okP_mono : ∀ {m k : Nat} {d : D}, okP m d = true → m ≤ k → okP k d = true
  | m, k, .none, _, _ => by cases k <;> rfl
  | m, k, .int _, _, _ => by cases k <;> rfl
  | m, k, .str s, h, _ => by cases k <;> cases m <;> exact h
  | 0, _, .list xs, h, _ => by simp [okP] at h
  | 0, _, .tuple xs, h, _ => by simp [okP] at h
  | 0, _, .dict _, h, _ => by simp [okP] at h
  | _ + 1, _, .dict _, h, _ => by simp [okP] at h
  | 0, _, .bool _, h, _ => by simp [okP] at h
  | _ + 1, _, .bool _, h, _ => by simp [okP] at h
  | m + 1, 0, .list xs, h, l => by omega
  | m + 1, 0, .tuple xs, h, l => by omega
  | m + 1, k + 1, .list xs, h, l => by
    simp only [okP, List.all_eq_true] at h ⊢
    exact fun x hx => okP_mono (h x hx) (by omega)
  | m + 1, k + 1, .tuple xs, h, l => by
    simp only [okP, List.all_eq_true] at h ⊢
    exact fun x hx => okP_mono (h x hx) (by omega)
/-! ## typed data -/
class Enc (α : Type) where
  e : α → D
  inj : ∀ a b, e a = e b → a = b
  m : Nat
  ok : ∀ a, okP m (e a) = true
open Enc (e)
instance : Enc Nat := ⟨dn, fun a b h => by have := PyData.int.inj h; omega, 0, fun _ => rfl⟩
instance : Enc Int := ⟨.int, fun a b h => PyData.int.inj h, 0, fun _ => rfl⟩
theorem map_inj {α β : Type} {f : α → β} (hf : ∀ a b, f a = f b → a = b) : ∀ {xs ys : List α}, xs.map f = ys.map f → xs = ys
  | [], [], _ => rfl
  | [], _ :: _, h => by simp at h
  | _ :: _, [], h => by simp at h
  | x :: xs, y :: ys, h => by
    simp only [List.map_cons, List.cons.injEq] at h
    rw [hf _ _ h.1, map_inj hf h.2]
instance {α : Type} [Enc α] : Enc (List α) := ⟨fun xs => .tuple (xs.map e), fun a b h => map_inj Enc.inj (PyData.tuple.inj h), Enc.m α + 1, fun a => by
  simp only [okP, List.all_eq_true, List.mem_map]
  rintro _ ⟨x, _, rfl⟩
  exact Enc.ok x⟩
instance {α β : Type} [Enc α] [Enc β] : Enc (α × β) := ⟨fun p => .tuple [e p.1, e p.2], fun a b h => by
  have h := PyData.tuple.inj h
  simp only [List.cons.injEq, and_true] at h
  exact Prod.ext (Enc.inj _ _ h.1) (Enc.inj _ _ h.2), max (Enc.m α) (Enc.m β) + 1, fun a => by
  simp only [okP, List.all_cons, List.all_nil, Bool.and_true, Bool.and_eq_true]
  exact ⟨okP_mono (Enc.ok a.1) (Nat.le_max_left _ _), okP_mono (Enc.ok a.2) (Nat.le_max_right _ _)⟩⟩
section
variable {α β : Type} [Enc α] [Enc β]
theorem e_nat (n : Nat) : e n = PyData.int n := rfl
theorem e_list (xs : List α) : e xs = PyData.tuple (xs.map e) := rfl
theorem e_pair (a : α) (b : β) : e (a, b) = PyData.tuple [e a, e b] := rfl
theorem eqv_e [DecidableEq α] (a b : α) : PyData.eqv (e a) (e b) = decide (a = b) := by
  rw [Bool.eq_iff_iff, okP_eqv (Enc.ok a) (Enc.ok b), decide_eq_true_eq]
  exact ⟨Enc.inj a b, fun h => by rw [h]⟩
theorem shaped_e (h : Enc.m α ≤ 64) (a : α) : SeqAt.shaped (e a) = true := okP_shaped (Enc.ok a) h
theorem eqD_e [DecidableEq α] (h : Enc.m α ≤ 64) (a b : α) : eqD (e a) (e b) = some (decide (a = b)) := by
  have key : (if SeqAt.shaped (e a) = true ∧ SeqAt.shaped (e b) = true then some (PyData.eqv (e a) (e b)) else none) = some (decide (a = b)) := by
    rw [if_pos ⟨shaped_e h a, shaped_e h b⟩, eqv_e]
  have q := eqv_e a b
  unfold eqD
  split
  · rename_i i j h1 h2
    rw [h1, h2] at q
    rw [← q, PyData.eqv, Option.some.injEq, Bool.eq_iff_iff, beq_iff_eq, decide_eq_true_eq]
  · exact key
theorem any_e [DecidableEq α] (xs : List α) (k : α) : (xs.map e).any (fun x => PyData.eqv x (e k)) = decide (k ∈ xs) := by
  rw [List.any_map, Bool.eq_iff_iff, List.any_eq_true, decide_eq_true_eq]
  constructor
  · rintro ⟨y, hy, q⟩
    have q : PyData.eqv (e y) (e k) = true := q
    rw [eqv_e, decide_eq_true_eq] at q
    exact q ▸ hy
  · intro h
    exact ⟨k, h, by show PyData.eqv (e k) (e k) = true; rw [eqv_e]; simp⟩
theorem shaped_el (h : Enc.m α + 1 ≤ 64) (xs : List α) : SeqAt.shaped (.list (xs.map e)) = true := by
  refine okP_shaped (m := Enc.m α + 1) ?_ h
  simp only [okP, List.all_eq_true, List.mem_map]
  rintro _ ⟨x, _, rfl⟩
  exact Enc.ok x
theorem eqD_l [DecidableEq α] (h : Enc.m α + 1 ≤ 64) (xs ys : List α) : eqD (.list (xs.map e)) (.list (ys.map e)) = some (decide (xs = ys)) := by
  have q := eqv_e (α := List α) xs ys
  have e1 : PyData.eqv (.list (xs.map e)) (.list (ys.map e)) = PyData.eqv (e xs) (e ys) := by
    rw [e_list, e_list, PyData.eqv, PyData.eqv]
  show (if SeqAt.shaped (.list (xs.map e)) = true ∧ SeqAt.shaped (.list (ys.map e)) = true then some (PyData.eqv (.list (xs.map e)) (.list (ys.map e))) else none) = _
  rw [if_pos ⟨shaped_el h xs, shaped_el h ys⟩, e1, q]
theorem inD_l [DecidableEq α] (h : Enc.m α + 1 ≤ 64) (k : α) (xs : List α) : inD (e k) (.list (xs.map e)) = some (decide (k ∈ xs)) := by
  show (if SeqAt.shaped (e k) = true ∧ SeqAt.shaped (.list (xs.map e)) = true then some ((xs.map e).any fun x => PyData.eqv x (e k)) else none) = _
  rw [if_pos ⟨shaped_e (by omega) k, shaped_el h xs⟩, any_e]
theorem inD_t [DecidableEq α] (h : Enc.m α + 1 ≤ 64) (k : α) (xs : List α) : inD (e k) (.tuple (xs.map e)) = some (decide (k ∈ xs)) := by
  show (if SeqAt.shaped (e k) = true ∧ SeqAt.shaped (.tuple (xs.map e)) = true then some ((xs.map e).any fun x => PyData.eqv x (e k)) else none) = _
  rw [if_pos ⟨shaped_e (by omega) k, shaped_e (α := List α) h xs⟩, any_e]
theorem indexD_e [DecidableEq α] (k : α) : ∀ (xs : List α) (n : Nat), indexD (e k) (xs.map e) n = if k ∈ xs then some (n + xs.idxOf k) else none
  | [], n => by simp [indexD]
  | x :: xs, n => by
    rw [List.map_cons, indexD, eqv_e]
    by_cases h : x = k
    · subst h; simp
    · rw [if_neg (by simpa using h), indexD_e k xs (n + 1)]
      have h' : ¬ k = x := fun z => h z.symm
      have hb : (x == k) = false := by simpa using h
      by_cases hm : k ∈ xs
      · rw [if_pos hm, if_pos (List.mem_cons_of_mem _ hm), List.idxOf_cons, hb]
        simp; omega
      · rw [if_neg hm, if_neg (by simp [h', hm])]
end
/-! ## dicts with typed keys -/
class EncK (α : Type) [Enc α] : Prop where
  key : (∀ a : α, flatK (e a) = true) ∨ (∀ a : α, tupK (e a) = true)
theorem okP_nest : ∀ {m : Nat} {d : D}, okP m d = true → (∀ xs, d ≠ .list xs) → True := fun _ _ => trivial
section
variable {α : Type} [Enc α] [EncK α] [DecidableEq α]
theorem like_e {kvs : List (α × D)} {k : α} : likeKeys (kvs.map fun p => (e p.1, p.2)) (e k) = true := by
  unfold likeKeys
  rw [Bool.or_eq_true, Bool.and_eq_true, Bool.and_eq_true, List.all_eq_true, List.all_eq_true]
  rcases EncK.key (α := α) with h | h
  · exact .inl ⟨fun p hp => by obtain ⟨q, _, rfl⟩ := List.mem_map.mp hp; exact h _, h _⟩
  · exact .inr ⟨fun p hp => by obtain ⟨q, _, rfl⟩ := List.mem_map.mp hp; exact h _, h _⟩
def dlook (kvs : List (α × D)) (k : α) : Option D := (kvs.find? fun p => decide (p.1 = k)).map (·.2)
def dins (kvs : List (α × D)) (k : α) (v : D) : List (α × D) := if kvs.any (fun p => decide (p.1 = k)) then kvs.map fun p => if p.1 = k then (p.1, v) else p else kvs ++ [(k, v)]
theorem dGet_e (kvs : List (α × D)) (k : α) : dGet (kvs.map fun p => (e p.1, p.2)) (e k) = dlook kvs k := by
  unfold dGet dlook
  rw [List.find?_map, Option.map_map]
  have : ((fun p : D × D => PyData.eqv p.1 (e k)) ∘ fun p : α × D => (e p.1, p.2)) = fun p => decide (p.1 = k) := by
    funext p
    exact eqv_e p.1 k
  rw [this]; rfl
theorem dPut_e (kvs : List (α × D)) (k : α) (v : D) : dPut (kvs.map fun p => (e p.1, p.2)) (e k) v = (dins kvs k v).map fun p => (e p.1, p.2) := by
  unfold dPut dins
  have h1 : (kvs.map fun p : α × D => (e p.1, p.2)).any (fun p => PyData.eqv p.1 (e k)) = kvs.any fun p => decide (p.1 = k) := by
    rw [List.any_map]
    congr 1
    funext p
    exact eqv_e p.1 k
  rw [h1]
  split
  · rw [List.map_map, List.map_map]
    refine List.map_congr_left fun p _ => ?_
    show (if PyData.eqv (e p.1) (e k) = true then (e p.1, v) else (e p.1, p.2)) = (fun p : α × D => (e p.1, p.2)) (if p.1 = k then (p.1, v) else p)
    rw [eqv_e]
    by_cases h : p.1 = k <;> simp [h]
  · rw [List.map_append]; rfl
end
end E2
namespace E2
open PySem L2
/-- a comprehension whose walk leaves the frame alone -/
theorem lc_w {G : Gs} {α : Type} {Q : R → En → Prop} {X : Ex → En → Prop} (g : α → D) (p : α → Bool) (f : α → D) (as : List α) {own : List (Str × Nat)} {tg : Tg} {it : CI} {cond : CTo} {elt : CE} {r : En} (hi : evI G it r = .ok (as.map g) r) (hl : as.length ≤ 16777216)
    (hs : ∀ a ∈ as, ∃ r2, bindT (g a) (wipeE r (own.map (·.2))) tg = some r2 ∧ (evC G cond r2).w (fun k r3 => k = p a ∧ wipeE r3 (own.map (·.2)) = wipeE r (own.map (·.2)) ∧ (p a = true → (evE G elt r3).w (fun x r4 => (∃ o, x = .val o (f a)) ∧ wipeE r4 (own.map (·.2)) = wipeE r (own.map (·.2))) fun _ _ => False)) fun _ _ => False)
    (hq : Q (.val true (.list ((as.filter p).map f))) r) (hb : wipeE (wipeE r (own.map (·.2))) (own.map (·.2)) = wipeE r (own.map (·.2)) ∧ backE r (wipeE r (own.map (·.2))) (own.map (·.2)) = r ∧ backE r r (own.map (·.2)) = r := by exact ⟨rfl, rfl, rfl⟩) :
    (evE G (.lc own tg it cond elt) r).w Q X := by
  rw [lc_eq g p f as hi hl rfl hb.1 hb.2.1 hb.2.2 hs]
  exact .ok hq
theorem lcN_w {G : Gs} {α : Type} {Q : R → En → Prop} {X : Ex → En → Prop} (g : α → D) (f : α → D) (as : List α) {own : List (Str × Nat)} {tg : Tg} {it : CI} {elt : CE} {r : En} (hi : evI G it r = .ok (as.map g) r) (hl : as.length ≤ 16777216)
    (hs : ∀ a ∈ as, ∃ r2, bindT (g a) (wipeE r (own.map (·.2))) tg = some r2 ∧ wipeE r2 (own.map (·.2)) = wipeE r (own.map (·.2)) ∧ (evE G elt r2).w (fun x r4 => (∃ o, x = .val o (f a)) ∧ wipeE r4 (own.map (·.2)) = wipeE r (own.map (·.2))) fun _ _ => False)
    (hq : Q (.val true (.list (as.map f))) r) (hb : wipeE (wipeE r (own.map (·.2))) (own.map (·.2)) = wipeE r (own.map (·.2)) ∧ backE r (wipeE r (own.map (·.2))) (own.map (·.2)) = r ∧ backE r r (own.map (·.2)) = r := by exact ⟨rfl, rfl, rfl⟩) :
    (evE G (.lc own tg it .non elt) r).w Q X := by
  rw [lcN_eq g f as hi hl rfl hb.1 hb.2.1 hb.2.2 hs]
  exact .ok hq
theorem lc_w1 (r1 : En) {G : Gs} {α : Type} {Q : R → En → Prop} {X : Ex → En → Prop} (g : α → D) (p : α → Bool) (f : α → D) (as : List α) {own : List (Str × Nat)} {tg : Tg} {it : CI} {cond : CTo} {elt : CE} {r : En} (hi : evI G it r = .ok (as.map g) r1) (hl : as.length ≤ 16777216)
    (hs : ∀ a ∈ as, ∃ r2, bindT (g a) (wipeE r1 (own.map (·.2))) tg = some r2 ∧ (evC G cond r2).w (fun k r3 => k = p a ∧ wipeE r3 (own.map (·.2)) = wipeE r1 (own.map (·.2)) ∧ (p a = true → (evE G elt r3).w (fun x r4 => (∃ o, x = .val o (f a)) ∧ wipeE r4 (own.map (·.2)) = wipeE r1 (own.map (·.2))) fun _ _ => False)) fun _ _ => False)
    (hq : Q (.val true (.list ((as.filter p).map f))) r1) (hb : wipeE (wipeE r1 (own.map (·.2))) (own.map (·.2)) = wipeE r1 (own.map (·.2)) ∧ backE r1 (wipeE r1 (own.map (·.2))) (own.map (·.2)) = r1 ∧ backE r1 r1 (own.map (·.2)) = r1 := by exact ⟨rfl, rfl, rfl⟩) :
    (evE G (.lc own tg it cond elt) r).w Q X := by
  rw [lc_eq g p f as hi hl rfl hb.1 hb.2.1 hb.2.2 hs]
  exact .ok hq
theorem lcN_w1 (r1 : En) {G : Gs} {α : Type} {Q : R → En → Prop} {X : Ex → En → Prop} (g : α → D) (f : α → D) (as : List α) {own : List (Str × Nat)} {tg : Tg} {it : CI} {elt : CE} {r : En} (hi : evI G it r = .ok (as.map g) r1) (hl : as.length ≤ 16777216)
    (hs : ∀ a ∈ as, ∃ r2, bindT (g a) (wipeE r1 (own.map (·.2))) tg = some r2 ∧ wipeE r2 (own.map (·.2)) = wipeE r1 (own.map (·.2)) ∧ (evE G elt r2).w (fun x r4 => (∃ o, x = .val o (f a)) ∧ wipeE r4 (own.map (·.2)) = wipeE r1 (own.map (·.2))) fun _ _ => False)
    (hq : Q (.val true (.list (as.map f))) r1) (hb : wipeE (wipeE r1 (own.map (·.2))) (own.map (·.2)) = wipeE r1 (own.map (·.2)) ∧ backE r1 (wipeE r1 (own.map (·.2))) (own.map (·.2)) = r1 ∧ backE r1 r1 (own.map (·.2)) = r1 := by exact ⟨rfl, rfl, rfl⟩) :
    (evE G (.lc own tg it .non elt) r).w Q X := by
  rw [lcN_eq g f as hi hl rfl hb.1 hb.2.1 hb.2.2 hs]
  exact .ok hq
end E2

set_option Elab.async false
set_option linter.all false
set_option maxRecDepth 100000
set_option maxHeartbeats 1000000
namespace E2
open PySem L2
/-! ## comprehensions with two clauses -/
theorem wipe_get : ∀ (vs : List Nat) (r : En) (i : Nat), (wipeE r vs)[i]? = if i ∈ vs ∧ i < r.length then some none else r[i]?
  | [], r, i => by simp
  | v :: vs, r, i => by
    have hl : (wipeE r vs).length = r.length := by
      clear v
      induction vs with
      | nil => rfl
      | cons v vs ih => rw [wipeE_cons, List.length_set, ih]
    rw [wipeE_cons, List.getElem?_set, wipe_get vs r i, hl]
    by_cases h1 : v = i
    · subst h1
      by_cases h2 : v < r.length
      · simp [h2]
      · simp [h2, List.getElem?_eq_none (Nat.le_of_not_lt h2)]
    · have h1' : ¬ i = v := fun z => h1 z.symm
      simp [h1, h1']
theorem wipeE_absorb {vs vs1 : List Nat} (h : ∀ i ∈ vs1, i ∈ vs) (r : En) : wipeE (wipeE r vs1) vs = wipeE r vs := by
  apply List.ext_getElem?
  intro i
  have hl : (wipeE r vs1).length = r.length := by
    clear h
    induction vs1 with
    | nil => rfl
    | cons v vs ih => rw [wipeE_cons, List.length_set, ih]
  rw [wipe_get, wipe_get, wipe_get, hl]
  by_cases h1 : i < r.length
  · by_cases h2 : i ∈ vs
    · simp [h1, h2]
    · have h3 : i ∉ vs1 := fun z => h2 (h i z)
      simp [h2, h3]
  · simp [h1]
/-- the walk of two clauses; g, g1 the items, p, p1 the tests, f the element -/
theorem lc2Go_eq {G : Gs} {α β : Type} (g : α → D) (p : α → Bool) (bs : α → List β) (g1 : α → β → D) (p1 : α → β → Bool) (f : α → β → D) {vs vs1 : List Nat} {tg tg1 : Tg} {it1 : CI} {cond cond1 : CTo} {elt : CE} {r0 : En} (hw : wipeE r0 vs = r0) (hsub : ∀ i ∈ vs1, i ∈ vs) :
    ∀ (as : List α) (acc : List D) (r : En), (∀ a ∈ as, ∃ r2, bindT (g a) r0 tg = some r2 ∧ (evC G cond r2).w (fun k r3 => k = p a ∧ wipeE r3 vs = r0 ∧ (p a = true → evI G it1 r3 = .ok ((bs a).map (g1 a)) r3 ∧ ∀ b ∈ bs a, ∃ r5, bindT (g1 a b) (wipeE r3 vs1) tg1 = some r5 ∧
        (evC G cond1 r5).w (fun k r6 => k = p1 a b ∧ wipeE r6 vs1 = wipeE r3 vs1 ∧ (p1 a b = true → (evE G elt r6).w (fun x r7 => (∃ o, x = .val o (f a b)) ∧ wipeE r7 vs1 = wipeE r3 vs1) fun _ _ => False)) fun _ _ => False)) fun _ _ => False) →
      wipeE r vs = r0 → acc.length + (as.map fun a => (bs a).length).sum ≤ sizeLine →
      ∃ r', lc2Go vs vs1 (fun d r => bindT d r tg) (evC G cond) (evI G it1) (fun d r => bindT d r tg1) (evC G cond1) (evE G elt) (as.map g) acc r = .ok (acc ++ (as.filter p).flatMap fun a => ((bs a).filter (p1 a)).map (f a)) r' ∧ wipeE r' vs = r0 ∧ (r' = r ∨ r' = r0)
  | [], acc, r, _, h, _ => ⟨r, by simp [lc2Go], h, .inl rfl⟩
  | a :: as, acc, r, hs, h, hl => by
    obtain ⟨r2, e1, e2⟩ := hs a List.mem_cons_self
    obtain ⟨k, r3, e3, rfl, e4, e5⟩ := Rs.w_eq e2
    have hs' := fun a h => hs a (List.mem_cons_of_mem _ h)
    rw [List.map_cons, List.sum_cons] at hl
    cases hp : p a with
    | false =>
      obtain ⟨r', q1, q2, q3⟩ := lc2Go_eq g p bs g1 p1 f hw hsub as acc (wipeE r3 vs) hs' (by rw [e4, hw]) (by omega)
      refine ⟨r', ?_, q2, ?_⟩
      · rw [List.map_cons]
        simp only [lc2Go, h, e1, e3, hp]
        rw [q1, List.filter_cons_of_neg (by simp [hp])]
      · rw [e4] at q3
        exact .inr (q3.elim id id)
    | true =>
      obtain ⟨e6, e7⟩ := e5 hp
      obtain ⟨r4, w1, w2, w3⟩ := lcGo_eq (vs := vs1) (bind := fun d r => bindT d r tg1) (cond := evC G cond1) (elt := evE G elt) (g1 a) (p1 a) (f a) (r0 := wipeE r3 vs1) (wipeE_absorb (fun _ h => h) r3) (bs a) acc r3 (fun b hb => by
        obtain ⟨r5, z1, z2⟩ := e7 b hb
        obtain ⟨k, r6, z3, rfl, z4, z5⟩ := Rs.w_eq z2
        refine ⟨r5, z1, r6, z3, z4, fun hp => ?_⟩
        obtain ⟨x, r7, z6, ⟨o, rfl⟩, z7⟩ := Rs.w_eq (z5 hp)
        exact ⟨o, r7, z6, z7⟩) rfl (by omega)
      have hr4 : wipeE r4 vs = r0 := by
        rw [← wipeE_absorb hsub r4, w2, wipeE_absorb hsub, e4]
      have hlen : (acc ++ ((bs a).filter (p1 a)).map (f a)).length + (as.map fun a => (bs a).length).sum ≤ sizeLine := by
        have := List.length_filter_le (p1 a) (bs a)
        simp only [List.length_append, List.length_map]
        omega
      obtain ⟨r', q1, q2, q3⟩ := lc2Go_eq g p bs g1 p1 f hw hsub as (acc ++ ((bs a).filter (p1 a)).map (f a)) (wipeE r4 vs) hs' (by rw [hr4, hw]) hlen
      refine ⟨r', ?_, q2, ?_⟩
      · rw [List.map_cons]
        simp only [lc2Go, h, e1, e3, hp, e6, w1]
        rw [q1, List.filter_cons_of_pos (by simp [hp])]
        simp
      · rw [hr4] at q3
        exact .inr (q3.elim id id)
theorem lc2_w {G : Gs} {α β : Type} {Q : R → En → Prop} {X : Ex → En → Prop} (g : α → D) (p : α → Bool) (bs : α → List β) (g1 : α → β → D) (p1 : α → β → Bool) (f : α → β → D) (as : List α) {own : List (Str × Nat)} {vs1 : List Nat} {tg tg1 : Tg} {it it1 : CI} {cond cond1 : CTo} {elt : CE} {r : En}
    (hi : evI G it r = .ok (as.map g) r) (hl : (as.map fun a => (bs a).length).sum ≤ 16777216)
    (hs : ∀ a ∈ as, ∃ r2, bindT (g a) (wipeE r (own.map (·.2))) tg = some r2 ∧ (evC G cond r2).w (fun k r3 => k = p a ∧ wipeE r3 (own.map (·.2)) = wipeE r (own.map (·.2)) ∧ (p a = true → evI G it1 r3 = .ok ((bs a).map (g1 a)) r3 ∧ ∀ b ∈ bs a, ∃ r5, bindT (g1 a b) (wipeE r3 vs1) tg1 = some r5 ∧
        (evC G cond1 r5).w (fun k r6 => k = p1 a b ∧ wipeE r6 vs1 = wipeE r3 vs1 ∧ (p1 a b = true → (evE G elt r6).w (fun x r7 => (∃ o, x = .val o (f a b)) ∧ wipeE r7 vs1 = wipeE r3 vs1) fun _ _ => False)) fun _ _ => False)) fun _ _ => False)
    (hq : Q (.val true (.list ((as.filter p).flatMap fun a => ((bs a).filter (p1 a)).map (f a)))) r)
    (hb : wipeE (wipeE r (own.map (·.2))) (own.map (·.2)) = wipeE r (own.map (·.2)) ∧ backE r (wipeE r (own.map (·.2))) (own.map (·.2)) = r ∧ backE r r (own.map (·.2)) = r := by exact ⟨rfl, rfl, rfl⟩)
    (hsub : vs1.all (fun i => (own.map (·.2)).contains i) = true := by rfl) :
    (evE G (.lc2 own vs1 tg it cond tg1 it1 cond1 elt) r).w Q X := by
  have hsub' : ∀ i ∈ vs1, i ∈ own.map (·.2) := fun i hi => by
    have := List.all_eq_true.mp hsub i hi
    simpa using this
  obtain ⟨r', q1, q2, q3⟩ := lc2Go_eq (tg1 := tg1) (it1 := it1) (cond := cond) (cond1 := cond1) (elt := elt) g p bs g1 p1 f hb.1 hsub' as [] r hs rfl (by rw [sizeLine_eq, List.length_nil]; omega)
  rw [evE, hi]
  simp only [bind_okR]
  rw [q1]
  simp only [bind_okR, List.nil_append]
  rcases q3 with e | e
  · rw [e, hb.2.2]
    exact .ok hq
  · rw [e, hb.2.1]
    exact .ok hq
theorem lc2_w1 (r1 : En) {G : Gs} {α β : Type} {Q : R → En → Prop} {X : Ex → En → Prop} (g : α → D) (p : α → Bool) (bs : α → List β) (g1 : α → β → D) (p1 : α → β → Bool) (f : α → β → D) (as : List α) {own : List (Str × Nat)} {vs1 : List Nat} {tg tg1 : Tg} {it it1 : CI} {cond cond1 : CTo} {elt : CE} {r : En}
    (hi : evI G it r = .ok (as.map g) r1) (hl : (as.map fun a => (bs a).length).sum ≤ 16777216)
    (hs : ∀ a ∈ as, ∃ r2, bindT (g a) (wipeE r1 (own.map (·.2))) tg = some r2 ∧ (evC G cond r2).w (fun k r3 => k = p a ∧ wipeE r3 (own.map (·.2)) = wipeE r1 (own.map (·.2)) ∧ (p a = true → evI G it1 r3 = .ok ((bs a).map (g1 a)) r3 ∧ ∀ b ∈ bs a, ∃ r5, bindT (g1 a b) (wipeE r3 vs1) tg1 = some r5 ∧
        (evC G cond1 r5).w (fun k r6 => k = p1 a b ∧ wipeE r6 vs1 = wipeE r3 vs1 ∧ (p1 a b = true → (evE G elt r6).w (fun x r7 => (∃ o, x = .val o (f a b)) ∧ wipeE r7 vs1 = wipeE r3 vs1) fun _ _ => False)) fun _ _ => False)) fun _ _ => False)
    (hq : Q (.val true (.list ((as.filter p).flatMap fun a => ((bs a).filter (p1 a)).map (f a)))) r1)
    (hb : wipeE (wipeE r1 (own.map (·.2))) (own.map (·.2)) = wipeE r1 (own.map (·.2)) ∧ backE r1 (wipeE r1 (own.map (·.2))) (own.map (·.2)) = r1 ∧ backE r1 r1 (own.map (·.2)) = r1 := by exact ⟨rfl, rfl, rfl⟩)
    (hsub : vs1.all (fun i => (own.map (·.2)).contains i) = true := by rfl) :
    (evE G (.lc2 own vs1 tg it cond tg1 it1 cond1 elt) r).w Q X := by
  have hsub' : ∀ i ∈ vs1, i ∈ own.map (·.2) := fun i hi => by
    have := List.all_eq_true.mp hsub i hi
    simpa using this
  obtain ⟨r', q1, q2, q3⟩ := lc2Go_eq (tg1 := tg1) (it1 := it1) (cond := cond) (cond1 := cond1) (elt := elt) g p bs g1 p1 f hb.1 hsub' as [] r1 hs rfl (by rw [sizeLine_eq, List.length_nil]; omega)
  rw [evE, hi]
  simp only [bind_okR]
  rw [q1]
  simp only [bind_okR, List.nil_append]
  rcases q3 with e | e
  · rw [e, hb.2.2]
    exact .ok hq
  · rw [e, hb.2.1]
    exact .ok hq
end E2
namespace E2
open PySem L2
theorem rngD_2 {a b : Nat} (h : b ≤ 16777216) (h' : a ≤ 16777216) : rngD [.int a, .int b] = some ((List.range' a (b - a)).map dn) := by
  rw [rngD_two h h', List.range'_eq_map_range, List.map_map]; rfl
theorem rngD_2s {a b : Nat} (h : b ≤ 16777216) (h' : a + 1 ≤ 16777216) : rngD [.int ((a : Int) + 1), .int b] = some ((List.range' (a + 1) (b - (a + 1))).map dn) := rngD_2 (a := a + 1) h h'
end E2
namespace E2
open PySem L2
/-! ## dict comprehensions -/
theorem dPut_len (kvs : List (D × D)) (k v : D) : (dPut kvs k v).length ≤ kvs.length + 1 := by
  unfold dPut
  split <;> simp
theorem dPut_flat {kvs : List (D × D)} {k v : D} (h : kvs.all (fun p => flatK p.1) = true) (hk : flatK k = true) : (dPut kvs k v).all (fun p => flatK p.1) = true := by
  rw [List.all_eq_true] at h ⊢
  intro p hp
  unfold dPut at hp
  split at hp
  · obtain ⟨q, hq, rfl⟩ := List.mem_map.mp hp
    have := h q hq
    split <;> exact this
  · rcases List.mem_append.mp hp with z | z
    · exact h p z
    · have : p = (k, v) := by simpa using z
      subst this
      exact hk
def dcFold {α : Type} (p : α → Bool) (fk fv : α → D) (as : List α) (acc : List (D × D)) : List (D × D) := (as.filter p).foldl (fun acc a => dPut acc (fk a) (fv a)) acc
theorem dcGo_eq {G : Gs} {α : Type} (g : α → D) (p : α → Bool) (fk fv : α → D) {vs : List Nat} {tg : Tg} {cond : CTo} {ek ev : CE} {r0 : En} (hw : wipeE r0 vs = r0) :
    ∀ (as : List α) (acc : List (D × D)) (r : En), (∀ a ∈ as, flatK (fk a) = true ∧ ∃ r2, bindT (g a) r0 tg = some r2 ∧ (evC G cond r2).w (fun k r3 => k = p a ∧ wipeE r3 vs = r0 ∧ (p a = true → (evE G ek r3).w (fun x r4 => (∃ o, x = .val o (fk a)) ∧ (evE G ev r4).w (fun y r5 => (∃ o, y = .val o (fv a)) ∧ wipeE r5 vs = r0) fun _ _ => False) fun _ _ => False)) fun _ _ => False) →
      wipeE r vs = r0 → acc.all (fun p => flatK p.1) = true → acc.length + as.length ≤ sizeLine →
      ∃ r', dcGo vs (fun d r => bindT d r tg) (evC G cond) (evE G ek) (evE G ev) (as.map g) acc r = .ok (dcFold p fk fv as acc) r' ∧ wipeE r' vs = r0 ∧ (r' = r ∨ r' = r0)
  | [], acc, r, _, h, _, _ => ⟨r, by simp [dcGo, dcFold], h, .inl rfl⟩
  | a :: as, acc, r, hs, h, hf, hl => by
    obtain ⟨hk, r2, e1, e2⟩ := hs a List.mem_cons_self
    obtain ⟨k, r3, e3, rfl, e4, e5⟩ := Rs.w_eq e2
    have hs' := fun a h => hs a (List.mem_cons_of_mem _ h)
    rw [List.length_cons] at hl
    cases hp : p a with
    | false =>
      obtain ⟨r', q1, q2, q3⟩ := dcGo_eq g p fk fv hw as acc (wipeE r3 vs) hs' (by rw [e4, hw]) hf (by omega)
      refine ⟨r', ?_, q2, ?_⟩
      · rw [List.map_cons]
        simp only [dcGo, h, e1, e3, hp]
        rw [q1]
        unfold dcFold
        rw [List.filter_cons_of_neg (by simp [hp])]
      · rw [e4] at q3
        exact .inr (q3.elim id id)
    | true =>
      obtain ⟨x, r4, e6, ⟨o, rfl⟩, e7⟩ := Rs.w_eq (e5 hp)
      obtain ⟨y, r5, e8, ⟨o', rfl⟩, e9⟩ := Rs.w_eq e7
      have hlen := dPut_len acc (fk a) (fv a)
      obtain ⟨r', q1, q2, q3⟩ := dcGo_eq g p fk fv hw as (dPut acc (fk a) (fv a)) (wipeE r5 vs) hs' (by rw [e9, hw]) (dPut_flat hf hk) (by omega)
      refine ⟨r', ?_, q2, ?_⟩
      · rw [List.map_cons]
        have ht : takes r5 [.val o (fk a), .val o' (fv a)] = some ([fk a, fv a], r5) := rfl
        simp only [dcGo, h, e1, e3, hp, e6, e8, ht]
        rw [if_pos ⟨by rw [hf, hk]; rfl, by omega⟩, q1]
        unfold dcFold
        rw [List.filter_cons_of_pos (by simp [hp]), List.foldl_cons]
      · rw [e9] at q3
        exact .inr (q3.elim id id)
theorem dc_w {G : Gs} {α : Type} {Q : R → En → Prop} {X : Ex → En → Prop} (g : α → D) (p : α → Bool) (fk fv : α → D) (as : List α) {own : List (Str × Nat)} {tg : Tg} {it : CI} {cond : CTo} {ek ev : CE} {r : En} (hi : evI G it r = .ok (as.map g) r) (hl : as.length ≤ 16777216)
    (hs : ∀ a ∈ as, flatK (fk a) = true ∧ ∃ r2, bindT (g a) (wipeE r (own.map (·.2))) tg = some r2 ∧ (evC G cond r2).w (fun k r3 => k = p a ∧ wipeE r3 (own.map (·.2)) = wipeE r (own.map (·.2)) ∧ (p a = true → (evE G ek r3).w (fun x r4 => (∃ o, x = .val o (fk a)) ∧ (evE G ev r4).w (fun y r5 => (∃ o, y = .val o (fv a)) ∧ wipeE r5 (own.map (·.2)) = wipeE r (own.map (·.2))) fun _ _ => False) fun _ _ => False)) fun _ _ => False)
    (hq : Q (.val true (.dict (dcFold p fk fv as []))) r)
    (hb : wipeE (wipeE r (own.map (·.2))) (own.map (·.2)) = wipeE r (own.map (·.2)) ∧ backE r (wipeE r (own.map (·.2))) (own.map (·.2)) = r ∧ backE r r (own.map (·.2)) = r := by exact ⟨rfl, rfl, rfl⟩) :
    (evE G (.dc own tg it cond ek ev) r).w Q X := by
  obtain ⟨r', q1, q2, q3⟩ := dcGo_eq (cond := cond) (ek := ek) (ev := ev) g p fk fv hb.1 as [] r hs rfl rfl (by rw [sizeLine_eq, List.length_nil]; omega)
  rw [evE, hi]
  simp only [bind_okR]
  rw [q1]
  simp only [bind_okR]
  rcases q3 with e | e
  · rw [e, hb.2.2]
    exact .ok hq
  · rw [e, hb.2.1]
    exact .ok hq
theorem dc_w1 (r1 : En) {G : Gs} {α : Type} {Q : R → En → Prop} {X : Ex → En → Prop} (g : α → D) (p : α → Bool) (fk fv : α → D) (as : List α) {own : List (Str × Nat)} {tg : Tg} {it : CI} {cond : CTo} {ek ev : CE} {r : En} (hi : evI G it r = .ok (as.map g) r1) (hl : as.length ≤ 16777216)
    (hs : ∀ a ∈ as, flatK (fk a) = true ∧ ∃ r2, bindT (g a) (wipeE r1 (own.map (·.2))) tg = some r2 ∧ (evC G cond r2).w (fun k r3 => k = p a ∧ wipeE r3 (own.map (·.2)) = wipeE r1 (own.map (·.2)) ∧ (p a = true → (evE G ek r3).w (fun x r4 => (∃ o, x = .val o (fk a)) ∧ (evE G ev r4).w (fun y r5 => (∃ o, y = .val o (fv a)) ∧ wipeE r5 (own.map (·.2)) = wipeE r1 (own.map (·.2))) fun _ _ => False) fun _ _ => False)) fun _ _ => False)
    (hq : Q (.val true (.dict (dcFold p fk fv as []))) r1)
    (hb : wipeE (wipeE r1 (own.map (·.2))) (own.map (·.2)) = wipeE r1 (own.map (·.2)) ∧ backE r1 (wipeE r1 (own.map (·.2))) (own.map (·.2)) = r1 ∧ backE r1 r1 (own.map (·.2)) = r1 := by exact ⟨rfl, rfl, rfl⟩) :
    (evE G (.dc own tg it cond ek ev) r).w Q X := by
  obtain ⟨r', q1, q2, q3⟩ := dcGo_eq (cond := cond) (ek := ek) (ev := ev) g p fk fv hb.1 as [] r1 hs rfl rfl (by rw [sizeLine_eq, List.length_nil]; omega)
  rw [evE, hi]
  simp only [bind_okR]
  rw [q1]
  simp only [bind_okR]
  rcases q3 with e | e
  · rw [e, hb.2.2]
    exact .ok hq
  · rw [e, hb.2.1]
    exact .ok hq
/-- new keys, one after another -/
theorem dcFold_new {α : Type} [Enc α] [EncK α] [DecidableEq α] (v : α → D) : ∀ (as acc : List α), (acc ++ as).Nodup → dcFold (fun _ => true) Enc.e v as (acc.map fun a => (Enc.e a, v a)) = (acc ++ as).map fun a => (Enc.e a, v a)
  | [], acc, _ => by simp [dcFold]
  | a :: as, acc, hn => by
    have hn' : ((acc ++ [a]) ++ as).Nodup := by simpa using hn
    have ih := dcFold_new v as (acc ++ [a]) hn'
    unfold dcFold at ih ⊢
    rw [List.filter_cons_of_pos rfl, List.foldl_cons]
    have e1 : (acc.map fun a => (Enc.e a, v a)) = (acc.map fun a => (a, v a)).map fun p => (Enc.e p.1, p.2) := by rw [List.map_map]; rfl
    have e2 : dPut (acc.map fun a => (Enc.e a, v a)) (Enc.e a) (v a) = (acc ++ [a]).map fun a => (Enc.e a, v a) := by
      rw [e1, dPut_e]
      unfold dins
      rw [if_neg (by
        simp only [List.any_map, List.any_eq_true, not_exists, not_and]
        intro x hx q
        have : x = a := by simpa using q
        rw [List.nodup_append] at hn
        exact hn.2.2 x hx a List.mem_cons_self this)]
      simp
    rw [e2, ih]
    simp
theorem bin_tt {x y : List D} (h : x.length + y.length ≤ 16777216) : binD .Add (.tuple x) (.tuple y) = some (false, .tuple (x ++ y)) := by
  rw [← sizeLine_eq] at h
  exact if_pos h
theorem bin_ll {x y : List D} (h : x.length + y.length ≤ 16777216) : binD .Add (.list x) (.list y) = some (true, .list (x ++ y)) := by
  rw [← sizeLine_eq] at h
  exact if_pos h
end E2
namespace E2
open PySem L2
@[simp] theorem x_tup {G : Gs} {ts : TXs} {ds : List D} {r : En} : evX G (.tup ts) (.tuple ds) r = gS (ds.length = lenTX ts) (evXs G ts ds r) := by rw [evX]; rfl
@[simp ↓] theorem w_x_tup {G : Gs} {ts : TXs} {ds : List D} {r : En} {Q : Unit → En → Prop} {X : Ex → En → Prop} : (evX G (.tup ts) (.tuple ds) r).w Q X ↔ ((gS (ds.length = lenTX ts) (evXs G ts ds r) : Rs Unit)).w Q X := by rw [x_tup]
@[simp] theorem xs_nil {G : Gs} {r : En} : evXs G .nil [] r = .ok () r := by rw [evXs]
@[simp] theorem xs_cons {G : Gs} {t : TX} {ts : TXs} {d : D} {ds : List D} {r : En} : evXs G (.cons t ts) (d :: ds) r = (evX G t d r).bind fun _ r1 => evXs G ts ds r1 := by rw [evXs]
@[simp ↓] theorem w_xs_nil {G : Gs} {r : En} {Q : Unit → En → Prop} {X : Ex → En → Prop} : (evXs G .nil [] r).w Q X ↔ (Rs.ok () r).w Q X := by rw [xs_nil]
@[simp ↓] theorem w_xs_cons {G : Gs} {t : TX} {ts : TXs} {d : D} {ds : List D} {r : En} {Q : Unit → En → Prop} {X : Ex → En → Prop} : (evXs G (.cons t ts) (d :: ds) r).w Q X ↔ (((evX G t d r).bind fun _ r1 => evXs G ts ds r1 : Rs Unit)).w Q X := by rw [xs_cons]
@[simp] theorem lenTX_nil : lenTX .nil = 0 := same rfl
@[simp] theorem lenTX_cons {t : TX} {ts : TXs} : lenTX (.cons t ts) = lenTX ts + 1 := same rfl
end E2
namespace E2
open PySem L2
@[simp high] theorem blt_tuple_tn {α : Type} {f : α → Nat} {xs : List α} : bltD .tuple [.list (xs.map fun a => dn (f a))] = some (false, tn (xs.map f)) := by
  have e : tn (xs.map f) = .tuple (xs.map fun a => dn (f a)) := by
    show PyData.tuple ((xs.map f).map dn) = _
    rw [List.map_map]; rfl
  rw [e]; exact blt_tuple_list
end E2
namespace E2
open PySem L2
@[simp] theorem methT_it {xs : List D} : methT .index (.tuple xs) = "tuple" := same rfl
@[simp] theorem methT_il {xs : List D} : methT .index (.list xs) = "list" := same rfl
@[simp] theorem tyN_t {xs : List D} : tyName (.tuple xs) = "tuple" := same rfl
@[simp] theorem tyN_l {xs : List D} : tyName (.list xs) = "list" := same rfl
theorem index_tn {xs : List Nat} {k : Nat} (h : k ∈ xs) : methD .index (.tuple (xs.map dn)) [.int k] = some (false, .int (xs.idxOf k)) := by
  have e := indexD_e k xs 0
  rw [if_pos h] at e
  show (if SeqAt.shaped (.list (xs.map dn)) = true ∧ SeqAt.shaped (dn k) = true then (indexD (dn k) (xs.map dn) 0).map (fun n => (false, PyData.int (n : Nat))) else none) = _
  rw [if_pos ⟨shaped_dnl xs, shaped_dn k⟩]
  have e' : indexD (dn k) (xs.map dn) 0 = some (0 + xs.idxOf k) := e
  rw [e', Nat.zero_add]; rfl
end E2
namespace E2
/-- an invariant that simp leaves as it stands -/
structure Ih (I : En → Prop) (r : En) (_t : Blk I := ⟨⟩) : Prop where
  h : I r
end E2
namespace E2
open PySem L2
/-- a loop over a written list, turn by turn -/
theorem forC_w {bind : D → En → Option En} {b : En → So} {P : Pt} {d : D} {ds : List D} {r r1 : En} (h : bind d r = some r1) (hb : (b r1).w (P.lp fun r2 => (forF bind b ds r2).w P)) : (forF bind b (d :: ds) r).w P := by
  unfold forF
  simp only [h]
  generalize b r1 = o at hb ⊢
  cases o with
  | nx r2 => exact nx_w.mp hb
  | cont r2 => exact cont_w.mp hb
  | brk r2 => have q := brk_w.mp hb; exact .nx q
  | ret x r2 => have q := ret_w.mp hb; exact .ret q
  | exc x r2 => have q := sexc_w.mp hb; exact .exc q
  | stuck => exact (sstuck_w.mp hb).elim
theorem forN_w {bind : D → En → Option En} {b : En → So} {P : Pt} {r : En} (h : P.nx r) : (forF bind b [] r).w P := .nx h
end E2
namespace E2
open PySem L2
theorem forD_w {bind : D → En → Option En} {b : En → So} {P : Pt} (I : List D → En → Prop) (hs : ∀ a as r, I (a :: as) r → ∃ r1, bind a r = some r1 ∧ (b r1).w (P.lp (I as))) (he : ∀ r, I [] r → P.nx r) (as : List D) (r : En) (h : I as r) : (forF bind b as r).w P := by
  have := for_w (fun d : D => d) I hs he as r h
  rwa [List.map_id'] at this
end E2

set_option Elab.async false
set_option linter.all false
set_option maxRecDepth 100000
set_option maxHeartbeats 1000000
namespace E2
open PySem L2
/-! ## x op= e and x[i] op= e -/
def svV : Option (Option Sv) → Option D
  | some (some (.dat false d)) => some d
  | _ => none
@[simp] theorem svV_d {d : D} : svV (some (some (.dat false d))) = some d := same rfl
def augV (op : Operator) : D → D → Option D
  | .int a, .int b => (binD op (.int a) (.int b)).map (·.2)
  | _, _ => none
def dI : D → Option Int
  | .int a => some a
  | _ => none
@[simp] theorem dI_i {a : Int} : dI (.int a) = some a := same rfl
@[simp] theorem augV_add {a b : Int} : augV .Add (.int a) (.int b) = some (.int (a + b)) := same rfl
@[simp] theorem augV_sub {a b : Int} : augV .Sub (.int a) (.int b) = some (.int (a - b)) := same rfl
section
variable {G : Gs} {r : En} {P : Pt}
@[simp] theorem s_aug {i : Nat} {op : Operator} {e : CE} : evS G (.aug i op e) r = oX (svV r[i]?) fun d => (evE G e r).so fun y r1 => oX (dref r1 y) fun f => oX (augV op d f) fun v => oX (gO (i < r1.length) (some (r1.set i (some (.dat false v))))) fun r2 => .nx r2 := by
  rw [evS]
  cases r[i]? with
  | none => rfl
  | some x => cases x with
    | none => rfl
    | some y => cases y with
      | dat o d => cases o with
        | true => rfl
        | false =>
          rw [svV_d, oX_some]
          refine so_ext fun y r1 => ?_
          cases dref r1 y with
          | none => rfl
          | some f =>
            rw [oX_some]
            cases d with
            | int a => cases f with
              | int b =>
                show (match binD op (.int a) (.int b) with
                  | some (_, v) => if i < r1.length then So.nx (r1.set i (some (.dat false v))) else .stuck
                  | none => .stuck) = oX ((binD op (.int a) (.int b)).map (·.2)) _
                cases binD op (.int a) (.int b) with
                | none => rfl
                | some q =>
                  show (if i < r1.length then So.nx (r1.set i (some (.dat false q.2))) else .stuck) = oX (gO _ _) _
                  unfold gO
                  by_cases h : i < r1.length
                  · rw [if_pos h, if_pos h]; rfl
                  · rw [if_neg h, if_neg h]; rfl
              | _ => rfl
            | _ => rfl
      | _ => rfl
@[simp ↓] theorem w_s_aug {i : Nat} {op : Operator} {e : CE} : (evS G (.aug i op e) r).w P ↔ ((oX (svV r[i]?) fun d => (evE G e r).so fun y r1 => oX (dref r1 y) fun f => oX (augV op d f) fun v => oX (gO (i < r1.length) (some (r1.set i (some (.dat false v))))) fun r2 => .nx r2 : So)).w P := by rw [s_aug]
@[simp] theorem s_augi {i : Nat} {ix : CE} {op : Operator} {e : CE} : evS G (.augi i ix op e) r = oX (svO r[i]?) fun _ => (evE G ix r).so fun x r1 => oX (dref r1 x) fun k => oX (svO r1[i]?) fun c => oX (oO (idxD c k) dI) fun a => (evE G e r1).so fun y r2 => oX (oO (dref r2 y) dI) fun b => oX (binD op (.int a) (.int b)) fun q => oX (svO r2[i]?) fun c2 => oX (setD c2 k q.2) fun c3 => .nx (r2.set i (some (.dat true c3))) := by
  rw [evS]
  have key2 : ∀ (k : D) (a : Int) (y : R) (r2 : En), (match dref r2 y with
            | some (.int b) => match binD op (.int a) (.int b) with
              | some (_, v) => match r2[i]? with
                | some (some (.dat true c2)) => match setD c2 k v with
                  | some c3 => So.nx (r2.set i (some (.dat true c3)))
                  | none => .stuck
                | _ => .stuck
              | none => .stuck
            | _ => .stuck) = oX (oO (dref r2 y) dI) fun b => oX (binD op (.int a) (.int b)) fun q => oX (svO r2[i]?) fun c2 => oX (setD c2 k q.2) fun c3 => .nx (r2.set i (some (.dat true c3))) := by
    intro k a y r2
    cases dref r2 y with
    | none => rfl
    | some f => cases f with
      | int b =>
        simp only [oO_some, dI_i, oX_some]
        cases binD op (.int a) (.int b) with
        | none => rfl
        | some q =>
          simp only [oX_some]
          cases r2[i]? with
          | none => rfl
          | some x => cases x with
            | none => rfl
            | some y => cases y with
              | dat o c => cases o with
                | false => rfl
                | true =>
                  simp only [svO_d, oX_some]
                  cases setD c k q.2 <;> rfl
              | _ => rfl
      | _ => rfl
  have key : ∀ (x : R) (r1 : En), (match dref r1 x with
      | some k => match r1[i]? with
        | some (some (.dat true c)) => match idxD c k with
          | some (.int a) => (evE G e r1).so fun y r2 => match dref r2 y with
            | some (.int b) => match binD op (.int a) (.int b) with
              | some (_, v) => match r2[i]? with
                | some (some (.dat true c2)) => match setD c2 k v with
                  | some c3 => So.nx (r2.set i (some (.dat true c3)))
                  | none => .stuck
                | _ => .stuck
              | none => .stuck
            | _ => .stuck
          | _ => .stuck
        | _ => .stuck
      | none => .stuck) = oX (dref r1 x) fun k => oX (svO r1[i]?) fun c => oX (oO (idxD c k) dI) fun a => (evE G e r1).so fun y r2 => oX (oO (dref r2 y) dI) fun b => oX (binD op (.int a) (.int b)) fun q => oX (svO r2[i]?) fun c2 => oX (setD c2 k q.2) fun c3 => .nx (r2.set i (some (.dat true c3))) := by
    intro x r1
    cases dref r1 x with
    | none => rfl
    | some k =>
      simp only [oX_some]
      cases r1[i]? with
      | none => rfl
      | some x => cases x with
        | none => rfl
        | some y => cases y with
          | dat o c => cases o with
            | false => rfl
            | true =>
              simp only [svO_d, oX_some]
              cases idxD c k with
              | none => rfl
              | some v => cases v with
                | int a =>
                  simp only [oO_some, dI_i, oX_some]
                  exact so_ext (key2 k a)
                | _ => rfl
          | _ => rfl
  cases r[i]? with
  | none => rfl
  | some x => cases x with
    | none => rfl
    | some y => cases y with
      | dat o c => cases o with
        | false => rfl
        | true =>
          simp only [svO_d, oX_some]
          exact so_ext key
      | _ => rfl
@[simp ↓] theorem w_s_augi {i : Nat} {ix : CE} {op : Operator} {e : CE} : (evS G (.augi i ix op e) r).w P ↔ ((oX (svO r[i]?) fun _ => (evE G ix r).so fun x r1 => oX (dref r1 x) fun k => oX (svO r1[i]?) fun c => oX (oO (idxD c k) dI) fun a => (evE G e r1).so fun y r2 => oX (oO (dref r2 y) dI) fun b => oX (binD op (.int a) (.int b)) fun q => oX (svO r2[i]?) fun c2 => oX (setD c2 k q.2) fun c3 => .nx (r2.set i (some (.dat true c3))) : So)).w P := by rw [s_augi]
end
@[simp] theorem blt_abs {i : Int} : bltD .abs [.int i] = some (false, .int i.natAbs) := by
  show some (false, PyData.int (if i < 0 then -i else i)) = _
  split <;> (congr 3; omega)
theorem mul_small {i j : Int} (h : -(2 ^ 64) < j ∧ j < 2 ^ 64) : binD .Mult (.int i) (.int j) = some (false, .int (i * j)) := if_pos (by
  unfold mulOk
  rw [decide_eq_true h, Bool.or_true])
end E2

set_option Elab.async false
set_option linter.all false
set_option maxRecDepth 100000
set_option maxHeartbeats 1000000
namespace E2
open PySem L2
theorem Rs.w_any {α : Type} {x : Rs α} {Q : α → En → Prop} (h : x.w Q fun _ _ => False) : ∃ a r, x = .ok a r ∧ Q a r := Rs.w_eq h
/-- a comprehension that changes its surroundings: acc what it has, rem what is left -/
theorem lcI_go {α : Type} {vs : List Nat} {bind : D → En → Option En} {cond : En → Rs Bool} {elt : En → Rs R} (g : α → D) (I : List D → List α → En → Prop)
    (hs : ∀ a rem acc r, I acc (a :: rem) r → ∃ r2, bind (g a) (wipeE r vs) = some r2 ∧ (cond r2).w (fun k r3 => (k = true → (elt r3).w (fun x r4 => ∃ y r5, take r4 x = some (y, r5) ∧ I (acc ++ [y]) rem (wipeE r5 vs)) fun _ _ => False) ∧ (k = false → I acc rem (wipeE r3 vs))) fun _ _ => False) :
    ∀ (as : List α) (acc : List D) (r : En), I acc as r → acc.length + as.length ≤ sizeLine → ∃ ys r', lcGo vs bind cond elt (as.map g) acc r = .ok ys r' ∧ I ys [] r'
  | [], acc, r, h, _ => ⟨acc, r, rfl, h⟩
  | a :: as, acc, r, h, hl => by
    have hl' : acc.length + (as.length + 1) ≤ sizeLine := by simpa using hl
    obtain ⟨r2, e1, e2⟩ := hs a as acc r h
    obtain ⟨k, r3, e3, e4, e5⟩ := Rs.w_eq e2
    cases k with
    | false =>
      obtain ⟨ys, r', q1, q2⟩ := lcI_go g I hs as acc (wipeE r3 vs) (e5 rfl) (by omega)
      refine ⟨ys, r', ?_, q2⟩
      rw [List.map_cons]
      simp only [lcGo, e1, e3]
      exact q1
    | true =>
      obtain ⟨x, r4, e6, y, r5, e7, e8⟩ := Rs.w_eq (e4 rfl)
      obtain ⟨ys, r', q1, q2⟩ := lcI_go g I hs as (acc ++ [y]) (wipeE r5 vs) e8 (by rw [List.length_append, List.length_singleton]; omega)
      refine ⟨ys, r', ?_, q2⟩
      rw [List.map_cons]
      simp only [lcGo, e1, e3, e6, e7]
      rw [if_pos (by omega)]
      exact q1
theorem lcI_w (r1 : En) {G : Gs} {α : Type} {Q : R → En → Prop} {X : Ex → En → Prop} (g : α → D) (as : List α) (I : List D → List α → En → Prop) {own : List (Str × Nat)} {tg : Tg} {it : CI} {cond : CTo} {elt : CE} {r : En} (hi : evI G it r = .ok (as.map g) r1) (hl : as.length ≤ 16777216) (h0 : I [] as r1)
    (hs : ∀ a rem acc r, I acc (a :: rem) r → ∃ r2, bindT (g a) (wipeE r (own.map (·.2))) tg = some r2 ∧ (evC G cond r2).w (fun k r3 => (k = true → (evE G elt r3).w (fun x r4 => ∃ y r5, take r4 x = some (y, r5) ∧ I (acc ++ [y]) rem (wipeE r5 (own.map (·.2)))) fun _ _ => False) ∧ (k = false → I acc rem (wipeE r3 (own.map (·.2))))) fun _ _ => False)
    (hq : ∀ ys r', I ys [] r' → Q (.val true (.list ys)) (backE r1 r' (own.map (·.2)))) : (evE G (.lc own tg it cond elt) r).w Q X := by
  obtain ⟨ys, r', q1, q2⟩ := lcI_go (vs := own.map (·.2)) (bind := fun d r => bindT d r tg) (cond := evC G cond) (elt := evE G elt) g I hs as [] r1 h0 (by rw [sizeLine_eq, List.length_nil]; omega)
  rw [evE, hi]
  simp only [bind_okR]
  rw [q1]
  simp only [bind_okR]
  exact .ok (hq ys r' q2)
end E2

set_option Elab.async false
set_option linter.all false
set_option maxRecDepth 100000
set_option maxHeartbeats 1000000
namespace E2
open PySem L2
open Enc (e)
/-! ## the order of typed data -/
abbrev dle (a b : D) : Bool := PySem.W.dataLe false id a b
theorem dle_eq (a b : D) : dle a b = !PySem.W.dataLt b a := rfl
theorem dle_trans {a b c : D} (h : dle a b = true) (h' : dle b c = true) : dle a c = true := (PySem.W.sortLe_total _ false _).trans a b c h h'
theorem dle_total (a b : D) : (dle a b || dle b a) = true := (Bool.or_eq_true _ _).mpr ((PySem.W.sortLe_total _ false _).total a b)
theorem toks_inj {a b : D} (h : PySem.W.alike a b = true) (he : PySem.W.keyToks a = PySem.W.keyToks b) : PyData.eqv a b = true := by
  cases hq : PyData.eqv a b with
  | true => rfl
  | false =>
    have q := (PySem.W.toks_eqv a b h).2 hq [] [.inl 0]
    rw [he, PySem.W.lex_pre, PyProof.Rows.lex_irrefl] at q
    exact absurd q (by decide)
/-- any two of them can be compared -/
class EncA (α : Type) [Enc α] : Prop where
  al : ∀ a b : α, PySem.W.alike (e a) (e b) = true
instance : EncA Nat := ⟨fun _ _ => by show PySem.W.alike (.int _) (.int _) = true; simp [PySem.W.alike]⟩
instance : EncA Int := ⟨fun _ _ => by show PySem.W.alike (.int _) (.int _) = true; simp [PySem.W.alike]⟩
theorem alikeAll_e {α : Type} [Enc α] [EncA α] : ∀ xs ys : List α, PySem.W.alikeAll (xs.map e) (ys.map e) = true
  | [], _ => by simp [PySem.W.alikeAll]
  | _ :: _, [] => by simp [PySem.W.alikeAll]
  | x :: xs, y :: ys => by simp only [List.map_cons, PySem.W.alikeAll, EncA.al x y, alikeAll_e xs ys, Bool.and_self]
instance {α : Type} [Enc α] [EncA α] : EncA (List α) := ⟨fun a b => by rw [e_list, e_list, PySem.W.alike]; exact alikeAll_e a b⟩
instance {α β : Type} [Enc α] [Enc β] [EncA α] [EncA β] : EncA (α × β) := ⟨fun a b => by
  obtain ⟨a1, a2⟩ := a
  obtain ⟨b1, b2⟩ := b
  rw [e_pair, e_pair, PySem.W.alike]
  simp only [PySem.W.alikeAll, EncA.al a1 b1, EncA.al a2 b2, Bool.and_self]⟩
section
variable {α : Type} [Enc α] [EncA α]
def le (a b : α) : Bool := dle (e a) (e b)
def lt (a b : α) : Bool := PySem.W.dataLt (e a) (e b)
theorem le_lt (a b : α) : le a b = !lt b a := rfl
theorem le_trans' {a b c : α} (h : le a b = true) (h' : le b c = true) : le a c = true := dle_trans h h'
theorem le_total' (a b : α) : (le a b || le b a) = true := dle_total _ _
theorem le_refl' (a : α) : le a a = true := by have := le_total' a a; simpa using this
theorem le_anti {a b : α} (h : le a b = true) (h' : le b a = true) : a = b := by
  have h1 : PySem.W.dataLt (e b) (e a) = false := by simpa [le, dle_eq] using h
  have h2 : PySem.W.dataLt (e a) (e b) = false := by simpa [le, dle_eq] using h'
  have := PyProof.Rows.lex_total _ _ h2 h1
  exact Enc.inj _ _ ((okP_eqv (Enc.ok a) (Enc.ok b)).mp (toks_inj (EncA.al a b) this))
theorem lt_irr (a : α) : lt a a = false := by have := le_refl' a; rw [le_lt] at this; simpa using this
theorem lt_iff {a b : α} : lt a b = true ↔ le a b = true ∧ a ≠ b := by
  constructor
  · intro h
    refine ⟨?_, fun q => ?_⟩
    · rcases Bool.or_eq_true _ _ |>.mp (le_total' a b) with h1 | h1
      · exact h1
      · rw [le_lt] at h1; rw [h] at h1; simp at h1
    · subst q; rw [lt_irr] at h; simp at h
  · rintro ⟨h1, h2⟩
    cases q : lt a b with
    | true => rfl
    | false => exact absurd (le_anti h1 (by rw [le_lt, q]; rfl)) h2
def sortE (l : List α) : List α := l.mergeSort le
theorem sort_e (l : List α) : (l.map e).mergeSort (PySem.W.dataLe false id) = (sortE l).map e :=
  (List.map_mergeSort (r := le) (s := PySem.W.dataLe false id) (f := (e : α → D)) fun a _ b _ => rfl).symm
theorem sortE_perm (l : List α) : (sortE l).Perm l := List.mergeSort_perm _ _
theorem sortE_pw (l : List α) : (sortE l).Pairwise fun a b => le a b = true := List.pairwise_mergeSort (le := le) (fun a b c => le_trans') le_total' l
theorem pw_eq {l m : List α} (h : l.Perm m) (hl : l.Pairwise fun a b => le a b = true) (hm : m.Pairwise fun a b => le a b = true) : l = m :=
  List.Perm.eq_of_pairwise (le := fun a b => le a b = true) (fun a b _ _ h1 h2 => le_anti h1 h2) hl hm h
theorem sortE_of {l m : List α} (h : l.Perm m) (hm : m.Pairwise fun a b => le a b = true) : sortE l = m := pw_eq ((sortE_perm l).trans h) (sortE_pw l) hm
theorem sortE_eq {l m : List α} (h : l.Perm m) : sortE l = sortE m := sortE_of (h.trans (sortE_perm m).symm) (sortE_pw m)
theorem sortE_len (l : List α) : (sortE l).length = l.length := (sortE_perm l).length_eq
theorem sortE_mem {l : List α} {a : α} : a ∈ sortE l ↔ a ∈ l := (sortE_perm l).mem_iff
theorem sortE_nd {l : List α} (h : l.Nodup) : (sortE l).Nodup := (sortE_perm l).nodup_iff.mpr h
/-- what may be sorted -/
def Kind2 (l : List α) : Prop := (∀ a ∈ l, ∃ x r, (e a : D) = .tuple (x :: r)) ∨ (∀ a ∈ l, (e a : D) ≠ .none ∧ ∀ xs, (e a : D) ≠ .tuple xs)
def Kind (l : List α) : Prop := Kind2 l ∨ l.length ≤ 1
theorem sortOk_e {l : List α} (hk : Kind2 l) (hm : Enc.m α ≤ 60) (hl : l.length ≤ 16777216) : sortOk (l.map e) = true := by
  unfold sortOk
  simp only [Bool.and_eq_true, Bool.or_eq_true, List.all_eq_true, List.mem_map, decide_eq_true_eq, List.length_map]
  refine ⟨⟨⟨?_, ?_⟩, ?_⟩, by rw [sizeLine_eq]; exact hl⟩
  · rintro _ ⟨a, _, rfl⟩ _ ⟨b, _, rfl⟩
    exact EncA.al a b
  · rcases hk with hk | hk
    · refine .inl ?_
      rintro _ ⟨a, ha, rfl⟩
      obtain ⟨x, r, q⟩ := hk a ha
      rw [q]
    · refine .inr ?_
      rintro _ ⟨a, ha, rfl⟩
      obtain ⟨q1, q2⟩ := hk a ha
      cases q : (e a : D) with
      | none => exact absurd q q1
      | tuple xs => exact absurd q (q2 xs)
      | _ => rfl
  · rintro _ ⟨a, _, rfl⟩
    exact Nat.le_trans (okP_can (Enc.ok a)).2 hm
theorem blt_sorted_e {l : List α} (hk : Kind l) (hm : Enc.m α ≤ 60) (hl : l.length ≤ 16777216) : bltD .sorted [.list (l.map e)] = some (true, .list ((sortE l).map e)) := by
  show (if sortOkL (l.map e) = true then some (true, PyData.list ((l.map e).mergeSort (PySem.W.dataLe false id))) else none) = _
  have h1 : sortOkL (l.map e) = true := by
    unfold sortOkL
    rcases hk with hk | hk
    · rw [sortOk_e hk hm hl, Bool.true_or]
    · rw [decide_eq_true (by rw [List.length_map]; exact hk), Bool.or_true]
  rw [if_pos h1, sort_e]
theorem blt_sorted_et {l : List α} (hk : Kind2 l) (hm : Enc.m α ≤ 60) (hl : l.length ≤ 16777216) : bltD .sorted [.tuple (l.map e)] = some (true, .list ((sortE l).map e)) := by
  show (if sortOk (l.map e) = true then some (true, PyData.list ((l.map e).mergeSort (PySem.W.dataLe false id))) else none) = _
  rw [if_pos (sortOk_e hk hm hl), sort_e]
/-! ### the least -/
def minE (x : α) (xs : List α) : α := xs.foldl (fun a y => if lt y a then y else a) x
theorem minD_e (x : α) (xs : List α) : PySem.W.minD (e x) (xs.map e) = e (minE x xs) := by
  unfold PySem.W.minD minE
  induction xs generalizing x with
  | nil => rfl
  | cons y xs ih =>
    rw [List.map_cons, List.foldl_cons, List.foldl_cons, ← ih]
    congr 1
    show (if lt y x = true then (e y : D) else e x) = _
    split <;> rfl
theorem minE_mem : ∀ (x : α) (xs : List α), minE x xs ∈ x :: xs
  | x, [] => by simp [minE]
  | x, y :: xs => by
    show minE (if lt y x then y else x) xs ∈ _
    have := minE_mem (if lt y x then y else x) xs
    rcases List.mem_cons.mp this with h | h
    · rw [h]; split <;> simp
    · simp [h]
theorem minE_le : ∀ (x : α) (xs : List α), ∀ y ∈ x :: xs, le (minE x xs) y = true
  | x, [], y, hy => by
    have : y = x := by simpa using hy
    subst this; exact le_refl' y
  | x, z :: xs, y, hy => by
    show le (minE (if lt z x then z else x) xs) y = true
    have h0 := minE_le (if lt z x then z else x) xs
    have h1 := h0 _ List.mem_cons_self
    rcases List.mem_cons.mp hy with rfl | hy
    · refine le_trans' h1 ?_
      split
      · rename_i q; exact (lt_iff.mp q).1
      · exact le_refl' y
    · rcases List.mem_cons.mp hy with rfl | hy
      · refine le_trans' h1 ?_
        split
        · exact le_refl' y
        · rename_i q; rw [le_lt]; simpa using q
      · exact h0 y (List.mem_cons_of_mem _ hy)
theorem minE_of {x a : α} {xs : List α} (h1 : a ∈ x :: xs) (h2 : ∀ y ∈ x :: xs, le a y = true) : minE x xs = a := le_anti (minE_le x xs a h1) (h2 _ (minE_mem x xs))
/-- the least is the first of the sorted -/
theorem minE_head (x : α) (xs : List α) : (sortE (x :: xs)).head? = some (minE x xs) := by
  cases q : sortE (x :: xs) with
  | nil => have := sortE_len (x :: xs); rw [q] at this; simp at this
  | cons y ys =>
    show some y = _
    congr 1
    symm
    refine minE_of (sortE_mem.mp (by rw [q]; simp)) fun z hz => ?_
    have pw := sortE_pw (x :: xs)
    rw [q] at pw
    have hz' : z ∈ y :: ys := by rw [← q]; exact sortE_mem.mpr hz
    rcases List.mem_cons.mp hz' with rfl | hz'
    · exact le_refl' z
    · exact (List.pairwise_cons.mp pw).1 z hz'
theorem minG_e (x : α) (xs : List α) (hn : ∀ a : α, (e a : D) ≠ .none) (hm : Enc.m α ≤ 60) : minG ((x :: xs).map e) = some (e (minE x xs)) := by
  have h1 : minG ((x :: xs).map e) = if ((((x :: xs).map (e : α → D)).all fun d => ((x :: xs).map (e : α → D)).all fun e => PySem.W.alike d e) && (((x :: xs).map (e : α → D)).all fun d => match d with | .none => false | _ => true) && decide (PyData.depthAll ((x :: xs).map (e : α → D)) ≤ 60)) = true then some (PySem.W.minD (e x) (xs.map e)) else none := rfl
  rw [h1, if_pos, minD_e]
  simp only [Bool.and_eq_true, List.all_eq_true, decide_eq_true_eq, List.mem_map]
  refine ⟨⟨?_, ?_⟩, ?_⟩
  · rintro _ ⟨a, _, rfl⟩ _ ⟨b, _, rfl⟩
    exact EncA.al a b
  · rintro _ ⟨a, _, rfl⟩
    cases q : (e a : D) with
    | none => exact absurd q (hn a)
    | _ => rfl
  · refine depAll ?_
    simp only [List.mem_map]
    rintro _ ⟨a, _, rfl⟩
    exact Nat.le_trans (okP_can (Enc.ok a)).2 hm
theorem blt_min_l {β : Type} [Enc β] [EncA β] (x : List β) (xs : List (List β)) (hm : Enc.m β + 1 ≤ 60) : bltD .min [.list ((x :: xs).map e)] = some (false, e (minE x xs)) := by
  show (minL ((x :: xs).map e)).map (fun m => (false, m)) = _
  have e1 : minL ((x :: xs).map e) = minG ((x :: xs).map e) := rfl
  rw [e1, minG_e x xs (fun a => by rw [e_list]; simp) hm]
  rfl
end
/-! ### place by place -/
section
variable {α β : Type} [Enc α] [EncA α] [Enc β] [EncA β] [DecidableEq α] [DecidableEq β]
theorem lt_nat (a b : Nat) : lt a b = decide (a < b) := by
  show PySem.W.dataLt (.int a) (.int b) = _
  rw [PySem.W.dataLt_int]
  exact decide_eq_decide.mpr (by omega)
theorem le_nat (a b : Nat) : le a b = decide (a ≤ b) := by
  rw [le_lt, lt_nat]
  by_cases h : b < a <;> simp [h] <;> omega
theorem lt_int (a b : Int) : lt a b = decide (a < b) := by
  show PySem.W.dataLt (.int a) (.int b) = _
  rw [PySem.W.dataLt_int]
theorem le_int (a b : Int) : le a b = decide (a ≤ b) := by
  rw [le_lt, lt_int]
  by_cases h : b < a <;> simp [h] <;> omega
theorem lt_pair (a c : α) (b d : β) : lt (a, b) (c, d) = if a = c then lt b d else lt a c := by
  show PySem.W.dataLt (e (a, b)) (e (c, d)) = _
  rw [e_pair, e_pair, PySem.W.dataLt_pair (EncA.al a c) (EncA.al b d), eqv_e, eqv_e]
  by_cases h : a = c
  · by_cases h2 : b = d
    · subst h2; simp [h, lt_irr]
    · simp [h, h2]; rfl
  · simp [h]; rfl
theorem lt_nil (y : α) (ys : List α) : lt ([] : List α) (y :: ys) = true := by
  show PySem.W.dataLt (e ([] : List α)) (e (y :: ys)) = _
  rw [e_list, e_list, PySem.W.dataLt_tuple, List.map_cons, PySem.W.toks_all_cons]
  simp only [List.map_nil, PySem.W.keyToksAll]
  rw [PyProof.Rows.lex_diff (O := PyProof.Rows.itemOrd) (by simp)]
  rfl
theorem lt_nil' (ys : List α) : lt ys ([] : List α) = false := by
  cases ys with
  | nil => exact lt_irr _
  | cons y ys =>
    have h := lt_iff.mp (lt_nil y ys)
    cases q : lt (y :: ys) [] with
    | false => rfl
    | true => exact absurd (le_anti h.1 (lt_iff.mp q).1) h.2
theorem lt_cons (x y : α) (xs ys : List α) : lt (x :: xs) (y :: ys) = if x = y then lt xs ys else lt x y := by
  show PySem.W.dataLt (e (x :: xs)) (e (y :: ys)) = _
  rw [e_list, e_list, PySem.W.dataLt_tuple, List.map_cons, List.map_cons, PySem.W.dataLt_cons (EncA.al x y), eqv_e, ← PySem.W.dataLt_tuple]
  by_cases h : x = y
  · simp [h]; rfl
  · simp [h]; rfl
end
/-! ### keys of dicts -/
theorem nestN_mono : ∀ {m k : Nat} {d : D}, nestN m d = true → m ≤ k → nestN k d = true
  | _, _, .none, _, _ => by simp [nestN]
  | _, _, .int _, _, _ => by simp [nestN]
  | _, _, .str _, _, _ => by simp [nestN]
  | 0, _, .tuple _, h, _ => by simp [nestN] at h
  | m + 1, 0, .tuple _, _, l => by omega
  | m + 1, k + 1, .tuple ds, h, l => by
    simp only [nestN, List.all_eq_true] at h ⊢
    exact fun d hd => nestN_mono (h d hd) (by omega)
  | m, _, .bool _, h, _ => by cases m <;> simp [nestN] at h
  | m, _, .list _, h, _ => by cases m <;> simp [nestN] at h
  | m, _, .dict _, h, _ => by cases m <;> simp [nestN] at h
class EncT (α : Type) [Enc α] : Prop where
  nst : ∀ a : α, nestN (Enc.m α) (e a) = true
instance : EncT Nat := ⟨fun _ => by show nestN 0 (.int _) = true; simp [nestN]⟩
instance : EncT Int := ⟨fun _ => by show nestN 0 (.int _) = true; simp [nestN]⟩
instance {α : Type} [Enc α] [EncT α] : EncT (List α) := ⟨fun a => by
  show nestN (Enc.m α + 1) (.tuple (a.map e)) = true
  simp only [nestN, List.all_eq_true, List.mem_map]
  rintro _ ⟨x, _, rfl⟩
  exact EncT.nst x⟩
instance {α β : Type} [Enc α] [Enc β] [EncT α] [EncT β] : EncT (α × β) := ⟨fun p => by
  show nestN (max (Enc.m α) (Enc.m β) + 1) (.tuple [e p.1, e p.2]) = true
  simp only [nestN, List.all_cons, List.all_nil, Bool.and_true, Bool.and_eq_true]
  exact ⟨nestN_mono (EncT.nst p.1) (Nat.le_max_left _ _), nestN_mono (EncT.nst p.2) (Nat.le_max_right _ _)⟩⟩
theorem encK_list {α : Type} [Enc α] [EncT α] (h : Enc.m α ≤ 7) : EncK (List α) := ⟨.inr fun a => by
  show (a.map e).all (nestN 7) = true
  simp only [List.all_eq_true, List.mem_map]
  rintro _ ⟨x, _, rfl⟩
  exact nestN_mono (EncT.nst x) h⟩
theorem encK_pair {α β : Type} [Enc α] [Enc β] [EncT α] [EncT β] (h : Enc.m α ≤ 7) (h' : Enc.m β ≤ 7) : EncK (α × β) := ⟨.inr fun p => by
  show ([e p.1, e p.2] : List D).all (nestN 7) = true
  simp only [List.all_cons, List.all_nil, Bool.and_true, Bool.and_eq_true]
  exact ⟨nestN_mono (EncT.nst p.1) h, nestN_mono (EncT.nst p.2) h'⟩⟩
end E2

set_option Elab.async false
set_option linter.all false
set_option maxRecDepth 100000
set_option maxHeartbeats 1000000
namespace Lb
open PySem L2 E2
/- _law_draws: no parameters -/
def b__law_draws : CSs :=
  (.cons (.ret (.lst (.cons (.blt .list (.cons (.var 0) .nil)) (.cons (.cst (.int 0)) (.cons (.cst (.int 0)) (.cons (.cst (.int 1)) .nil)))))) .nil)
def n__law_draws : List Str := [Str.ofString "script"]
abbrev f__law_draws : Fn := ⟨1, [false], b__law_draws⟩

/- _law_draw: no parameters -/
def b__law_draw : CSs :=
  (.cons (.ite (.and (.ex (.cmp .Eq (.idx (.var 0) (.cst (.int 2))) (.cst (.int 0)))) (.ex (.cmp .Lt (.idx (.var 0) (.cst (.int 1))) (.blt .len (.cons (.idx (.var 0) (.cst (.int 0))) .nil))))) (
   (.cons (.set 2 (.idx (.idx (.var 0) (.cst (.int 0))) (.idx (.var 0) (.cst (.int 1)))))
   (.cons (.asg (.sub 0 (.cst (.int 1))) (.bin .Add (.idx (.var 0) (.cst (.int 1))) (.cst (.int 1))))
   (.cons (.ite (.ex (.cmp .GtE (.var 2) (.bin .Pow (.cst (.int 10)) (.cst (.int 18))))) (
    (.cons (.asg (.sub 0 (.cst (.int 2))) (.var 2)) .nil)) (.nil))
   (.cons (.asg (.sub 0 (.cst (.int 3))) (.bin .Mod (.blt .int (.cons (.bin .Add (.bin .Add (.bin .Mult (.idx (.var 0) (.cst (.int 3))) (.cst (.int 48271))) (.var 2)) (.cst (.int 13))) .nil)) (.cst (.int 2147483647)))) .nil))))) (.nil))
  (.cons (.ite (.ex (.cmp .Gt (.idx (.var 0) (.cst (.int 2))) (.cst (.int 0)))) (
   (.cons (.set 3 (.bin .Mod (.blt .int (.cons (.idx (.var 0) (.cst (.int 2))) .nil)) (.var 1)))
   (.cons (.asg (.sub 0 (.cst (.int 2))) (.bin .FloorDiv (.idx (.var 0) (.cst (.int 2))) (.var 1)))
   (.cons (.ret (.var 3)) .nil)))) (.nil))
  (.cons (.asg (.sub 0 (.cst (.int 3))) (.bin .Mod (.blt .int (.cons (.bin .Add (.bin .Mult (.idx (.var 0) (.cst (.int 3))) (.cst (.int 69621))) (.cst (.int 7))) .nil)) (.cst (.int 2147483629))))
  (.cons (.ret (.bin .Mod (.blt .int (.cons (.bin .FloorDiv (.idx (.var 0) (.cst (.int 3))) (.cst (.int 11))) .nil)) (.var 1))) .nil))))
def n__law_draw : List Str := [Str.ofString "draws", Str.ofString "limit", Str.ofString "cell", Str.ofString "value"]
abbrev f__law_draw : Fn := ⟨4, [true, false], b__law_draw⟩

/- _law_pick: a0 = _law_draw -/
def b__law_pick (a0 : Nat) : CSs :=
  (.cons (.ret (.idx (.var 1) (.call a0 (.cons (.var 0) (.cons (.blt .len (.cons (.var 1) .nil)) .nil))))) .nil)
def n__law_pick : List Str := [Str.ofString "draws", Str.ofString "row"]
abbrev f__law_pick (a0 : Nat) : Fn := ⟨2, [true, false], b__law_pick a0⟩

/- _law_shuffled: a0 = _law_draw -/
def b__law_shuffled (a0 : Nat) : CSs :=
  (.cons (.par [2, 3] (.cons (.blt .list (.cons (.var 1) .nil)) (.cons (.lst .nil) .nil)))
  (.cons (.for (.nm 4) (.rng (.cons (.blt .len (.cons (.var 1) .nil)) .nil)) (
   (.cons (.ex (.mut .append 3 (.cons (.mut .popAt 2 (.cons (.call a0 (.cons (.var 0) (.cons (.blt .len (.cons (.var 2) .nil)) .nil))) .nil)) .nil))) .nil)))
  (.cons (.ret (.blt .tuple (.cons (.var 3) .nil))) .nil)))
def n__law_shuffled : List Str := [Str.ofString "draws", Str.ofString "items", Str.ofString "left", Str.ofString "found", Str.ofString "k"]
abbrev f__law_shuffled (a0 : Nat) : Fn := ⟨5, [true, false], b__law_shuffled a0⟩

/- is_whole: no parameters -/
def b_is_whole : CSs :=
  (.cons (.ret (.and (.isin (.var 0) "int") (.not (.isin (.var 0) "bool")))) .nil)
def n_is_whole : List Str := [Str.ofString "value"]
abbrev f_is_whole : Fn := ⟨1, [false], b_is_whole⟩

/-! ## draws -/
/-- the state of the draws: the script, the place, the digits left, the seed -/
def Dr (d : D) : Prop := ∃ (xs : List Int) (a : Nat) (b c : Int), d = .list [.list (xs.map .int), .int a, .int b, .int c]
theorem mulOk_right {i j : Int} (h : -(2 ^ 64) < j ∧ j < 2 ^ 64) : mulOk i j = true := by
  unfold mulOk
  rw [decide_eq_true h, Bool.or_true]
def DrE (xs : List Int) (l : Nat) (r : En) : Prop := ∃ (a : Nat) (b c : Int) (x : Option Sv), r = [some (.dat true (.list [.list (xs.map .int), .int a, .int b, .int c])), some (.dat false (.int l)), x, none]
section
variable {P : Prg} {k n : Nat}
theorem draws_ok (h : At P k f__law_draws) (xs : List Int) : Dr (.list [.list (xs.map .int), .int 0, .int 0, .int 1]) ∧ run P (n + 1) k [.val (.list (xs.map .int))] = .ok true (.list [.list (xs.map .int), .int 0, .int 0, .int 1]) [] := by
  refine ⟨⟨xs, 0, 0, 1, rfl⟩, ?_⟩
  rw [run_at h]
  refine runF_is rfl rfl ?_
  simp [startA, b__law_draws]
theorem draw_ok (h : At P k f__law_draw) {d : D} {l : Nat} (hd : Dr d) (hl : 0 < l) (hl2 : l < 1073741824) :
    ∃ (v : Nat) (d' : D), run P (n + 1) k [.rf d, .val (.int l)] = .ok false (.int v) [d'] ∧ v < l ∧ Dr d' := by
  obtain ⟨xs, a, b, c, rfl⟩ := hd
  rw [run_at h]
  have key : ∃ o d1 d0, runF (P.gs (run P n)) f__law_draw [.rf (.list [.list (xs.map .int), .int a, .int b, .int c]), .val (.int l)] = .ok o d1 [d0] ∧ (o = false ∧ (∃ v : Nat, d1 = .int v ∧ v < l) ∧ Dr d0) := by
    refine runF_ret0 rfl rfl ?_
    have e1 : ∀ c : Int, mulOk c 48271 = true := fun c => mulOk_right (by decide)
    have e2 : ∀ c : Int, mulOk c 69621 = true := fun c => mulOk_right (by decide)
    have e3 : ∀ m : Int, ∃ v : Nat, m % (l : Int) = v ∧ v < l := fun m => ⟨(m % l).toNat, by have := Int.emod_nonneg m (b := l) (by omega); omega, by have := Int.emod_lt_of_pos m (b := l) (by omega); omega⟩
    show (evSs _ b__law_draw _).w _
    refine cutS (DrE xs l) ?_ ?_
    · simp [startA]
      refine ⟨fun h0 => ⟨fun h1 => ?_, fun h1 => ⟨a, b, c, _, rfl⟩⟩, fun h0 => ⟨a, b, c, _, rfl⟩⟩
      simp [List.getElem?_eq_getElem h1, bin_mul (e1 _), bin_mod]
      refine ⟨fun _ => ⟨a + 1, _, _, _, rfl⟩, fun _ => ⟨a + 1, _, _, _, rfl⟩⟩
    · rintro _ ⟨a, b, c, x, rfl⟩
      obtain ⟨v1, h1, h2⟩ := e3 b
      obtain ⟨v2, h3, h4⟩ := e3 ((c * 69621 + 7) % 2147483629 / 11)
      have hl' : (0 : Int) < l := by omega
      have hl2' : (l : Int) < 1073741824 := by omega
      simp [bin_mod, bin_div, hl, hl', hl2', bin_mul (e2 _), h1, h2, h3, h4]
      exact ⟨fun _ => ⟨⟨v1, rfl, h2⟩, xs, a, _, _, rfl⟩, fun _ => ⟨⟨v2, rfl, h4⟩, xs, a, _, _, rfl⟩⟩
  obtain ⟨o, d1, d0, e, rfl, ⟨v, rfl, hv⟩, hd⟩ := key
  exact ⟨v, d0, e, hv, hd⟩
end
/-! ## shuffled -/
def ShIL (xs : List D) (done : Nat) (r : En) : Prop := ∃ (d : D) (left found : List D) (x : Option Sv), Dr d ∧ (found ++ left).Perm xs ∧ found.length = done ∧ r = [some (.dat true d), some (.dat false (.list xs)), some (.dat true (.list left)), some (.dat true (.list found)), x]
def ShI (xs : List D) (done : Nat) (r : En) : Prop := ∃ (d : D) (left found : List D) (x : Option Sv), Dr d ∧ (found ++ left).Perm xs ∧ found.length = done ∧ r = [some (.dat true d), some (.dat false (.tuple xs)), some (.dat true (.list left)), some (.dat true (.list found)), x]
section
variable {P : Prg} {k kd n : Nat}
theorem shuffled_ok (h : At P k (f__law_shuffled kd)) (hd : At P kd f__law_draw) {d : D} {xs : List D} (hD : Dr d) (hl : xs.length ≤ 100000) :
    ∃ (ys : List D) (d' : D), run P (n + 2) k [.rf d, .val (.tuple xs)] = .ok false (.tuple ys) [d'] ∧ ys.Perm xs ∧ Dr d' := by
  rw [run_at h]
  have key : ∃ o d1 d0, runF (P.gs (run P (n + 1))) (f__law_shuffled kd) [.rf d, .val (.tuple xs)] = .ok o d1 [d0] ∧ (o = false ∧ (∃ ys, d1 = .tuple ys ∧ ys.Perm xs) ∧ Dr d0) := by
    refine runF_ret0 rfl rfl ?_
    have hL : xs.length ≤ 16777216 := by omega
    simp [startA, b__law_shuffled, hL]
    refine cutT (ShI xs xs.length) (for_w dn (fun rem r => ∃ m, m + rem.length = xs.length ∧ ShI xs m r) ?_ ?_ _ _ ⟨0, by simp, d, xs, [], _, hD, by simp, rfl, rfl⟩) ?_
    · rintro a as _ ⟨m, hm, d, left, found, x, hD, hp, hf, rfl⟩
      refine ⟨_, rfl, ?_⟩
      have hlen : found.length + left.length = xs.length := by simpa using hp.length_eq
      have h1 : 0 < left.length := by simp at hm; omega
      obtain ⟨v, d', e, hv, hd'⟩ := draw_ok (n := n) hd hD h1 (by omega)
      have h2 : left.length ≤ 16777216 := by omega
      have h3 : found.length < 16777216 := by omega
      simp [sig_at hd, e, hv, h2, h3]
      refine ⟨m + 1, by simp at hm; omega, d', _, _, _, hd', ?_, by simp [hf], rfl⟩
      refine List.Perm.trans ?_ hp
      rw [List.append_assoc]
      refine List.Perm.append_left _ ?_
      simpa using cons_eraseIdx_perm left hv
    · rintro r ⟨m, hm, hi⟩
      simp at hm
      subst hm
      exact hi
    · rintro _ ⟨d, left, found, x, hD, hp, hf, rfl⟩
      have hlen : found.length + left.length = xs.length := by simpa using hp.length_eq
      have : left = [] := List.eq_nil_of_length_eq_zero (by omega)
      subst this
      simp
      exact ⟨by simpa using hp, hD⟩
  obtain ⟨o, d1, d0, e, rfl, ⟨v, rfl, hv⟩, hd⟩ := key
  exact ⟨v, d0, e, hv, hd⟩
theorem shuffled_okL (h : At P k (f__law_shuffled kd)) (hd : At P kd f__law_draw) {d : D} {xs : List D} (hD : Dr d) (hl : xs.length ≤ 100000) :
    ∃ (ys : List D) (d' : D), run P (n + 2) k [.rf d, .val (.list xs)] = .ok false (.tuple ys) [d'] ∧ ys.Perm xs ∧ Dr d' := by
  rw [run_at h]
  have key : ∃ o d1 d0, runF (P.gs (run P (n + 1))) (f__law_shuffled kd) [.rf d, .val (.list xs)] = .ok o d1 [d0] ∧ (o = false ∧ (∃ ys, d1 = .tuple ys ∧ ys.Perm xs) ∧ Dr d0) := by
    refine runF_ret0 rfl rfl ?_
    have hL : xs.length ≤ 16777216 := by omega
    simp [startA, b__law_shuffled, hL]
    refine cutT (ShIL xs xs.length) (for_w dn (fun rem r => ∃ m, m + rem.length = xs.length ∧ ShIL xs m r) ?_ ?_ _ _ ⟨0, by simp, d, xs, [], _, hD, by simp, rfl, rfl⟩) ?_
    · rintro a as _ ⟨m, hm, d, left, found, x, hD, hp, hf, rfl⟩
      refine ⟨_, rfl, ?_⟩
      have hlen : found.length + left.length = xs.length := by simpa using hp.length_eq
      have h1 : 0 < left.length := by simp at hm; omega
      obtain ⟨v, d', e, hv, hd'⟩ := draw_ok (n := n) hd hD h1 (by omega)
      have h2 : left.length ≤ 16777216 := by omega
      have h3 : found.length < 16777216 := by omega
      simp [sig_at hd, e, hv, h2, h3]
      refine ⟨m + 1, by simp at hm; omega, d', _, _, _, hd', ?_, by simp [hf], rfl⟩
      refine List.Perm.trans ?_ hp
      rw [List.append_assoc]
      refine List.Perm.append_left _ ?_
      simpa using cons_eraseIdx_perm left hv
    · rintro r ⟨m, hm, hi⟩
      simp at hm
      subst hm
      exact hi
    · rintro _ ⟨d, left, found, x, hD, hp, hf, rfl⟩
      have hlen : found.length + left.length = xs.length := by simpa using hp.length_eq
      have : left = [] := List.eq_nil_of_length_eq_zero (by omega)
      subst this
      simp
      exact ⟨by simpa using hp, hD⟩
  obtain ⟨o, d1, d0, e, rfl, ⟨v, rfl, hv⟩, hd⟩ := key
  exact ⟨v, d0, e, hv, hd⟩
end
end Lb

set_option Elab.async false
set_option linter.all false
set_option maxRecDepth 100000
set_option maxHeartbeats 1000000
namespace Lb
open PySem L2 E2
/- _law_same: a0 = _law_same -/
def b__law_same (a0 : Nat) : CSs :=
  (.cons (.ite (.or (.ex (.isin (.var 1) "tuple")) (.ex (.isin (.var 1) "list"))) (
   (.cons (.ite (.or (.ex (.cmp .NotEq (.isin (.var 1) "tuple") (.isin (.var 0) "tuple"))) (.ex (.cmp .NotEq (.isin (.var 1) "list") (.isin (.var 0) "list")))) (
    (.cons (.ret (.cst (.bool false))) .nil)) (.nil))
   (.cons (.ite (.ex (.cmp .NotEq (.blt .len (.cons (.var 0) .nil)) (.blt .len (.cons (.var 1) .nil)))) (
    (.cons (.ret (.cst (.bool false))) .nil)) (.nil))
   (.cons (.ret (.cmp .Eq (.blt .len (.cons (.lc [(Str.ofString "k", 2)] (.nm 2) (.rng (.cons (.blt .len (.cons (.var 1) .nil)) .nil)) (.som (.not (.ex (.call a0 (.cons (.idx (.var 0) (.var 2)) (.cons (.idx (.var 1) (.var 2)) .nil)))))) (.var 2)) .nil)) (.cst (.int 0)))) .nil)))) (.nil))
  (.cons (.ite (.ex (.isin (.var 1) "str")) (
   (.cons (.ret (.and (.isin (.var 0) "str") (.cmp .Eq (.var 0) (.var 1)))) .nil)) (.nil))
  (.cons (.ite (.ex (.cmp .Is (.var 1) (.cst .none))) (
   (.cons (.ret (.cmp .Is (.var 0) (.cst .none))) .nil)) (.nil))
  (.cons (.ite (.or (.ex (.isin (.var 1) "bool")) (.ex (.isin (.var 0) "bool"))) (
   (.cons (.ret (.and (.isin (.var 1) "bool") (.and (.isin (.var 0) "bool") (.cmp .Eq (.var 0) (.var 1))))) .nil)) (.nil))
  (.cons (.ret (.and (.isin (.var 0) "int") (.and (.isin (.var 1) "int") (.cmp .Eq (.var 0) (.var 1))))) .nil)))))
def n__law_same : List Str := [Str.ofString "actual", Str.ofString "expected", Str.ofString "k"]
abbrev f__law_same (a0 : Nat) : Fn := ⟨3, [false, false], b__law_same a0⟩

/-! ## plain data: no dict within, rows not too long -/
def okD : Nat → D → Bool
  | _, .none => true
  | _, .bool _ => true
  | _, .int _ => true
  | _, .str s => PyData.canLay0 (.str s)
  | m + 1, .list xs => decide (xs.length ≤ 16777216) && xs.all (okD m)
  | m + 1, .tuple xs => decide (xs.length ≤ 16777216) && xs.all (okD m)
  | _, _ => false
theorem str_same {s : Str} (h : PyData.canLay0 (.str s) = true) : eqD (.str s) (.str s) = some true := by
  have e : SeqAt.shaped (.str s) = true := by
    unfold SeqAt.shaped
    rw [h]; simp [PyData.depth]
  show (if SeqAt.shaped (.str s) = true ∧ SeqAt.shaped (.str s) = true then some (PyData.eqv (.str s) (.str s)) else none) = _
  rw [if_pos ⟨e, e⟩]
  simp [PyData.eqv]
theorem bool_same {s : Bool} : eqD (.bool s) (.bool s) = some true := by
  have e : SeqAt.shaped (.bool s) = true := by
    unfold SeqAt.shaped
    simp [PyData.canLay0, PyData.depth]
  show (if SeqAt.shaped (.bool s) = true ∧ SeqAt.shaped (.bool s) = true then some (PyData.eqv (.bool s) (.bool s)) else none) = _
  rw [if_pos ⟨e, e⟩]
  simp [PyData.eqv]
@[simp] theorem eqD_bb {a b : Bool} : eqD (.bool a) (.bool b) = some (decide (a = b)) := by
  have e : ∀ s, SeqAt.shaped (.bool s) = true := fun s => by
    unfold SeqAt.shaped
    simp [PyData.canLay0, PyData.depth]
  show (if SeqAt.shaped (.bool a) = true ∧ SeqAt.shaped (.bool b) = true then some (PyData.eqv (.bool a) (.bool b)) else none) = _
  rw [if_pos ⟨e _, e _⟩, PyData.eqv]
  cases a <;> cases b <;> rfl
@[simp] theorem is_nn : isD .none .none = some true := same rfl
@[simp] theorem is_bn {b : Bool} : isD (.bool b) .none = some false := same rfl
@[simp] theorem is_in {b : Int} : isD (.int b) .none = some false := same rfl
@[simp] theorem is_sn {b : Str} : isD (.str b) .none = some false := same rfl
@[simp] theorem is_ln {b : List D} : isD (.list b) .none = some false := same rfl
@[simp] theorem is_tn {b : List D} : isD (.tuple b) .none = some false := same rfl
@[simp] theorem is_bb {a b : Bool} : isD (.bool a) (.bool b) = some (decide (a = b)) := same rfl
section
variable {P : Prg} {k : Nat}
theorem same_ok (h : At P k (f__law_same k)) : ∀ (m : Nat) (d : D) (n : Nat), okD m d = true → run P (n + m + 1) k [.val d, .val d] = .ok false (.bool true) [] := by
  intro m
  induction m with
  | zero =>
    intro d n hd
    rw [run_at h]
    refine runF_is rfl rfl ?_
    cases d with
    | none => simp [startA, b__law_same]
    | bool b => simp [startA, b__law_same]
    | int b => simp [startA, b__law_same]
    | str s => simp [startA, b__law_same, str_same hd]
    | list xs => simp [okD] at hd
    | tuple xs => simp [okD] at hd
    | dict xs => simp [okD] at hd
  | succ m ih =>
    intro d n hd
    rw [show n + (m + 1) + 1 = (n + m + 1) + 1 from rfl, run_at h]
    refine runF_is rfl rfl ?_
    cases d with
    | none => simp [startA, b__law_same]
    | bool b => simp [startA, b__law_same]
    | int b => simp [startA, b__law_same]
    | str s => simp [startA, b__law_same, str_same hd]
    | dict xs => simp [okD] at hd
    | list xs =>
      simp only [okD, Bool.and_eq_true, decide_eq_true_eq, List.all_eq_true] at hd
      simp [startA, b__law_same]

      refine lc_w dn (fun _ => false) dn (List.range xs.length) ?_ ?_ ?_ ?_
      · simp [hd.1]
      · simpa using hd.1
      · intro a ha
        refine ⟨_, rfl, ?_⟩
        have ha' : a < xs.length := by simpa using ha
        simp [List.getElem?_eq_getElem ha', sig_at h, ih _ n (hd.2 _ (List.getElem_mem ha'))]
      · simp
    | tuple xs =>
      simp only [okD, Bool.and_eq_true, decide_eq_true_eq, List.all_eq_true] at hd
      simp [startA, b__law_same]
      refine lc_w dn (fun _ => false) dn (List.range xs.length) ?_ ?_ ?_ ?_
      · simp [hd.1]
      · simpa using hd.1
      · intro a ha
        refine ⟨_, rfl, ?_⟩
        have ha' : a < xs.length := by simpa using ha
        simp [List.getElem?_eq_getElem ha', sig_at h, ih _ n (hd.2 _ (List.getElem_mem ha'))]
      · simp
end
end Lb

set_option Elab.async false
set_option linter.all false
set_option maxRecDepth 100000
set_option maxHeartbeats 1000000
namespace Lb
open PySem L2 E2
/-! ## exchanges as rows of numbers -/
structure Perm (n : Nat) (p : List Nat) : Prop where
  len : p.length = n
  lt : ∀ x ∈ p, x < n
  nd : p.Nodup
def inv (p : List Nat) : List Nat := (List.range p.length).map fun k => p.idxOf k
def sets (qs : List (Nat × Nat)) (L : List Nat) : List Nat := qs.foldl (fun L q => L.set q.1 q.2) L
theorem sets_length : ∀ (qs : List (Nat × Nat)) (L : List Nat), (sets qs L).length = L.length
  | [], _ => rfl
  | q :: qs, L => by
    show (sets qs (L.set q.1 q.2)).length = _
    rw [sets_length qs, List.length_set]
theorem sets_other : ∀ (qs : List (Nat × Nat)) (L : List Nat) (k : Nat), (∀ q ∈ qs, q.1 ≠ k) → (sets qs L)[k]? = L[k]?
  | [], _, _, _ => rfl
  | q :: qs, L, k, h => by
    show (sets qs (L.set q.1 q.2))[k]? = _
    rw [sets_other qs _ k fun x hx => h x (List.mem_cons_of_mem _ hx), List.getElem?_set_ne (h q List.mem_cons_self)]
theorem sets_at (p : List Nat) (hn : p.Nodup) : ∀ (m k : Nat) (L : List Nat), k ∈ p → k < L.length → (sets (p.zipIdx m) L)[k]? = some (m + p.idxOf k) := by
  induction p with
  | nil => intro m k L hk; cases hk
  | cons x xs ih =>
    intro m k L hk hl
    rw [List.nodup_cons] at hn
    rw [List.zipIdx_cons]
    show (sets (xs.zipIdx (m + 1)) (L.set x m))[k]? = _
    by_cases hx : x = k
    · subst hx
      rw [sets_other _ _ _ fun q hq e => hn.1 ?_]
      · rw [List.getElem?_set_self hl]
        simp
      · subst e
        have := List.fst_mem_of_mem_zipIdx hq
        exact this
    · have hk' : k ∈ xs := by
        cases hk with
        | head => exact absurd rfl hx
        | tail _ h => exact h
      rw [ih hn.2 (m + 1) k _ hk' (by rw [List.length_set]; exact hl)]
      have e : List.idxOf k (x :: xs) = List.idxOf k xs + 1 := by
        rw [List.idxOf_cons]
        have : (x == k) = false := by simpa using hx
        rw [this]; rfl
      rw [e]
      congr 1
      omega
theorem few_of : ∀ (n : Nat) (l : List Nat), l.Nodup → (∀ x ∈ l, x < n) → l.length ≤ n
  | 0, [], _, _ => Nat.le_refl _
  | 0, x :: _, _, h => absurd (h x List.mem_cons_self) (Nat.not_lt_zero _)
  | n + 1, l, hd, h => by
    have h1 := few_of n (l.erase n) (hd.erase n) fun x hx => by
      have q := (hd.mem_erase_iff).mp hx
      have := h x q.2
      omega
    by_cases hm : n ∈ l
    · have := List.length_erase_of_mem hm
      have := List.length_pos_of_mem hm
      omega
    · rw [List.erase_of_not_mem hm] at h1
      omega
theorem perm_mem {n : Nat} {p : List Nat} (h : Perm n p) {k : Nat} (hk : k < n) : k ∈ p := by
  apply Classical.byContradiction
  intro hm
  have := few_of n (k :: p) (List.nodup_cons.mpr ⟨hm, h.nd⟩) fun x hx => by
    rcases List.mem_cons.mp hx with e | e
    · omega
    · exact h.lt x e
  rw [List.length_cons, h.len] at this
  omega
theorem sets_inv {n : Nat} {p : List Nat} (h : Perm n p) : sets p.zipIdx (List.replicate n 0) = inv p := by
  apply List.ext_getElem?
  intro k
  by_cases hk : k < n
  · rw [sets_at p h.nd 0 k _ (perm_mem h hk) (by simpa using hk)]
    simp [inv, h.len, hk]
  · rw [List.getElem?_eq_none (by rw [sets_length]; simpa using hk), List.getElem?_eq_none (by simpa [inv, h.len] using hk)]
end Lb
namespace Lb
theorem get_getD {α : Type} {q : List α} {a : Nat} {d : α} (h : a < q.length) : q[a]? = some (q.getD a d) := by
  rw [List.getD_eq_getElem?_getD, List.getElem?_eq_getElem h]; rfl
end Lb

set_option Elab.async false
set_option linter.all false
set_option maxRecDepth 100000
set_option maxHeartbeats 1000000
namespace E2
open PySem L2
theorem all_bools {α : Type} (f : α → Bool) (xs : List α) : bltD .all [.list (xs.map fun x => PyData.bool (f x))] = some (false, .bool (xs.all f)) := by
  have e : xs.map (fun x => PyData.bool (f x)) = (xs.map f).map PyData.bool := by rw [List.map_map]; rfl
  show (boolsOf (xs.map fun x => PyData.bool (f x))).map _ = _
  rw [e, boolsOf_map]
  simp [List.all_map]
theorem any_bools {α : Type} (f : α → Bool) (xs : List α) : bltD .any [.list (xs.map fun x => PyData.bool (f x))] = some (false, .bool (xs.any f)) := by
  have e : xs.map (fun x => PyData.bool (f x)) = (xs.map f).map PyData.bool := by rw [List.map_map]; rfl
  show (boolsOf (xs.map fun x => PyData.bool (f x))).map _ = _
  rw [e, boolsOf_map]
  simp [List.any_map]
def sortI (l : List Int) : List Int := l.mergeSort fun a b => decide (a ≤ b)
theorem dataLe_di (a b : Int) : PySem.W.dataLe false id (PyData.int a) (PyData.int b) = decide (a ≤ b) := by
  have e := congrFun (congrFun (PySem.W.dataLe_int (fun x : Int => x)) a) b
  have e2 : PySem.W.dataLe false id (PyData.int a) (PyData.int b) = PySem.W.dataLe false (fun b : Int => PyData.int b) a b := same rfl
  rw [e2, e]
theorem sortOk_di (l : List Int) (h : l.length ≤ 16777216) : sortOk (l.map .int) = true := by
  unfold sortOk
  simp only [Bool.and_eq_true, Bool.or_eq_true, List.all_eq_true, List.mem_map, decide_eq_true_eq]
  refine ⟨⟨⟨?_, .inr ?_⟩, ?_⟩, by rw [sizeLine_eq, List.length_map]; exact h⟩
  · rintro _ ⟨a, _, rfl⟩ _ ⟨b, _, rfl⟩
    simp [PySem.W.alike]
  · rintro _ ⟨a, _, rfl⟩
    rfl
  · rintro _ ⟨a, _, rfl⟩
    simp [PyData.depth]
theorem blt_sorted_ti {l : List Int} (h : l.length ≤ 16777216) : bltD .sorted [.tuple (l.map .int)] = some (true, .list ((sortI l).map .int)) := by
  have e : (l.map PyData.int).mergeSort (PySem.W.dataLe false id) = (sortI l).map .int := (List.map_mergeSort (r := fun a b => decide (a ≤ b)) (s := PySem.W.dataLe false id) (f := PyData.int) fun a _ b _ => (dataLe_di a b).symm).symm
  show (if sortOk (l.map .int) = true then some (true, PyData.list ((l.map .int).mergeSort (PySem.W.dataLe false id))) else none) = _
  rw [if_pos (sortOk_di l h), e]
theorem sortI_perm (l : List Int) : (sortI l).Perm l := List.mergeSort_perm _ _
def rangeI (n : Nat) : List Int := (List.range n).map Int.ofNat
theorem sortI_range (l : List Int) : sortI l = rangeI l.length ↔ l.Perm (rangeI l.length) := by
  constructor
  · intro h
    have := sortI_perm l
    rw [h] at this
    exact this.symm
  · intro h
    have h1 : (sortI l).Pairwise fun a b => decide (a ≤ b) = true := List.pairwise_mergeSort (fun a b c h1 h2 => by simp at *; omega) (fun a b => by simp; omega) l
    refine List.Perm.eq_of_pairwise (le := fun a b => a ≤ b) (fun a b _ _ h1 h2 => by omega) (h1.imp fun h => by simpa using h) ?_ ((List.mergeSort_perm _ _).trans h)
    unfold rangeI
    rw [List.pairwise_map]
    exact List.pairwise_le_range.imp fun h => by simp; omega
/-- a whole number -/
def whole : D → Bool
  | .int _ => true
  | _ => false
def notDict : D → Bool
  | .dict _ => false
  | _ => true
theorem whole_ints : ∀ {ds : List D}, ds.all whole = true → ∃ xs : List Int, ds = xs.map .int
  | [], _ => ⟨[], rfl⟩
  | d :: ds, h => by
    rw [List.all_cons, Bool.and_eq_true] at h
    obtain ⟨xs, rfl⟩ := whole_ints h.2
    cases d <;> first | (exact ⟨_ :: xs, rfl⟩) | (have := h.1; simp [whole] at this)
end E2
namespace Lb
open PySem L2 E2
/- is_exchange: a0 = is_whole, g0 = MOST_PLACES -/
def b_is_exchange (a0 g0 : Nat) : CSs :=
  (.cons (.ite (.or (.not (.ex (.isin (.var 0) "tuple"))) (.or (.ex (.cmp .Gt (.blt .len (.cons (.var 0) .nil)) (.gc g0))) (.not (.ex (.blt .all (.cons (.lc [(Str.ofString "one", 1)] (.nm 1) (.seq (.var 0)) .non (.call a0 (.cons (.var 1) .nil))) .nil)))))) (
   (.cons (.ret (.cst (.bool false))) .nil)) (.nil))
  (.cons (.ret (.cmp .Eq (.blt .sorted (.cons (.var 0) .nil)) (.rng false (.cons (.blt .len (.cons (.var 0) .nil)) .nil)))) .nil))
def n_is_exchange : List Str := [Str.ofString "value", Str.ofString "one"]
abbrev f_is_exchange (a0 g0 : Nat) : Fn := ⟨2, [false], b_is_exchange a0 g0⟩

/- look_at_exchange: a0 = is_exchange, x0 = BadState -/
def b_look_at_exchange (a0 x0 : Nat) : CSs :=
  (.cons (.ite (.not (.ex (.call a0 (.cons (.var 0) .nil)))) (
   (.cons (.rais x0 (.cons (.cst (.str (Str.ofString "exchange"))) .nil)) .nil)) (.nil)) .nil)
def n_look_at_exchange : List Str := [Str.ofString "value"]
abbrev f_look_at_exchange (a0 x0 : Nat) : Fn := ⟨1, [false], b_look_at_exchange a0 x0⟩

/- still: no parameters -/
def b_still : CSs :=
  (.cons (.ret (.rng true (.cons (.var 0) .nil))) .nil)
def n_still : List Str := [Str.ofString "size"]
abbrev f_still : Fn := ⟨1, [false], b_still⟩

/- behind: a0 = look_at_exchange, x0 = BadState -/
def b_behind (a0 x0 : Nat) : CSs :=
  (.cons (.ex (.call a0 (.cons (.var 0) .nil)))
  (.cons (.ex (.call a0 (.cons (.var 1) .nil)))
  (.cons (.ite (.ex (.cmp .NotEq (.blt .len (.cons (.var 0) .nil)) (.blt .len (.cons (.var 1) .nil)))) (
   (.cons (.rais x0 (.cons (.cst (.str (Str.ofString "size"))) .nil)) .nil)) (.nil))
  (.cons (.ret (.blt .tuple (.cons (.lc [(Str.ofString "one", 2)] (.nm 2) (.seq (.var 0)) .non (.idx (.var 1) (.var 2))) .nil))) .nil))))
def n_behind : List Str := [Str.ofString "first", Str.ofString "other", Str.ofString "one"]
abbrev f_behind (a0 x0 : Nat) : Fn := ⟨3, [false, false], b_behind a0 x0⟩

/- back: a0 = look_at_exchange -/
def b_back (a0 : Nat) : CSs :=
  (.cons (.ex (.call a0 (.cons (.var 0) .nil)))
  (.cons (.set 1 (.rep (.lst (.cons (.cst (.int 0)) .nil)) (.blt .len (.cons (.var 0) .nil))))
  (.cons (.for (.tup [(.nm 2), (.nm 3)]) (.enum (.cons (.var 0) .nil)) (
   (.cons (.asg (.sub 1 (.var 3)) (.var 2)) .nil)))
  (.cons (.ret (.blt .tuple (.cons (.var 1) .nil))) .nil))))
def n_back : List Str := [Str.ofString "row", Str.ofString "found", Str.ofString "at", Str.ofString "one"]
abbrev f_back (a0 : Nat) : Fn := ⟨4, [false], b_back a0⟩

section
variable {P : Prg} {k kw ke g x n : Nat}
theorem whole_ok (h : At P kw f_is_whole) (n : Nat) {d : D} (hd : notDict d = true) : run P (n + 1) kw [.val d] = .ok false (.bool (whole d)) [] := by
  rw [run_at h]
  refine runF_is rfl rfl ?_
  cases d <;> first | (simp [startA, b_is_whole, whole]; done) | (simp [notDict] at hd)
/-- an exchange of places -/
def exB : D → Prop
  | .tuple ds => ds.length ≤ 64 ∧ ∃ xs : List Int, ds = xs.map .int ∧ xs.Perm (rangeI xs.length)
  | _ => False
theorem isex_ok (h : At P k (f_is_exchange kw g)) (hw : At P kw f_is_whole) (hg : P.gcs[g]? = some (.int 64)) (n : Nat) {d : D} (hd : notDict d = true) (hs : ∀ ds, d = .tuple ds → ds.all notDict = true ∧ ds.length ≤ 16777216) :
    ∃ b : Bool, run P (n + 2) k [.val d] = .ok false (.bool b) [] ∧ (b = true ↔ exB d) := by
  rw [run_at h]
  have hg' : ∀ c, (P.gs c).gcs g = some (.int 64) := fun c => hg
  have key : ∃ o d', runF (P.gs (run P (n + 1))) (f_is_exchange kw g) [.val d] = .ok o d' [] ∧ (o = false ∧ ∃ b : Bool, d' = .bool b ∧ (b = true ↔ exB d)) := by
    refine runF_ret rfl rfl ?_
    cases d with
    | tuple ds =>
      obtain ⟨h1, h2⟩ := hs ds rfl
      rw [List.all_eq_true] at h1
      simp [startA, b_is_exchange, hg']
      refine ⟨fun h3 z => ?_, fun h3 => ?_⟩
      · have := z.1
        omega
      · refine lcN_w (fun d => d) (fun d => .bool (whole d)) ds ?_ ?_ ?_ ?_
        · simp
        · exact h2
        · intro d hd
          refine ⟨_, (by simp; rfl), ?_⟩
          refine ⟨rfl, ?_⟩
          simp [sig_at hw, whole_ok hw n (h1 d hd)]
        · simp [all_bools]
          refine ⟨fun d hd hw z => ?_, fun h4 => ?_⟩
          · obtain ⟨xs, rfl, _⟩ := z.2
            obtain ⟨i, _, rfl⟩ := List.mem_map.mp hd
            simp [whole] at hw
          · obtain ⟨xs, rfl⟩ := whole_ints (List.all_eq_true.mpr h4)
            have h5 : xs.length ≤ 16777216 := by simpa using h2
            have e1 : (List.range xs.length).map dn = (rangeI xs.length).map PyData.int := by
              unfold rangeI
              rw [List.map_map]; rfl
            have e2 := eqD_l (α := Int) (by decide) (sortI xs) (rangeI xs.length)
            have e3 : exB (PyData.tuple (xs.map .int)) ↔ sortI xs = rangeI xs.length := by
              rw [sortI_range]
              constructor
              · rintro ⟨_, ys, h6, h7⟩
                have : ys = xs := (map_inj (fun a b h => PyData.int.inj h) h6).symm
                exact this ▸ h7
              · intro h6
                have h3' : (xs.map PyData.int).length ≤ 64 := by omega
                exact ⟨h3', xs, rfl, h6⟩
            have e2 : eqD (.list ((sortI xs).map .int)) (.list ((rangeI xs.length).map .int)) = some (decide (sortI xs = rangeI xs.length)) := e2
            simp [blt_sorted_ti h5, h5, e1, e2, e3]
            by_cases h8 : sortI xs = rangeI xs.length <;> simp [h8]
    | dict ds => simp [notDict] at hd
    | _ => simp [startA, b_is_exchange, exB]
  obtain ⟨o, d', e, rfl, b, rfl, hb⟩ := key
  exact ⟨b, e, hb⟩
theorem perm_exB {m : Nat} {p : List Nat} (hp : Perm m p) (hm : m ≤ 64) : exB (tn p) := by
  refine ⟨by rw [List.length_map, hp.len]; exact hm, p.map Int.ofNat, by rw [List.map_map]; rfl, ?_⟩
  unfold rangeI
  rw [List.length_map]
  refine List.Perm.map _ ?_
  rw [hp.len]
  exact L2.perm_range m p hp.len fun k hk => perm_mem hp hk
theorem exB_perm {p : List Nat} (h : exB (tn p)) : Perm p.length p ∧ p.length ≤ 64 := by
  obtain ⟨h1, xs, h2, h3⟩ := h
  have e : xs = p.map Int.ofNat := (map_inj (fun a b h => PyData.int.inj h) (show (p.map Int.ofNat).map PyData.int = xs.map PyData.int by rw [List.map_map]; exact h2)).symm
  subst e
  unfold rangeI at h3
  rw [List.length_map] at h3
  have h4 : p.Perm (List.range p.length) := by
    have := h3.map Int.toNat
    rw [List.map_map, List.map_map] at this
    have e1 : (Int.toNat ∘ Int.ofNat) = id := rfl
    rwa [e1, List.map_id, List.map_id] at this
  exact ⟨⟨rfl, fun x hx => List.mem_range.mp (h4.mem_iff.mp hx), h4.nodup_iff.mpr List.nodup_range⟩, by simpa using h1⟩
theorem nd_tn {p : List Nat} (hl : p.length ≤ 16777216) : notDict (tn p) = true ∧ ∀ ds, tn p = .tuple ds → ds.all notDict = true ∧ ds.length ≤ 16777216 := by
  refine ⟨rfl, fun ds h => ?_⟩
  obtain rfl := PyData.tuple.inj h
  exact ⟨by simp [notDict], by simpa using hl⟩
/-- what the exchanges' defs lean on -/

structure ExOk (P : Prg) (kw ke kl g x : Nat) : Prop where
  hw : At P kw f_is_whole
  he : At P ke (f_is_exchange kw g)
  hl : At P kl (f_look_at_exchange ke x)
  hg : P.gcs[g]? = some (.int 64)
  hx : P.exf[x]? = some []
variable {kl : Nat}
theorem isex_perm (E : ExOk P kw ke kl g x) (n : Nat) {m : Nat} {p : List Nat} (hp : Perm m p) (hm : m ≤ 64) : run P (n + 2) ke [.val (tn p)] = .ok false (.bool true) [] := by
  obtain ⟨h1, h2⟩ := nd_tn (p := p) (by rw [hp.len]; omega)
  obtain ⟨b, h3, h4⟩ := isex_ok E.he E.hw E.hg n h1 h2
  rw [h3, h4.mpr (perm_exB hp hm)]
theorem look_perm (E : ExOk P kw ke kl g x) (n : Nat) {m : Nat} {p : List Nat} (hp : Perm m p) (hm : m ≤ 64) : run P (n + 3) kl [.val (tn p)] = .ok false .none [] := by
  rw [run_at E.hl]
  refine runF_is rfl rfl ?_
  simp [startA, b_look_at_exchange, sig_at E.he, isex_perm E n hp hm]
theorem look_bad (E : ExOk P kw ke kl g x) (n : Nat) {d : D} (hd : notDict d = true) (hs : ∀ ds, d = .tuple ds → ds.all notDict = true ∧ ds.length ≤ 16777216) (hb : ¬ exB d) : run P (n + 3) kl [.val d] = .exc ⟨x, []⟩ [] := by
  obtain ⟨b, h3, h4⟩ := isex_ok E.he E.hw E.hg n hd hs
  have hb' : b = false := by cases b with
    | false => rfl
    | true => exact absurd (h4.mp rfl) hb
  subst hb'
  rw [run_at E.hl]
  refine runF_raises rfl rfl ?_
  have hx' : ∀ c, (P.gs c).exf x = some [] := fun c => E.hx
  simp [startA, b_look_at_exchange, sig_at E.he, h3, hx']
theorem still_ok (h : At P k f_still) (n m : Nat) (hm : m ≤ 16777216) : run P (n + 1) k [.val (.int m)] = .ok false (tn (List.range m)) [] := by
  rw [run_at h]
  refine runF_is rfl rfl ?_
  simp [startA, b_still, hm]
theorem behind_ok (E : ExOk P kw ke kl g x) (h : At P k (f_behind kl x)) (n : Nat) {m : Nat} {p q : List Nat} (hp : Perm m p) (hq : Perm m q) (hm : m ≤ 64) : run P (n + 4) k [.val (tn p), .val (tn q)] = .ok false (tn (p.map fun a => q.getD a 0)) [] := by
  rw [run_at h]
  refine runF_is rfl rfl ?_
  simp [startA, b_behind, sig_at E.hl, look_perm E n hp hm, look_perm E n hq hm, hp.len, hq.len]
  refine lcN_w dn (fun a => dn (q.getD a 0)) p ?_ ?_ ?_ ?_
  · simp
  · rw [hp.len]; omega
  · intro a ha
    refine ⟨_, rfl, ?_⟩
    refine ⟨rfl, ?_⟩
    have h1 : a < q.length := by rw [hq.len]; exact hp.lt a ha
    simp [List.getElem?_eq_getElem h1]
  · simp
theorem behind_bad (E : ExOk P kw ke kl g x) (h : At P k (f_behind kl x)) (n : Nat) {m l : Nat} {p q : List Nat} (hp : Perm m p) (hq : Perm l q) (hm : m ≤ 64) (hl : l ≤ 64) (hne : m ≠ l) : run P (n + 4) k [.val (tn p), .val (tn q)] = .exc ⟨x, []⟩ [] := by
  rw [run_at h]
  refine runF_raises rfl rfl ?_
  have hx' : ∀ c, (P.gs c).exf x = some [] := fun c => E.hx
  have hne' : ¬ (m : Int) = l := by omega
  simp [startA, b_behind, sig_at E.hl, look_perm E n hp hm, look_perm E n hq hl, hp.len, hq.len, hne, hne', hx']
theorem back_bad (E : ExOk P kw ke kl g x) (h : At P k (f_back kl)) (n : Nat) {d : D} (hd : notDict d = true) (hs : ∀ ds, d = .tuple ds → ds.all notDict = true ∧ ds.length ≤ 16777216) (hb : ¬ exB d) : run P (n + 4) k [.val d] = .exc ⟨x, []⟩ [] := by
  rw [run_at h]
  refine runF_raises rfl rfl ?_
  simp [startA, b_back, sig_at E.hl, look_bad E n hd hs hb]
theorem back_ok (E : ExOk P kw ke kl g x) (h : At P k (f_back kl)) (n : Nat) {m : Nat} {p : List Nat} (hp : Perm m p) (hm : m ≤ 64) : run P (n + 4) k [.val (tn p)] = .ok false (tn (inv p)) [] := by
  rw [run_at h]
  refine runF_is rfl rfl ?_
  have e2 : m ≤ 16777216 := by omega
  simp [startA, b_back, sig_at E.hl, look_perm E n hp hm, hp.len, e2]
  rw [enumT_map]
  refine for_w (fun q : Nat × Nat => PyData.tuple [dn q.2, dn q.1]) (fun rem r => ∃ done x y, p.zipIdx = done ++ rem ∧ r = [some (.dat false (tn p)), some (.dat true (.list ((sets done (List.replicate m 0)).map dn))), x, y]) ?_ ?_ _ _ ?_
  · rintro ⟨v, i⟩ rem r ⟨done, x, y, h, rfl⟩
    refine ⟨_, rfl, ?_⟩
    have hv : v < m := hp.lt v (List.fst_mem_of_mem_zipIdx (x := (v, i)) (k := 0) (l := p) (by rw [h]; simp))
    have hs : v < (sets done (List.replicate m 0)).length := by rw [sets_length]; simpa using hv
    simp [hs]
    refine ⟨done ++ [(v, i)], by simp [h], ?_⟩
    simp [sets, List.foldl_append, List.map_set]
  · rintro r ⟨done, x, y, h, rfl⟩
    simp at h
    subst h
    simp
    rw [← sets_inv hp]
  · exact ⟨[], none, none, rfl, by simp [sets, List.map_replicate]⟩
end
end Lb

set_option Elab.async false
set_option linter.all false
set_option maxRecDepth 100000
set_option maxHeartbeats 1000000
namespace Bf
/-! ## search by levels, words kept -/
section
variable {S W : Type} [DecidableEq S] (st : S → List (W × S)) (goal : S → Bool)
abbrev Kn (S W : Type) := List (S × List W)
def keys (k : Kn S W) : List S := k.map (·.1)
def look (k : Kn S W) (s : S) : List W := ((k.find? fun p => decide (p.1 = s)).map (·.2)).getD []
def put1 (h : List W) (k : Kn S W) (x : W × S) : Kn S W := if x.2 ∈ keys k then k else k ++ [(x.2, h ++ [x.1])]
def grow (k : Kn S W) (s : S) : Kn S W := (st s).foldl (put1 (look k s)) k
def lev (k : Kn S W) (l : List S) : Kn S W := l.foldl (grow st) k
/-- the keys that are new -/
def fresh (k k' : Kn S W) : List S := (keys k').drop k.length
def next (q : Kn S W × List S) : Kn S W × List S := (lev st q.1 q.2, fresh q.1 (lev st q.1 q.2))
def at_ (s0 : S) : Nat → Kn S W × List S
  | 0 => ([(s0, [])], [s0])
  | n + 1 => next st (at_ s0 n)
def good (q : Kn S W × List S) : List (List W) := (q.2.filter goal).map (look q.1)
def wayF (mn : List (List W) → List W) : Nat → Kn S W × List S → Option (List W)
  | 0, _ => none
  | n + 1, q => match good goal q with
    | [] => wayF mn n (next st q)
    | w :: ws => some (mn (w :: ws))
variable {st goal}
theorem keys_app {k j : Kn S W} : keys (k ++ j) = keys k ++ keys j := List.map_append
theorem keys_len {k : Kn S W} : (keys k).length = k.length := List.length_map _
/-- only put behind -/
theorem put1_pre (h : List W) (k : Kn S W) (x : W × S) : ∃ j, put1 h k x = k ++ j ∧ ∀ p ∈ j, p.2 = h ++ [x.1] ∧ p.1 = x.2 := by
  unfold put1
  split
  · exact ⟨[], by simp, by simp⟩
  · exact ⟨_, rfl, by simp⟩
theorem fold_pre (h : List W) : ∀ (xs : List (W × S)) (k : Kn S W), ∃ j, xs.foldl (put1 h) k = k ++ j ∧ ∀ p ∈ j, ∃ x ∈ xs, p.2 = h ++ [x.1] ∧ p.1 = x.2
  | [], k => ⟨[], by simp, by simp⟩
  | x :: xs, k => by
    obtain ⟨j, e, h1⟩ := put1_pre h k x
    obtain ⟨j', e', h2⟩ := fold_pre h xs (put1 h k x)
    refine ⟨j ++ j', by rw [List.foldl_cons, e', e, List.append_assoc], fun p hp => ?_⟩
    rcases List.mem_append.mp hp with hp | hp
    · exact ⟨x, List.mem_cons_self, h1 p hp⟩
    · obtain ⟨y, hy, q⟩ := h2 p hp
      exact ⟨y, List.mem_cons_of_mem _ hy, q⟩
theorem grow_pre (k : Kn S W) (s : S) : ∃ j, grow st k s = k ++ j ∧ ∀ p ∈ j, ∃ x ∈ st s, p.2 = look k s ++ [x.1] ∧ p.1 = x.2 := fold_pre _ _ _
theorem put1_nd {h : List W} {k : Kn S W} {x : W × S} (nd : (keys k).Nodup) : (keys (put1 h k x)).Nodup := by
  unfold put1
  split
  · exact nd
  · rename_i q
    rw [keys_app]
    refine List.nodup_append.mpr ⟨nd, by simp [keys], fun a ha b hb e => ?_⟩
    simp [keys] at hb
    subst e
    exact q (hb ▸ ha)
theorem fold_nd {h : List W} : ∀ (xs : List (W × S)) {k : Kn S W}, (keys k).Nodup → (keys (xs.foldl (put1 h) k)).Nodup
  | [], _, nd => nd
  | x :: xs, k, nd => by rw [List.foldl_cons]; exact fold_nd xs (put1_nd nd)
theorem grow_nd {k : Kn S W} {s : S} (nd : (keys k).Nodup) : (keys (grow st k s)).Nodup := fold_nd _ nd
theorem look_app {k j : Kn S W} {s : S} (h : s ∈ keys k) : look (k ++ j) s = look k s := by
  unfold look
  rw [List.find?_append]
  have : (k.find? fun p => decide (p.1 = s)).isSome := by
    rw [List.find?_isSome]
    obtain ⟨p, hp, e⟩ := List.mem_map.mp h
    exact ⟨p, hp, by simpa using e⟩
  obtain ⟨p, hp⟩ := Option.isSome_iff_exists.mp this
  rw [hp]; rfl
theorem look_mem {k : Kn S W} (nd : (keys k).Nodup) {s : S} {w : List W} (h : (s, w) ∈ k) : look k s = w := by
  unfold look
  induction k with
  | nil => simp at h
  | cons p k ih =>
    rw [List.find?_cons]
    have nd' : p.1 ∉ keys k ∧ (keys k).Nodup := List.nodup_cons.mp nd
    rcases List.mem_cons.mp h with h | h
    · subst h; simp
    · have : p.1 ≠ s := fun e => nd'.1 (List.mem_map.mpr ⟨_, h, e.symm ▸ rfl⟩)
      simp only [this, decide_false]
      exact ih nd'.2 h
theorem mem_look {k : Kn S W} {s : S} (h : s ∈ keys k) : (s, look k s) ∈ k := by
  unfold look
  cases e : k.find? fun p => decide (p.1 = s) with
  | none =>
    obtain ⟨p, hp, q⟩ := List.mem_map.mp h
    exact absurd q (by simpa using List.find?_eq_none.mp e p hp)
  | some p =>
    have h1 := List.find?_some e
    have h2 := List.mem_of_find?_eq_some e
    simp at h1
    subst h1
    exact h2
/-- every step's end is among the keys -/
theorem fold_has {h : List W} : ∀ {xs : List (W × S)} {k : Kn S W} {x : W × S}, x ∈ xs → x.2 ∈ keys (xs.foldl (put1 h) k)
  | y :: xs, k, x, hx => by
    rw [List.foldl_cons]
    obtain ⟨j, e, _⟩ := fold_pre h xs (put1 h k y)
    rcases List.mem_cons.mp hx with rfl | hx
    · rw [e, keys_app]
      refine List.mem_append_left _ ?_
      unfold put1
      split
      · assumption
      · rw [keys_app]; simp [keys]
    · exact fold_has hx
theorem lev_pre : ∀ (l : List S) (k : Kn S W), (∀ s ∈ l, s ∈ keys k) → ∃ j, lev st k l = k ++ j ∧ ∀ p ∈ j, ∃ s ∈ l, ∃ x ∈ st s, p.2 = look k s ++ [x.1] ∧ p.1 = x.2
  | [], k, _ => ⟨[], by simp [lev], by simp⟩
  | s :: l, k, hl => by
    obtain ⟨j, e, h1⟩ := grow_pre (st := st) k s
    have hl' : ∀ t ∈ l, t ∈ keys (grow st k s) := fun t ht => by rw [e, keys_app]; exact List.mem_append_left _ (hl t (List.mem_cons_of_mem _ ht))
    obtain ⟨j', e', h2⟩ := lev_pre l (grow st k s) hl'
    refine ⟨j ++ j', by show lev st (grow st k s) l = _; rw [e', e, List.append_assoc], fun p hp => ?_⟩
    rcases List.mem_append.mp hp with hp | hp
    · exact ⟨s, List.mem_cons_self, h1 p hp⟩
    · obtain ⟨t, ht, x, hx, q1, q2⟩ := h2 p hp
      refine ⟨t, List.mem_cons_of_mem _ ht, x, hx, ?_, q2⟩
      rw [q1, e, look_app (hl t (List.mem_cons_of_mem _ ht))]
theorem lev_nd : ∀ {l : List S} {k : Kn S W}, (keys k).Nodup → (keys (lev st k l)).Nodup
  | [], _, nd => nd
  | s :: l, k, nd => lev_nd (l := l) (k := grow st k s) (grow_nd nd)
theorem lev_has : ∀ {l : List S} {k : Kn S W} {s : S} {x : W × S}, (∀ s ∈ l, s ∈ keys k) → s ∈ l → x ∈ st s → x.2 ∈ keys (lev st k l)
  | t :: l, k, s, x, hl, hs, hx => by
    obtain ⟨j, e, h1⟩ := grow_pre (st := st) k t
    have hl' : ∀ t' ∈ l, t' ∈ keys (grow st k t) := fun t' ht => by rw [e, keys_app]; exact List.mem_append_left _ (hl t' (List.mem_cons_of_mem _ ht))
    rcases List.mem_cons.mp hs with rfl | hs
    · obtain ⟨j', e', h2⟩ := lev_pre l (grow st k s) hl'
      show x.2 ∈ keys (lev st (grow st k s) l)
      rw [e', keys_app]
      exact List.mem_append_left _ (fold_has hx)
    · exact lev_has (k := grow st k t) hl' hs hx
theorem lev_snoc {k : Kn S W} {l : List S} {s : S} : lev st k (l ++ [s]) = grow st (lev st k l) s := by simp [lev]
/-- what holds at each level: the level stands behind, its words are all as long -/
structure Ok (inv : S → Prop) (n : Nat) (q : Kn S W × List S) : Prop where
  nd : (keys q.1).Nodup
  suf : ∃ pre, keys q.1 = pre ++ q.2
  len : ∀ s ∈ q.2, (look q.1 s).length = n
  inv : ∀ s ∈ keys q.1, inv s
variable {inv : S → Prop}
theorem Ok.sub {n : Nat} {q : Kn S W × List S} (h : Ok inv n q) : ∀ s ∈ q.2, s ∈ keys q.1 := fun s hs => by
  obtain ⟨pre, e⟩ := h.suf
  rw [e]; exact List.mem_append_right _ hs
theorem Ok.next (hi : ∀ s, inv s → ∀ x ∈ st s, inv x.2) {n : Nat} {q : Kn S W × List S} (h : Ok inv n q) : Ok inv (n + 1) (next st q) := by
  obtain ⟨j, e, h1⟩ := lev_pre (st := st) q.2 q.1 h.sub
  have nd := lev_nd (st := st) (l := q.2) h.nd
  have ef : fresh q.1 (lev st q.1 q.2) = keys j := by
    unfold fresh
    rw [e, keys_app, List.drop_left' keys_len]
  refine ⟨nd, ⟨keys q.1, by show keys (lev st q.1 q.2) = _ ++ fresh q.1 (lev st q.1 q.2); rw [ef, e, keys_app]⟩, fun s hs => ?_, fun s hs => ?_⟩
  · have hs : s ∈ keys j := ef ▸ hs
    obtain ⟨p, hp, rfl⟩ := List.mem_map.mp hs
    obtain ⟨t, ht, x, hx, q1, q2⟩ := h1 p hp
    have : look (lev st q.1 q.2) p.1 = p.2 := look_mem nd (by rw [e]; exact List.mem_append_right _ hp)
    show (look (lev st q.1 q.2) p.1).length = n + 1
    rw [this, q1, List.length_append, h.len t ht]; rfl
  · have hs : s ∈ keys (lev st q.1 q.2) := hs
    rw [e, keys_app] at hs
    rcases List.mem_append.mp hs with hs | hs
    · exact h.inv s hs
    · obtain ⟨p, hp, rfl⟩ := List.mem_map.mp hs
      obtain ⟨t, ht, x, hx, q1, q2⟩ := h1 p hp
      rw [q2]
      exact hi t (h.inv t (h.sub t ht)) x hx
theorem ok_at (hi : ∀ s, inv s → ∀ x ∈ st s, inv x.2) {s0 : S} (h0 : inv s0) : ∀ n, Ok inv n (at_ st s0 n)
  | 0 => ⟨by simp [at_, keys], ⟨[], rfl⟩, by simp [at_, look], by simp [at_, keys]; exact h0⟩
  | n + 1 => (ok_at hi h0 n).next hi
/-- what stands reached within n steps is among the keys -/
inductive Rch (st : S → List (W × S)) (s0 : S) : Nat → S → Prop where
  | nil : Rch st s0 0 s0
  | snoc {n : Nat} {s : S} {x : W × S} : Rch st s0 n s → x ∈ st s → Rch st s0 (n + 1) x.2
theorem mem_or {s : S} : ∀ {n : Nat} {s0 : S}, s ∈ keys (at_ st s0 n).1 → ∃ m, m ≤ n ∧ s ∈ (at_ st s0 m).2
  | 0, s0, h => ⟨0, Nat.le_refl _, by simpa [at_, keys] using h⟩
  | n + 1, s0, h => by
    by_cases hm : s ∈ keys (at_ st s0 n).1
    · obtain ⟨m, h1, h2⟩ := mem_or hm
      exact ⟨m, by omega, h2⟩
    · refine ⟨n + 1, Nat.le_refl _, ?_⟩
      show s ∈ fresh (at_ st s0 n).1 (lev st (at_ st s0 n).1 (at_ st s0 n).2)
      have h : s ∈ keys (lev st (at_ st s0 n).1 (at_ st s0 n).2) := h
      have ⟨j, e, _⟩ : ∃ j, lev st (at_ st s0 n).1 (at_ st s0 n).2 = (at_ st s0 n).1 ++ j ∧ True := by
        obtain ⟨j, e, _⟩ := lev_pre (st := st) (at_ st s0 n).2 (at_ st s0 n).1 (ok_at (inv := fun _ => True) (fun _ _ _ _ => trivial) trivial n).sub
        exact ⟨j, e, trivial⟩
      unfold fresh
      rw [e, keys_app] at h ⊢
      rw [List.drop_left' keys_len]
      exact (List.mem_append.mp h).resolve_left hm
theorem rch_in {s0 s : S} {n : Nat} (h : Rch st s0 n s) : s ∈ keys (at_ st s0 n).1 := by
  induction h with
  | nil => simp [at_, keys]
  | @snoc n s x h hx ih =>
    obtain ⟨m, hm, h1⟩ := mem_or ih
    have h2 : x.2 ∈ keys (at_ st s0 (m + 1)).1 := lev_has (ok_at (inv := fun _ => True) (fun _ _ _ _ => trivial) trivial m).sub h1 hx
    have mono : ∀ {a b : Nat}, a ≤ b → ∀ {t : S}, t ∈ keys (at_ st s0 a).1 → t ∈ keys (at_ st s0 b).1 := fun {a b} hab {t} ht => by
      induction hab with
      | refl => exact ht
      | step hab ih =>
        rename_i c
        show t ∈ keys (lev st (at_ st s0 c).1 (at_ st s0 c).2)
        obtain ⟨j, e, _⟩ := lev_pre (st := st) (at_ st s0 c).2 (at_ st s0 c).1 (ok_at (inv := fun _ => True) (fun _ _ _ _ => trivial) trivial c).sub
        rw [e, keys_app]
        exact List.mem_append_left _ ih
    exact mono (by omega) h2
/-- words lead there -/
def walk (f : S → W → Option S) : List W → S → Option S
  | [], s => some s
  | w :: ws, s => (f s w).bind (walk f ws)
theorem walk_snoc {f : S → W → Option S} {w : W} : ∀ {ws : List W} {s : S}, walk f (ws ++ [w]) s = (walk f ws s).bind fun t => f t w
  | [], s => by simp [walk]
  | v :: ws, s => by
    simp only [List.cons_append, walk]
    cases f s v with
    | none => rfl
    | some t => exact walk_snoc (ws := ws) (s := t)
theorem leads {f : S → W → Option S} {s0 : S} (hi : ∀ s, inv s → ∀ x ∈ st s, inv x.2) (h0 : inv s0) (hf : ∀ s, inv s → ∀ x ∈ st s, f s x.1 = some x.2) : ∀ n, ∀ p ∈ (at_ st s0 n).1, walk f p.2 s0 = some p.1
  | 0, p, hp => by
    have : p = (s0, []) := by simpa [at_] using hp
    subst this; rfl
  | n + 1, p, hp => by
    have O := ok_at (st := st) (inv := inv) hi h0 n
    obtain ⟨j, e, h1⟩ := lev_pre (st := st) (at_ st s0 n).2 (at_ st s0 n).1 O.sub
    have hp : p ∈ lev st (at_ st s0 n).1 (at_ st s0 n).2 := hp
    rw [e] at hp
    rcases List.mem_append.mp hp with hp | hp
    · exact leads hi h0 hf n p hp
    · obtain ⟨s, hs, x, hx, q1, q2⟩ := h1 p hp
      have := leads hi h0 hf n _ (mem_look (O.sub s hs))
      rw [q1, walk_snoc, this, q2]
      exact hf s (O.inv s (O.sub s hs)) x hx
/-- how the search ends -/
def Res (st : S → List (W × S)) (goal : S → Bool) (mn : List (List W) → List W) (s0 : S) (o : Option (List W)) : Prop :=
  (∃ n, (∀ m < n, good goal (at_ st s0 m) = []) ∧ good goal (at_ st s0 n) ≠ [] ∧ o = some (mn (good goal (at_ st s0 n)))) ∨ (∃ n, (∀ m < n, good goal (at_ st s0 m) = []) ∧ (at_ st s0 n).2 = [] ∧ o = none)
theorem at_nil {s0 : S} {n : Nat} (h : (at_ st s0 n).2 = []) : ∀ m, (at_ st s0 (n + m)).2 = []
  | 0 => h
  | m + 1 => by
    have := at_nil h m
    show fresh (at_ st s0 (n + m)).1 (lev st (at_ st s0 (n + m)).1 (at_ st s0 (n + m)).2) = []
    rw [this]
    unfold fresh lev
    rw [List.foldl_nil, ← keys_len, List.drop_length]
theorem wayF_at {mn : List (List W) → List W} {s0 : S} : ∀ (N m : Nat), (∀ i, m ≤ i → i < m + N → good goal (at_ st s0 i) = []) → wayF st goal mn N (at_ st s0 m) = none
  | 0, _, _ => rfl
  | N + 1, m, h => by
    rw [wayF, h m (Nat.le_refl _) (by omega)]
    exact wayF_at N (m + 1) fun i h1 h2 => h i (by omega) (by omega)
theorem wayF_some {mn : List (List W) → List W} {s0 : S} {n : Nat} (hg : good goal (at_ st s0 n) ≠ []) : ∀ (N m : Nat), m ≤ n → n < m + N → (∀ i, m ≤ i → i < n → good goal (at_ st s0 i) = []) → wayF st goal mn N (at_ st s0 m) = some (mn (good goal (at_ st s0 n)))
  | 0, m, h1, h2, _ => by omega
  | N + 1, m, h1, h2, h => by
    rw [wayF]
    by_cases e : m = n
    · subst e
      cases q : good goal (at_ st s0 m) with
      | nil => exact absurd q hg
      | cons w ws => rfl
    · rw [h m (Nat.le_refl _) (by omega)]
      exact wayF_some hg N (m + 1) (by omega) (by omega) fun i a b => h i (by omega) b
theorem res_way {mn : List (List W) → List W} {s0 : S} {o : Option (List W)} {N : Nat} (h : Res st goal mn s0 o) (hN : ∀ n, (∀ m < n, good goal (at_ st s0 m) = []) → good goal (at_ st s0 n) ≠ [] → n < N) : wayF st goal mn N (at_ st s0 0) = o := by
  rcases h with ⟨n, h1, h2, rfl⟩ | ⟨n, h1, h2, rfl⟩
  · exact wayF_some h2 N 0 (by omega) (by have := hN n h1 h2; omega) fun i _ b => h1 i b
  · refine wayF_at N 0 fun i _ _ => ?_
    by_cases hi : i < n
    · exact h1 i hi
    · obtain ⟨j, rfl⟩ : ∃ j, i = n + j := ⟨i - n, by omega⟩
      unfold good
      rw [at_nil h2 j]; rfl
theorem mid (hi : ∀ s, inv s → ∀ x ∈ st s, inv x.2) {n i : Nat} {q : Kn S W × List S} {kk : Kn S W} (O : Ok inv n q) (hk : kk = lev st q.1 (q.2.take i)) : (∃ j, kk = q.1 ++ j) ∧ (keys kk).Nodup ∧ (∀ s ∈ keys kk, inv s) ∧ (∀ a m, a + q.2.length = q.1.length + m → m < q.2.length → (keys kk)[a]? = q.2[m]?) ∧ ∀ s ∈ q.2, s ∈ keys kk ∧ look kk s = look q.1 s := by
  subst hk
  have hs : ∀ s ∈ q.2.take i, s ∈ keys q.1 := fun s h => O.sub s (List.mem_of_mem_take h)
  obtain ⟨j, e, h1⟩ := lev_pre (st := st) (q.2.take i) q.1 hs
  refine ⟨⟨j, e⟩, lev_nd O.nd, fun s h => ?_, fun a m h h2 => ?_, fun s h => ?_⟩
  · rw [e, keys_app] at h
    rcases List.mem_append.mp h with h | h
    · exact O.inv s h
    · obtain ⟨p, hp, rfl⟩ := List.mem_map.mp h
      obtain ⟨t, ht, x, hx, q1, q2⟩ := h1 p hp
      rw [q2]
      exact hi t (O.inv t (hs t ht)) x hx
  · obtain ⟨pre, e2⟩ := O.suf
    have l1 : q.1.length = pre.length + q.2.length := by rw [← keys_len, e2, List.length_append]
    have l2 : a = pre.length + m := by omega
    rw [e, keys_app, e2, l2, List.append_assoc, List.getElem?_append_right (by omega), List.getElem?_append_left (by omega)]
    congr 1
    omega
  · have := O.sub s h
    rw [e, keys_app]
    exact ⟨List.mem_append_left _ this, look_app this⟩
theorem deep {s0 : S} (hi : ∀ s, inv s → ∀ x ∈ st s, inv x.2) (h0 : inv s0) : ∀ n, (at_ st s0 n).2 ≠ [] → n < (at_ st s0 n).1.length
  | 0, _ => by simp [at_]
  | n + 1, h => by
    have h1 : (at_ st s0 n).2 ≠ [] := fun z => h (at_nil z 1)
    have h2 := deep hi h0 n h1
    have O := ok_at (st := st) (inv := inv) hi h0 n
    obtain ⟨j, e, _⟩ := lev_pre (st := st) (at_ st s0 n).2 (at_ st s0 n).1 O.sub
    have h : fresh (at_ st s0 n).1 (lev st (at_ st s0 n).1 (at_ st s0 n).2) ≠ [] := h
    show n + 1 < (lev st (at_ st s0 n).1 (at_ st s0 n).2).length
    unfold fresh at h
    rw [e, keys_app, List.drop_left' keys_len] at h
    rw [e, List.length_append]
    have : j.length ≠ 0 := fun z => h (by rw [List.length_eq_zero_iff.mp z]; rfl)
    omega
end
end Bf

set_option Elab.async false
set_option linter.all false
set_option maxRecDepth 100000
set_option maxHeartbeats 1000000
namespace Bf
section
variable {S W : Type} [DecidableEq S] {st : S → List (W × S)} {inv : S → Prop} {s0 : S}
/-- the search, one state behind another, from the a-th one on -/
inductive Fin (st : S → List (W × S)) : Kn S W → Nat → Kn S W → Prop where
  | done {k : Kn S W} : Fin st k k.length k
  | step {k l : Kn S W} {a : Nat} {s : S} : (keys k)[a]? = some s → Fin st (grow st k s) (a + 1) l → Fin st k a l
theorem Fin.end_ {k l : Kn S W} (h : Fin st k k.length l) : l = k := by
  generalize hn : k.length = n at h
  cases h with
  | done => rfl
  | step h1 h2 =>
    rw [← hn, ← keys_len, List.getElem?_eq_none (Nat.le_refl _)] at h1
    cases h1
theorem Fin.next_ {k l : Kn S W} {a : Nat} (h : Fin st k a l) (ha : a < k.length) : ∃ s, (keys k)[a]? = some s ∧ Fin st (grow st k s) (a + 1) l := by
  cases h with
  | done => omega
  | step h1 h2 => exact ⟨_, h1, h2⟩
theorem Fin.uniq {k l l' : Kn S W} {a : Nat} (h : Fin st k a l) (h' : Fin st k a l') : l = l' := by
  induction h with
  | done => exact h'.end_.symm
  | step h1 h2 ih =>
    cases h' with
    | done => rw [← keys_len, List.getElem?_eq_none (Nat.le_refl _)] at h1; cases h1
    | step h3 h4 =>
      rw [h1] at h3
      cases h3
      exact ih h4
theorem fin_lev (hi : ∀ s, inv s → ∀ x ∈ st s, inv x.2) (h0 : inv s0) {l : Kn S W} (t : Nat) : ∀ (m i a : Nat), i + m = (at_ st s0 t).2.length → a + (at_ st s0 t).2.length = (at_ st s0 t).1.length + i → Fin st (at_ st s0 (t + 1)).1 (at_ st s0 t).1.length l → Fin st (lev st (at_ st s0 t).1 ((at_ st s0 t).2.take i)) a l
  | 0, i, a, h1, h2, h => by
    have e1 : i = (at_ st s0 t).2.length := by omega
    have e2 : a = (at_ st s0 t).1.length := by omega
    rw [e1, e2, List.take_length]
    exact h
  | m + 1, i, a, h1, h2, h => by
    have O := ok_at (st := st) hi h0 t
    have hil : i < (at_ st s0 t).2.length := by omega
    obtain ⟨_, _, _, at1, _⟩ := mid hi (i := i) O rfl
    refine .step (s := (at_ st s0 t).2[i]) (by rw [at1 a i h2 hil, List.getElem?_eq_getElem hil]) ?_
    have := fin_lev hi h0 t m (i + 1) (a + 1) (by omega) (by omega) h
    rw [List.take_succ, List.getElem?_eq_getElem hil] at this
    rw [← lev_snoc]
    exact this
theorem fin_at (hi : ∀ s, inv s → ∀ x ∈ st s, inv x.2) (h0 : inv s0) {T : Nat} (hT : (at_ st s0 T).2 = []) : ∀ m t : Nat, t + m = T → Fin st (at_ st s0 t).1 ((at_ st s0 t).1.length - (at_ st s0 t).2.length) (at_ st s0 T).1
  | 0, t, h => by
    obtain rfl : t = T := by omega
    rw [hT]
    exact .done
  | m + 1, t, h => by
    have ih := fin_at hi h0 hT m (t + 1) (by omega)
    have O := ok_at (st := st) hi h0 t
    have hl : (at_ st s0 t).2.length ≤ (at_ st s0 t).1.length := by
      obtain ⟨pre, e⟩ := O.suf
      rw [← keys_len, e, List.length_append]; omega
    obtain ⟨j, e, _⟩ := lev_pre (st := st) (at_ st s0 t).2 (at_ st s0 t).1 O.sub
    have e1 : (at_ st s0 (t + 1)).1 = (at_ st s0 t).1 ++ j := e
    have e2 : (at_ st s0 (t + 1)).2 = keys j := by
      show fresh (at_ st s0 t).1 (lev st (at_ st s0 t).1 (at_ st s0 t).2) = _
      unfold fresh
      rw [e, keys_app, List.drop_left' keys_len]
    have e3 : (at_ st s0 (t + 1)).1.length - (at_ st s0 (t + 1)).2.length = (at_ st s0 t).1.length := by
      rw [e1, e2, keys_len, List.length_append]; omega
    rw [e3] at ih
    have := fin_lev hi h0 t (at_ st s0 t).2.length 0 ((at_ st s0 t).1.length - (at_ st s0 t).2.length) (by omega) (by omega) ih
    simpa [lev] using this
theorem keys_mono {a b : Nat} (hab : a ≤ b) {t : S} (ht : t ∈ keys (at_ st s0 a).1) : t ∈ keys (at_ st s0 b).1 := by
  induction hab with
  | refl => exact ht
  | step hab ih =>
    rename_i c
    show t ∈ keys (lev st (at_ st s0 c).1 (at_ st s0 c).2)
    obtain ⟨j, e, _⟩ := lev_pre (st := st) (at_ st s0 c).2 (at_ st s0 c).1 (ok_at (inv := fun _ => True) (fun _ _ _ _ => trivial) trivial c).sub
    rw [e, keys_app]
    exact List.mem_append_left _ ih
/-- what the whole search leaves -/
structure All (st : S → List (W × S)) (inv : S → Prop) (s0 : S) (l : Kn S W) : Prop where
  fin : Fin st [(s0, [])] 0 l
  nd : (keys l).Nodup
  inv : ∀ s ∈ keys l, inv s
  h0 : s0 ∈ keys l
  cl : ∀ s ∈ keys l, ∀ x ∈ st s, x.2 ∈ keys l
  lv : ∃ T, (at_ st s0 T).2 = [] ∧ l = (at_ st s0 T).1
theorem all_ex (hi : ∀ s, inv s → ∀ x ∈ st s, inv x.2) (h0 : inv s0) {B : Nat} (bd : ∀ l : List S, l.Nodup → (∀ s ∈ l, inv s) → l.length ≤ B) : ∃ l, All st inv s0 l := by
  have hT : (at_ st s0 (B + 1)).2 = [] := by
    by_cases h : (at_ st s0 (B + 1)).2 = []
    · exact h
    · have h1 := deep hi h0 (B + 1) h
      have O := ok_at (st := st) hi h0 (B + 1)
      have h2 := bd _ O.nd O.inv
      rw [keys_len] at h2
      omega
  have O := ok_at (st := st) hi h0 (B + 1)
  have hf := fin_at hi h0 hT (B + 1) 0 (by omega)
  have e0 : (at_ st s0 0).1.length - (at_ st s0 0).2.length = 0 := rfl
  rw [e0] at hf
  refine ⟨_, hf, O.nd, O.inv, keys_mono (Nat.zero_le _) (by simp [at_, keys]), fun s hs x hx => ?_, ⟨_, hT, rfl⟩⟩
  obtain ⟨m, hm, h1⟩ := mem_or hs
  have : m ≠ B + 1 := fun z => by rw [z, hT] at h1; simp at h1
  have h2 : x.2 ∈ keys (at_ st s0 (m + 1)).1 := lev_has (ok_at (inv := fun _ => True) (fun _ _ _ _ => trivial) trivial m).sub h1 hx
  exact keys_mono (by omega) h2
end
end Bf

set_option Elab.async false
set_option linter.all false
set_option maxRecDepth 100000
set_option maxHeartbeats 1000000
namespace Lb
open PySem L2 E2
/- spread: no parameters -/
def b_spread : CSs :=
  (.cons (.set 3 (.dic1 (.var 0) (.cst (.int 0))))
  (.cons (.set 4 (.lst (.cons (.var 0) .nil)))
  (.cons (.set 5 (.cst (.int 0)))
  (.cons (.whl (.ex (.cmp .Lt (.var 5) (.blt .len (.cons (.var 4) .nil)))) (
   (.cons (.set 6 (.idx (.var 4) (.var 5)))
   (.cons (.for (.tup [(.nm 7), (.nm 8)]) (.seq (.callv 1 (.cons (.var 6) .nil))) (
    (.cons (.ite (.ex (.cmp .NotIn (.var 8) (.var 3))) (
     (.cons (.ite (.ex (.cmp .Eq (.blt .len (.cons (.var 4) .nil)) (.var 2))) (
      (.cons .unk .nil)) (.nil))
     (.cons (.asg (.sub 3 (.var 8)) (.bin .Add (.idx (.var 3) (.var 6)) (.cst (.int 1))))
     (.cons (.ex (.mut .append 4 (.cons (.var 8) .nil))) .nil)))) (.nil)) .nil)))
   (.cons (.aug 5 .Add (.cst (.int 1))) .nil)))))
  (.cons (.ret (.tup (.cons (.blt .tuple (.cons (.var 4) .nil)) (.cons (.blt .tuple (.cons (.lc [(Str.ofString "one", 9)] (.nm 9) (.seq (.var 4)) .non (.idx (.var 3) (.var 9))) .nil)) .nil)))) .nil)))))
def n_spread : List Str := [Str.ofString "start", Str.ofString "moves", Str.ofString "most", Str.ofString "known", Str.ofString "order", Str.ofString "at", Str.ofString "here", Str.ofString "_", Str.ofString "there", Str.ofString "one"]
abbrev f_spread : Fn := ⟨10, [false, false, false], b_spread⟩

open Enc (e)
/-! ## typed dicts -/
section
variable {α β : Type} [Enc α] [EncK α] [DecidableEq α] {v : β → D}
def dv (v : β → D) (k : List (α × β)) : List (D × D) := k.map fun p => (e p.1, v p.2)
def lk? (k : List (α × β)) (s : α) : Option β := (k.find? fun p => decide (p.1 = s)).map (·.2)
theorem dv_eq (v : β → D) (k : List (α × β)) : dv v k = (k.map fun p => (p.1, v p.2)).map fun p => (e p.1, p.2) := by unfold dv; rw [List.map_map]; rfl
theorem dlook_dv (k : List (α × β)) (s : α) : dlook (k.map fun p => (p.1, v p.2)) s = (lk? k s).map v := by
  unfold dlook lk?
  induction k with
  | nil => rfl
  | cons p k ih =>
    rw [List.map_cons, List.find?_cons, List.find?_cons]
    by_cases h : p.1 = s
    · simp [h]
    · simp only [h, decide_false]
      exact ih
theorem lk_some {k : List (α × β)} {s : α} : (lk? k s).isSome = decide (s ∈ k.map (·.1)) := by
  unfold lk?
  induction k with
  | nil => simp
  | cons p k ih =>
    rw [List.find?_cons]
    by_cases h : p.1 = s
    · simp [h]
    · have h' : ¬ s = p.1 := fun z => h z.symm
      simp only [h, decide_false]
      rw [ih]
      simp [h']
theorem inD_dv (k : List (α × β)) (s : α) : inD (e s) (.dict (dv v k)) = some (decide (s ∈ k.map (·.1))) := by
  show (if likeKeys (dv v k) (e s) = true then some (dGet (dv v k) (e s)).isSome else none) = _
  rw [dv_eq, if_pos like_e, dGet_e, dlook_dv, Option.isSome_map, lk_some]
theorem idx_dv {k : List (α × β)} {s : α} {b : β} (h : lk? k s = some b) : idxD (.dict (dv v k)) (e s) = some (v b) := by
  show (if likeKeys (dv v k) (e s) = true then dGet (dv v k) (e s) else none) = _
  rw [dv_eq, if_pos like_e, dGet_e, dlook_dv, h]; rfl
theorem set_dv {k : List (α × β)} {s : α} {b : β} (h : s ∉ k.map (·.1)) (hl : k.length < 16777216) : setD (.dict (dv v k)) (e s) (v b) = some (.dict (dv v (k ++ [(s, b)]))) := by
  show (if likeKeys (dv v k) (e s) = true ∧ (dv v k).length < sizeLine then some (PyData.dict (dPut (dv v k) (e s) (v b))) else none) = _
  have e1 : likeKeys (dv v k) (e s) = true := by rw [dv_eq]; exact like_e
  have e2 : (dv v k).length < sizeLine := by rw [sizeLine_eq]; unfold dv; rw [List.length_map]; exact hl
  rw [if_pos ⟨e1, e2⟩, dv_eq, dPut_e]
  unfold dins
  rw [if_neg]
  · have e3 : dv v (k ++ [(s, b)]) = dv v k ++ [(e s, v b)] := by unfold dv; rw [List.map_append]; rfl
    rw [e3, List.map_append, ← dv_eq]; rfl
  · simp only [List.any_map, List.any_eq_true, not_exists, not_and]
    intro p hp q
    exact h (List.mem_map.mpr ⟨p, hp, by simpa using q⟩)
end
/-! ## spread -/
section
open Bf
variable {S W : Type} [Enc S] [EncK S] [DecidableEq S] [Enc W] {P : Prg} {k kl : Nat} {cs : List D} {st : S → List (W × S)} {inv : S → Prop} {s0 : S} {B : Nat}
theorem lk_look {k : Kn S W} {s : S} (h : s ∈ keys k) : lk? k s = some (look k s) := by
  unfold lk? look
  have h2 : (lk? k s).isSome = true := by rw [lk_some]; simpa [keys] using h
  unfold lk? at h2
  obtain ⟨w, hw⟩ := Option.isSome_iff_exists.mp h2
  rw [hw]; rfl
theorem fin_pre {k l : Kn S W} {a : Nat} (h : Fin st k a l) : ∃ j, l = k ++ j := by
  induction h with
  | done => exact ⟨[], by simp⟩
  | @step k l a s _ _ ih =>
    obtain ⟨j, e⟩ := ih
    obtain ⟨j2, e2, _⟩ := grow_pre (st := st) k s
    exact ⟨j2 ++ j, by rw [e, e2, List.append_assoc]⟩
theorem fin_le {k l : Kn S W} {a : Nat} (h : Fin st k a l) (ha : a ≤ k.length) : a ≤ l.length := by
  obtain ⟨j, e⟩ := fin_pre h
  rw [e, List.length_append]; omega
/-- what spread asks of its surroundings -/
structure Sp (P : Prg) (n kl : Nat) (cs : List D) (st : S → List (W × S)) (inv : S → Prop) : Prop where
  sl : ∀ c, ((P.gs c).sig kl).all (!·) = true ∧ (P.gs c).sig kl ≠ []
  nc : ∃ c cs', cs = c :: cs'
  mv : ∀ s, inv s → run P n kl (.val (e s) :: cs.map .val) = .ok false (.tuple ((st s).map e)) []
def lenD (w : List W) : D := dn w.length
theorem spread_ok {n : Nat} {most : Int} {l : Kn S W} (hk : At P k f_spread) (R : Sp P n kl cs st inv) (hl : All st inv s0 l) (hB : l.length < 900000) (hm : (l.length : Int) < most ∨ most = l.length) :
    run P (n + 1) k [.val (e s0), .fn kl cs, .val (.int most)] = .ok false (.tuple [.tuple ((keys l).map e), .tuple (l.map fun p => lenD p.2)]) [] := by
  rw [run_at hk]
  refine runF_is rfl rfl ?_
  obtain ⟨c, cs', ec⟩ := R.nc
  subst ec
  have mv : ∀ s, inv s → run P n kl (.val (e s) :: .val c :: cs'.map .val) = .ok false (.tuple ((st s).map e)) [] := R.mv
  have sl1 : ∀ c, ¬ true ∈ (P.gs c).sig kl := fun c h => by have := List.all_eq_true.mp (R.sl c).1 _ h; simp at this
  have sl2 : ∀ c, ¬ (P.gs c).sig kl = [] := fun c => (R.sl c).2
  have fk : flatK (e s0) = true ∨ tupK (e s0) = true := by
    rcases EncK.key (α := S) with h | h
    · exact .inl (h s0)
    · exact .inr (h s0)
  simp [startA, b_spread, sl1, sl2, fk]
  refine cutT (Ih fun r => ∃ z6 z7 z8 : Option Sv, r = [some (.dat false (e s0)), some (.fn kl (c :: cs')), some (.dat false (.int most)), some (.dat true (.dict (dv lenD l))), some (.dat true (.list ((keys l).map e))), some (.dat false (.int l.length)), z6, z7, z8, none])
    (while_w (fun m => Ih fun r => ∃ (kk : Kn S W) (a : Nat) (z6 z7 z8 : Option Sv), Fin st kk a l ∧ a ≤ kk.length ∧ (keys kk).Nodup ∧ m + a = l.length ∧ r = [some (.dat false (e s0)), some (.fn kl (c :: cs')), some (.dat false (.int most)), some (.dat true (.dict (dv lenD kk))), some (.dat true (.list ((keys kk).map e))), some (.dat false (.int a)), z6, z7, z8, none]) ?_ 1000000 l.length _ (by omega) ⟨[(s0, [])], 0, none, none, none, hl.fin, by simp, by simp [keys], by simp, rfl⟩) ?_
  · rintro m _ ⟨kk, a, z6, z7, z8, hf, ha, nd, hma, rfl⟩
    obtain ⟨j, ej⟩ := fin_pre hf
    have hkl : kk.length ≤ l.length := by rw [ej, List.length_append]; omega
    simp [keys_len]
    refine ⟨fun hlt => ?_, fun hlt => ?_⟩
    · obtain ⟨s, hs, hf2⟩ := hf.next_ hlt
      have hsk : s ∈ keys kk := List.mem_of_getElem? hs
      have hsi : inv s := hl.inv s (by rw [ej, keys_app]; exact List.mem_append_left _ hsk)
      obtain ⟨j2, ej2⟩ := fin_pre hf2
      have hgl : (grow st kk s).length ≤ l.length := by rw [ej2, List.length_append]; omega
      simp [hs, sl1, sl2, mv s hsi]
      refine cutT (Ih fun r => ∃ z7 z8 : Option Sv, r = [some (.dat false (e s0)), some (.fn kl (c :: cs')), some (.dat false (.int most)), some (.dat true (.dict (dv lenD (grow st kk s)))), some (.dat true (.list ((keys (grow st kk s)).map e))), some (.dat false (.int (a : Nat))), some (.dat false (e s)), z7, z8, none])
        (for_w (fun x : W × S => .tuple [e x.1, e x.2]) (fun rem => Ih fun r => ∃ done, st s = done ++ rem ∧ ∃ z7 z8 : Option Sv, r = [some (.dat false (e s0)), some (.fn kl (c :: cs')), some (.dat false (.int most)), some (.dat true (.dict (dv lenD (done.foldl (put1 (look kk s)) kk)))), some (.dat true (.list ((keys (done.foldl (put1 (look kk s)) kk)).map e))), some (.dat false (.int (a : Nat))), some (.dat false (e s)), z7, z8, none]) ?_ ?_ (st s) _ ⟨[], rfl, z7, z8, rfl⟩) ?_
      · rintro x rem _ ⟨done, hd, z7, z8, rfl⟩
        refine ⟨_, (by simp; rfl), ?_⟩
        have hnext : st s = (done ++ [x]) ++ rem := by rw [hd]; simp
        obtain ⟨j3, ej3, _⟩ := fold_pre (look kk s) done kk
        have hfull : grow st kk s = (x :: rem).foldl (put1 (look kk s)) (done.foldl (put1 (look kk s)) kk) := by
          unfold grow; rw [hd, List.foldl_append]
        obtain ⟨j4, ej4, _⟩ := fold_pre (look kk s) (x :: rem) (done.foldl (put1 (look kk s)) kk)
        have hpx : (done ++ [x]).foldl (put1 (look kk s)) kk = put1 (look kk s) (done.foldl (put1 (look kk s)) kk) x := by rw [List.foldl_append]; rfl
        have hsk3 : s ∈ keys (done.foldl (put1 (look kk s)) kk) := by rw [ej3, keys_app]; exact List.mem_append_left _ hsk
        have hlk3 : look (done.foldl (put1 (look kk s)) kk) s = look kk s := by rw [ej3, look_app hsk]
        obtain ⟨j5, ej5, _⟩ := fold_pre (look kk s) rem ((done ++ [x]).foldl (put1 (look kk s)) kk)
        have hlen5 : ((done ++ [x]).foldl (put1 (look kk s)) kk).length ≤ l.length := by
          have : (grow st kk s).length = ((done ++ [x]).foldl (put1 (look kk s)) kk).length + j5.length := by rw [hfull, List.foldl_cons, ← hpx, ej5, List.length_append]
          omega
        generalize done.foldl (put1 (look kk s)) kk = k3 at hpx hsk3 hlk3 ej4
        by_cases hin : x.2 ∈ keys k3
        · have hin' : x.2 ∈ k3.map (·.1) := hin
          rw [put1, if_pos hin] at hpx
          simp [inD_dv, hin']
          exact ⟨done ++ [x], hnext, _, _, by rw [hpx]⟩
        · have hin' : ¬ x.2 ∈ k3.map (·.1) := hin
          rw [put1, if_neg hin] at hpx
          have hk3l : k3.length < l.length := by rw [hpx, List.length_append, List.length_singleton] at hlen5; omega
          have hnm : ¬ ((keys k3).length : Int) = most := by rw [keys_len]; omega
          have hma2 := mut_append (xs := (keys k3).map e) (y := (e x.2 : D)) (by rw [List.length_map, keys_len]; omega)
          have hidx : idxD (.dict (dv lenD k3)) (e s) = some (.int (look kk s).length) := by
            have := idx_dv (v := lenD) (lk_look hsk3)
            rw [hlk3] at this
            exact this
          have hset : setD (.dict (dv lenD k3)) (e x.2) (.int (((look kk s).length : Int) + 1)) = some (.dict (dv lenD (k3 ++ [(x.2, look kk s ++ [x.1])]))) := by
            have := set_dv (v := lenD) (k := k3) (s := x.2) (b := look kk s ++ [x.1]) hin' (by omega)
            have e2 : (lenD (look kk s ++ [x.1]) : D) = .int (((look kk s).length : Int) + 1) := by simp [lenD]
            rw [e2] at this
            exact this
          simp [inD_dv, hin', hnm, hidx, hset, hma2]
          refine ⟨done ++ [x], hnext, some (.dat false (e x.1)), some (.dat false (e x.2)), ?_⟩
          rw [hpx, keys_app, List.map_append]
          rfl
      · rintro r ⟨done, hd, z7, z8, rfl⟩
        simp at hd
        subst hd
        exact ⟨z7, z8, rfl⟩
      · rintro _ ⟨z7, z8, rfl⟩
        simp
        obtain ⟨j6, ej6, _⟩ := grow_pre (st := st) kk s
        exact ⟨m - 1, by omega, grow st kk s, a + 1, some (.dat false (e s)), z7, z8, hf2, by rw [ej6, List.length_append]; omega, grow_nd nd, by omega, rfl⟩
    · have : a = kk.length := by omega
      subst this
      have := hf.end_
      subst this
      exact ⟨_, _, _, rfl⟩
  · rintro _ ⟨z6, z7, z8, rfl⟩
    simp
    refine lcN_w1 [some (.dat false (e s0)), some (.fn kl (c :: cs')), some (.dat false (.int most)), some (.dat true (.dict (dv lenD l))), some (.dat false (.list ((keys l).map e))), some (.dat false (.int l.length)), z6, z7, z8, none] (fun p : S × List W => e p.1) (fun p => lenD p.2) l ?_ ?_ ?_ ?_
    · simp [keys]
    · omega
    · intro p hp
      refine ⟨_, (by simp; rfl), ?_⟩
      have hpk : p.1 ∈ keys l := List.mem_map.mpr ⟨p, hp, rfl⟩
      have h1 := idx_dv (v := lenD) (lk_look hpk)
      rw [look_mem hl.nd (w := p.2) hp] at h1
      simp [h1]
    · simp
end
end Lb

set_option Elab.async false
set_option linter.all false
set_option maxRecDepth 100000
set_option maxHeartbeats 1000000
namespace Pg
open E2
/-! ## pegs, the mathematics -/
abbrev Cell := Int × Int
def ov (c d : Cell) : Cell := (c.1 + d.1, c.2 + d.2)
def fr (c d : Cell) : Cell := (c.1 + 2 * d.1, c.2 + 2 * d.2)
def dA : List Cell := [(-1, 0), (0, -1), (0, 1), (1, 0)]
def dL : List Cell := [(0, 1), (1, 0), (0, -1), (-1, 0)]
def okL (board s : List Cell) (c d : Cell) : Bool := decide (ov c d ∈ s) && (decide (fr c d ∈ board) && decide (fr c d ∉ s))
def kept (s : List Cell) (c d : Cell) : List Cell := s.filter fun x => decide (x ≠ c) && decide (x ≠ ov c d)
def beh (s : List Cell) (c d : Cell) : List Cell := sortE (kept s c d ++ [fr c d])
abbrev Mv := (Cell × Cell) × List Cell
def leapsC (dirs board s : List Cell) (c : Cell) : List Mv := (dirs.filter (okL board s c)).map fun d => ((c, fr c d), beh s c d)
def leapsU (dirs board s : List Cell) : List Mv := s.flatMap (leapsC dirs board s)
def leapsT (board s : List Cell) : List Mv := sortE (leapsU dA board s)
theorem flat_perm {α β : Type} {f g : α → List β} : ∀ {l : List α}, (∀ a ∈ l, (f a).Perm (g a)) → (l.flatMap f).Perm (l.flatMap g)
  | [], _ => .nil
  | a :: l, h => by
    rw [List.flatMap_cons, List.flatMap_cons]
    exact (h a List.mem_cons_self).append (flat_perm fun b hb => h b (List.mem_cons_of_mem _ hb))
theorem dL_dA : dL.Perm dA := by decide
theorem leapsT_L (board s : List Cell) : sortE (leapsU dL board s) = leapsT board s :=
  sortE_eq (flat_perm fun a _ => (dL_dA.filter _).map _)
/-! ### ascending rows -/
abbrev Asc (s : List Cell) : Prop := s.Pairwise fun a b => lt a b = true
theorem lt_trans'' {a b c : Cell} (h1 : lt a b = true) (h2 : lt b c = true) : lt a c = true := by
  obtain ⟨p1, p2⟩ := lt_iff.mp h1
  obtain ⟨q1, q2⟩ := lt_iff.mp h2
  refine lt_iff.mpr ⟨le_trans' p1 q1, fun z => ?_⟩
  subst z
  exact p2 (le_anti p1 q1)
theorem Asc.nd {s : List Cell} (h : Asc s) : s.Nodup := h.imp fun q z => by subst z; rw [lt_irr] at q; cases q
theorem Asc.le {s : List Cell} (h : Asc s) : s.Pairwise fun a b => le a b = true := h.imp fun q => (lt_iff.mp q).1
theorem asc_of {s : List Cell} (h : s.Pairwise fun a b => le a b = true) (nd : s.Nodup) : Asc s := (h.and nd).imp fun q => lt_iff.mpr q
theorem asc_sort {s : List Cell} (nd : s.Nodup) : Asc (sortE s) := asc_of (sortE_pw s) (sortE_nd nd)
theorem asc_ext {s t : List Cell} (hs : Asc s) (ht : Asc t) (h : ∀ x, x ∈ s ↔ x ∈ t) : s = t :=
  pw_eq ((List.perm_ext_iff_of_nodup hs.nd ht.nd).mpr h) hs.le ht.le
theorem sort_asc {s : List Cell} (h : Asc s) : sortE s = s := sortE_of (List.Perm.refl _) h.le
/-! ### states of a board -/
structure St (board s : List Cell) : Prop where
  asc : Asc s
  sub : ∀ x ∈ s, x ∈ board
theorem ov_ne {c d : Cell} (hd : d ∈ dA) : c ≠ ov c d := by
  intro z
  have h1 := congrArg Prod.fst z
  have h2 := congrArg Prod.snd z
  simp only [ov, dA, List.mem_cons, List.not_mem_nil, or_false] at h1 h2 hd
  rcases hd with rfl | rfl | rfl | rfl <;> simp at h1 h2 <;> omega
theorem kept_nd {s : List Cell} (h : s.Nodup) (c d : Cell) : (kept s c d).Nodup := h.filter _
theorem mem_kept {s : List Cell} {c d x : Cell} : x ∈ kept s c d ↔ x ∈ s ∧ x ≠ c ∧ x ≠ ov c d := by
  simp [kept, List.mem_filter]
theorem beh_nd {board s : List Cell} {c d : Cell} (h : s.Nodup) (hk : okL board s c d = true) : (kept s c d ++ [fr c d]).Nodup := by
  simp only [okL, Bool.and_eq_true, decide_eq_true_eq] at hk
  refine List.nodup_append.mpr ⟨kept_nd h c d, by simp, fun a ha b hb e => ?_⟩
  have : b = fr c d := by simpa using hb
  subst this
  subst e
  exact hk.2.2 (mem_kept.mp ha).1
theorem St.beh {board s : List Cell} {c d : Cell} (h : St board s) (hk : okL board s c d = true) : St board (beh s c d) := by
  refine ⟨asc_sort (beh_nd h.asc.nd hk), fun x hx => ?_⟩
  simp only [okL, Bool.and_eq_true, decide_eq_true_eq] at hk
  rcases List.mem_append.mp (sortE_mem.mp hx) with hx | hx
  · exact h.sub x (mem_kept.mp hx).1
  · have : x = fr c d := by simpa using hx
    subst this
    exact hk.2.1
theorem mem_leapsT {board s : List Cell} {x : Mv} : x ∈ leapsT board s ↔ ∃ c ∈ s, ∃ d ∈ dA, okL board s c d = true ∧ x = ((c, fr c d), Pg.beh s c d) := by
  unfold leapsT
  rw [sortE_mem]
  simp only [leapsU, List.mem_flatMap, leapsC, List.mem_map, List.mem_filter]
  constructor
  · rintro ⟨c, hc, d, ⟨hd, hk⟩, rfl⟩
    exact ⟨c, hc, d, hd, hk, rfl⟩
  · rintro ⟨c, hc, d, hd, hk, rfl⟩
    exact ⟨c, hc, d, ⟨hd, hk⟩, rfl⟩
theorem St.step {board s : List Cell} (h : St board s) : ∀ x ∈ leapsT board s, St board x.2 := fun x hx => by
  obtain ⟨c, hc, d, hd, hk, rfl⟩ := mem_leapsT.mp hx
  exact h.beh hk
/-- few states -/
def bits : Nat → List (List Bool)
  | 0 => [[]]
  | n + 1 => (bits n).flatMap fun b => [true :: b, false :: b]
theorem bits_len : ∀ n, (bits n).length = 2 ^ n
  | 0 => rfl
  | n + 1 => by
    rw [bits, List.length_flatMap, Nat.pow_succ, ← bits_len n]
    induction bits n with
    | nil => rfl
    | cons b l ih => rw [List.map_cons, List.sum_cons, ih]; simp only [List.length_cons, List.length_nil]; omega
theorem mem_bits : ∀ (b : List Bool), b ∈ bits b.length
  | [] => by simp [bits]
  | x :: b => by
    rw [List.length_cons, bits, List.mem_flatMap]
    exact ⟨b, mem_bits b, by cases x <;> simp⟩
def pickB : List Bool → List Cell → List Cell
  | true :: b, c :: l => c :: pickB b l
  | false :: b, _ :: l => pickB b l
  | _, _ => []
theorem pickB_eq (p : Cell → Bool) : ∀ l : List Cell, pickB (l.map p) l = l.filter p
  | [] => rfl
  | c :: l => by
    rw [List.map_cons]
    cases h : p c with
    | true => rw [pickB, pickB_eq p l, List.filter_cons_of_pos h]
    | false => rw [pickB, pickB_eq p l, List.filter_cons_of_neg (by simp [h])]
theorem St.mem {board s : List Cell} (hb : Asc board) (h : St board s) : s ∈ (bits board.length).map fun b => pickB b board := by
  refine List.mem_map.mpr ⟨board.map fun c => decide (c ∈ s), by have := mem_bits (board.map fun c => decide (c ∈ s)); rwa [List.length_map] at this, ?_⟩
  rw [pickB_eq]
  refine asc_ext (hb.filter _) h.asc fun x => ?_
  simp only [List.mem_filter, decide_eq_true_eq]
  exact ⟨fun q => q.2, fun q => ⟨h.sub x q, q⟩⟩
theorem nd_len' {α : Type} [DecidableEq α] : ∀ {l m : List α}, l.Nodup → (∀ x ∈ l, x ∈ m) → l.length ≤ m.length
  | [], _, _, _ => Nat.zero_le _
  | x :: l, m, nd, h => by
    have hx := h x List.mem_cons_self
    have nd' := List.nodup_cons.mp nd
    have ih := nd_len' (m := m.erase x) nd'.2 fun y hy => (List.mem_erase_of_ne (fun z => nd'.1 (by rw [← z]; exact hy))).mpr (h y (List.mem_cons_of_mem _ hy))
    rw [List.length_erase_of_mem hx] at ih
    have : 0 < m.length := List.length_pos_of_mem hx
    simp only [List.length_cons]
    omega
theorem St.few {board : List Cell} (hb : Asc board) (hl : board.length ≤ 10) (l : List (List Cell)) (nd : l.Nodup) (h : ∀ s ∈ l, St board s) : l.length ≤ 1024 := by
  have h1 := nd_len' nd fun s hs => (h s hs).mem hb
  rw [List.length_map, bits_len] at h1
  exact Nat.le_trans h1 (Nat.pow_le_pow_right (by omega) hl)
/-! ### kinds -/
def col (side : Nat) (c : Cell) : Int := if side = 0 then (c.1 + c.2) % 3 else (c.1 - c.2) % 3
theorem col_lt (side : Nat) (c : Cell) : 0 ≤ col side c ∧ col side c < 3 := by
  unfold col; split <;> omega
def nb (p : Cell → Bool) (s : List Cell) : Nat := (s.filter p).length
def lo (side : Nat) (c : Cell) : Bool := decide (col side c < 2)
def hi (side : Nat) (c : Cell) : Bool := decide (0 < col side c)
def kindT (s : List Cell) : List Nat := [nb (lo 0) s % 2, nb (hi 0) s % 2, nb (lo 1) s % 2, nb (hi 1) s % 2]
theorem nb_perm {p : Cell → Bool} {s t : List Cell} (h : s.Perm t) : nb p s = nb p t := (h.filter p).length_eq
theorem nb_cons (p : Cell → Bool) (c : Cell) (s : List Cell) : nb p (c :: s) = (if p c then 1 else 0) + nb p s := by
  unfold nb
  cases h : p c with
  | true => rw [List.filter_cons_of_pos h]; simp; omega
  | false => rw [List.filter_cons_of_neg (by simp [h])]; simp
theorem perm_kept {s : List Cell} {c d : Cell} (nd : s.Nodup) (hc : c ∈ s) (ho : ov c d ∈ s) (hne : c ≠ ov c d) : s.Perm (c :: ov c d :: kept s c d) := by
  refine (List.perm_ext_iff_of_nodup nd ?_).mpr fun x => ?_
  · refine List.nodup_cons.mpr ⟨?_, List.nodup_cons.mpr ⟨?_, kept_nd nd c d⟩⟩
    · simp [mem_kept, hne]
    · simp [mem_kept]
  · simp only [List.mem_cons, mem_kept]
    constructor
    · intro h
      by_cases h1 : x = c
      · exact .inl h1
      · by_cases h2 : x = ov c d
        · exact .inr (.inl h2)
        · exact .inr (.inr ⟨h, h1, h2⟩)
    · rintro (rfl | rfl | h)
      · exact hc
      · exact ho
      · exact h.1
theorem even_lo (side : Nat) (c d : Cell) (hd : d ∈ dA) : ((if lo side c then 1 else 0) + ((if lo side (ov c d) then 1 else 0) + 0)) % 2 = (if lo side (fr c d) then 1 else 0 : Nat) % 2 := by
  obtain ⟨a, b⟩ := c
  simp only [dA, List.mem_cons, List.not_mem_nil, or_false] at hd
  unfold lo col ov fr
  by_cases hs : side = 0
  · simp only [hs, if_true, decide_eq_true_eq]
    rcases hd with rfl | rfl | rfl | rfl <;> simp only [] <;> split <;> split <;> split <;> omega
  · simp only [hs, if_false, decide_eq_true_eq]
    rcases hd with rfl | rfl | rfl | rfl <;> simp only [] <;> split <;> split <;> split <;> omega
theorem even_hi (side : Nat) (c d : Cell) (hd : d ∈ dA) : ((if hi side c then 1 else 0) + ((if hi side (ov c d) then 1 else 0) + 0)) % 2 = (if hi side (fr c d) then 1 else 0 : Nat) % 2 := by
  obtain ⟨a, b⟩ := c
  simp only [dA, List.mem_cons, List.not_mem_nil, or_false] at hd
  unfold hi col ov fr
  by_cases hs : side = 0
  · simp only [hs, if_true, decide_eq_true_eq]
    rcases hd with rfl | rfl | rfl | rfl <;> simp only [] <;> split <;> split <;> split <;> omega
  · simp only [hs, if_false, decide_eq_true_eq]
    rcases hd with rfl | rfl | rfl | rfl <;> simp only [] <;> split <;> split <;> split <;> omega
theorem nb_beh {p : Cell → Bool} {board s : List Cell} {c d : Cell} (nd : s.Nodup) (hc : c ∈ s) (hd : d ∈ dA) (hk : okL board s c d = true)
    (he : ((if p c then 1 else 0) + ((if p (ov c d) then 1 else 0) + 0)) % 2 = (if p (fr c d) then 1 else 0 : Nat) % 2) : nb p (beh s c d) % 2 = nb p s % 2 := by
  simp only [okL, Bool.and_eq_true, decide_eq_true_eq] at hk
  have e1 : nb p (beh s c d) = nb p (fr c d :: kept s c d) := nb_perm ((sortE_perm _).trans (List.perm_append_singleton _ _))
  have e2 := nb_perm (p := p) (perm_kept nd hc hk.1 (ov_ne hd))
  rw [e1, e2, nb_cons, nb_cons, nb_cons]
  omega
theorem kind_step {board s : List Cell} (h : St board s) : ∀ x ∈ leapsT board s, kindT x.2 = kindT s := fun x hx => by
  obtain ⟨c, hc, d, hd, hk, rfl⟩ := mem_leapsT.mp hx
  unfold kindT
  simp only []
  rw [nb_beh h.asc.nd hc hd hk (even_lo 0 c d hd), nb_beh h.asc.nd hc hd hk (even_hi 0 c d hd), nb_beh h.asc.nd hc hd hk (even_lo 1 c d hd), nb_beh h.asc.nd hc hd hk (even_hi 1 c d hd)]
/-! ### turned -/
def fl (c : Cell) : Cell := (c.2, c.1)
def flipB (s : List Cell) : List Cell := sortE (s.map fl)
theorem fl_fl (c : Cell) : fl (fl c) = c := rfl
theorem fl_inj {a b : Cell} (h : fl a = fl b) : a = b := by rw [← fl_fl a, h, fl_fl]
theorem mem_map_fl {s : List Cell} {c : Cell} : fl c ∈ s.map fl ↔ c ∈ s := by
  rw [List.mem_map]
  exact ⟨fun ⟨x, hx, e⟩ => fl_inj e ▸ hx, fun h => ⟨c, h, rfl⟩⟩
theorem mem_flip {s : List Cell} {c : Cell} : fl c ∈ flipB s ↔ c ∈ s := by unfold flipB; rw [sortE_mem, mem_map_fl]
theorem okL_fl (board s : List Cell) (c d : Cell) : okL (flipB board) (flipB s) (fl c) (fl d) = okL board s c d := by
  have e1 : ov (fl c) (fl d) = fl (ov c d) := rfl
  have e2 : fr (fl c) (fl d) = fl (fr c d) := rfl
  unfold okL
  rw [e1, e2]
  simp only [mem_flip]
theorem dA_fl : (dA.map fl).Perm dA := by decide
theorem leapsC_fl (board s : List Cell) (c : Cell) : (leapsC dA (flipB board) (flipB s) (fl c)).length = (leapsC dA board s c).length := by
  unfold leapsC
  rw [List.length_map, List.length_map, ← (dA_fl.filter _).length_eq, List.filter_map, List.length_map]
  congr 2
  funext d
  exact okL_fl board s c d
theorem sum_perm {l m : List Nat} (h : l.Perm m) : l.sum = m.sum := by
  induction h with
  | nil => rfl
  | cons x _ ih => rw [List.sum_cons, List.sum_cons, ih]
  | swap x y l => simp only [List.sum_cons]; omega
  | trans _ _ h1 h2 => exact h1.trans h2
theorem leaps_flip (board s : List Cell) : (leapsT (flipB board) (flipB s)).length = (leapsT board s).length := by
  unfold leapsT
  rw [sortE_len, sortE_len, leapsU, leapsU, List.length_flatMap, List.length_flatMap]
  have h1 : ((flipB s).map fun a => (leapsC dA (flipB board) (flipB s) a).length).Perm ((s.map fl).map fun a => (leapsC dA (flipB board) (flipB s) a).length) := (sortE_perm _).map _
  rw [sum_perm h1, List.map_map]
  congr 1
  exact List.map_congr_left fun c _ => leapsC_fl board s c
theorem asc_flip {s : List Cell} (h : Asc s) : Asc (flipB s) := asc_sort (List.Pairwise.map fl (fun a b q z => q (fl_inj z)) h.nd)
end Pg

set_option Elab.async false
set_option linter.all false
set_option maxRecDepth 100000
set_option maxHeartbeats 1000000
namespace Lb
open PySem L2 E2
/- is_cell: a0 = is_whole -/
def b_is_cell (a0 : Nat) : CSs :=
  (.cons (.ret (.and (.isin (.var 0) "tuple") (.and (.cmp .Eq (.blt .len (.cons (.var 0) .nil)) (.cst (.int 2))) (.blt .all (.cons (.lc [(Str.ofString "one", 1)] (.nm 1) (.seq (.var 0)) .non (.and (.call a0 (.cons (.var 1) .nil)) (.chn .LtE .LtE (.neg (.cst (.int 50))) (.var 1) (.cst (.int 50))))) .nil))))) .nil)
def n_is_cell : List Str := [Str.ofString "value", Str.ofString "one"]
abbrev f_is_cell (a0 : Nat) : Fn := ⟨2, [false], b_is_cell a0⟩

/- are_cells: a0 = is_cell, g0 = MOST_CELLS -/
def b_are_cells (a0 g0 : Nat) : CSs :=
  (.cons (.ite (.or (.not (.ex (.isin (.var 0) "tuple"))) (.or (.ex (.cmp .Gt (.blt .len (.cons (.var 0) .nil)) (.gc g0))) (.not (.ex (.blt .all (.cons (.lc [(Str.ofString "one", 1)] (.nm 1) (.seq (.var 0)) .non (.call a0 (.cons (.var 1) .nil))) .nil)))))) (
   (.cons (.ret (.cst (.bool false))) .nil)) (.nil))
  (.cons (.ret (.blt .all (.cons (.lc [(Str.ofString "one", 1), (Str.ofString "two", 2)] (.tup [(.nm 1), (.nm 2)]) (.zip (.cons (.var 0) (.cons (.sli (.var 0) (.som (.cst (.int 1))) .non) .nil))) .non (.cmp .Lt (.var 1) (.var 2))) .nil))) .nil))
def n_are_cells : List Str := [Str.ofString "value", Str.ofString "one", Str.ofString "two"]
abbrev f_are_cells (a0 g0 : Nat) : Fn := ⟨3, [false], b_are_cells a0 g0⟩

/- look_at_pegs: a0 = are_cells, x0 = BadPlan, x1 = BadState -/
def b_look_at_pegs (a0 x0 x1 : Nat) : CSs :=
  (.cons (.ite (.not (.ex (.call a0 (.cons (.var 0) .nil)))) (
   (.cons (.rais x0 (.cons (.cst (.str (Str.ofString "board"))) .nil)) .nil)) (.nil))
  (.cons (.ite (.or (.not (.ex (.call a0 (.cons (.var 1) .nil)))) (.not (.ex (.blt .all (.cons (.lc [(Str.ofString "one", 2)] (.nm 2) (.seq (.var 1)) .non (.cmp .In (.var 2) (.var 0))) .nil))))) (
   (.cons (.rais x1 (.cons (.cst (.str (Str.ofString "pegs"))) .nil)) .nil)) (.nil)) .nil))
def n_look_at_pegs : List Str := [Str.ofString "board", Str.ofString "state", Str.ofString "one"]
abbrev f_look_at_pegs (a0 x0 x1 : Nat) : Fn := ⟨3, [false, false], b_look_at_pegs a0 x0 x1⟩

/- leaps: a0 = look_at_pegs -/
def b_leaps (a0 : Nat) : CSs :=
  (.cons (.ex (.call a0 (.cons (.var 0) (.cons (.var 1) .nil))))
  (.cons (.set 2 (.lst .nil))
  (.cons (.for (.tup [(.nm 3), (.nm 4)]) (.seq (.var 1)) (
   (.cons (.for (.tup [(.nm 5), (.nm 6)]) (.seq (.tup (.cons (.tup (.cons (.neg (.cst (.int 1))) (.cons (.cst (.int 0)) .nil))) (.cons (.tup (.cons (.cst (.int 0)) (.cons (.neg (.cst (.int 1))) .nil))) (.cons (.tup (.cons (.cst (.int 0)) (.cons (.cst (.int 1)) .nil))) (.cons (.tup (.cons (.cst (.int 1)) (.cons (.cst (.int 0)) .nil))) .nil)))))) (
    (.cons (.asg (.tup (.cons (.nm 7) (.cons (.nm 8) .nil))) (.tup (.cons (.tup (.cons (.bin .Add (.var 3) (.var 5)) (.cons (.bin .Add (.var 4) (.var 6)) .nil))) (.cons (.tup (.cons (.bin .Add (.var 3) (.bin .Mult (.cst (.int 2)) (.var 5))) (.cons (.bin .Add (.var 4) (.bin .Mult (.cst (.int 2)) (.var 6))) .nil))) .nil))))
    (.cons (.ite (.and (.ex (.cmp .In (.var 7) (.var 1))) (.and (.ex (.cmp .In (.var 8) (.var 0))) (.ex (.cmp .NotIn (.var 8) (.var 1))))) (
     (.cons (.set 9 (.lc [(Str.ofString "one", 10)] (.nm 10) (.seq (.var 1)) (.som (.ex (.cmp .NotIn (.var 10) (.tup (.cons (.tup (.cons (.var 3) (.cons (.var 4) .nil))) (.cons (.var 7) .nil)))))) (.var 10)))
     (.cons (.ex (.mut .append 2 (.cons (.tup (.cons (.tup (.cons (.tup (.cons (.var 3) (.cons (.var 4) .nil))) (.cons (.var 8) .nil))) (.cons (.blt .tuple (.cons (.blt .sorted (.cons (.bin .Add (.var 9) (.lst (.cons (.var 8) .nil))) .nil)) .nil)) .nil))) .nil))) .nil))) (.nil)) .nil)))) .nil)))
  (.cons (.ret (.blt .tuple (.cons (.blt .sorted (.cons (.var 2) .nil)) .nil))) .nil))))
def n_leaps : List Str := [Str.ofString "board", Str.ofString "state", Str.ofString "found", Str.ofString "a", Str.ofString "b", Str.ofString "down", Str.ofString "right", Str.ofString "over", Str.ofString "there", Str.ofString "kept", Str.ofString "one"]
abbrev f_leaps (a0 : Nat) : Fn := ⟨11, [false, false], b_leaps a0⟩

/- colour_2: no parameters -/
def b_colour_2 : CSs :=
  (.cons (.ret (.ife (.ex (.cmp .Eq (.var 1) (.cst (.int 0)))) (.bin .Mod (.bin .Add (.idx (.var 0) (.cst (.int 0))) (.idx (.var 0) (.cst (.int 1)))) (.cst (.int 3))) (.bin .Mod (.bin .Sub (.idx (.var 0) (.cst (.int 0))) (.idx (.var 0) (.cst (.int 1)))) (.cst (.int 3))))) .nil)
def n_colour_2 : List Str := [Str.ofString "cell", Str.ofString "side"]
abbrev f_colour_2 : Fn := ⟨2, [false, false], b_colour_2⟩

/- kind_of: a0 = are_cells, a1 = colour, x0 = BadState -/
def b_kind_of (a0 a1 x0 : Nat) : CSs :=
  (.cons (.ite (.not (.ex (.call a0 (.cons (.var 0) .nil)))) (
   (.cons (.rais x0 (.cons (.cst (.str (Str.ofString "pegs"))) .nil)) .nil)) (.nil))
  (.cons (.set 1 (.lst .nil))
  (.cons (.for (.nm 2) (.seq (.tup (.cons (.cst (.int 0)) (.cons (.cst (.int 1)) .nil)))) (
   (.cons (.set 3 (.lc [(Str.ofString "k", 5)] (.nm 5) (.rng (.cons (.cst (.int 3)) .nil)) .non (.blt .len (.cons (.lc [(Str.ofString "one", 4)] (.nm 4) (.seq (.var 0)) (.som (.ex (.cmp .Eq (.call a1 (.cons (.var 4) (.cons (.var 2) .nil))) (.var 5)))) (.var 4)) .nil))))
   (.cons (.ex (.mut .extend 1 (.cons (.lst (.cons (.bin .Mod (.bin .Add (.idx (.var 3) (.cst (.int 0))) (.idx (.var 3) (.cst (.int 1)))) (.cst (.int 2))) (.cons (.bin .Mod (.bin .Add (.idx (.var 3) (.cst (.int 1))) (.idx (.var 3) (.cst (.int 2)))) (.cst (.int 2))) .nil))) .nil))) .nil))))
  (.cons (.ret (.blt .tuple (.cons (.var 1) .nil))) .nil))))
def n_kind_of : List Str := [Str.ofString "state", Str.ofString "found", Str.ofString "side", Str.ofString "counts", Str.ofString "one", Str.ofString "k"]
abbrev f_kind_of (a0 a1 x0 : Nat) : Fn := ⟨6, [false], b_kind_of a0 a1 x0⟩

/- ends_for: a0 = look_at_pegs, a1 = kind_of -/
def b_ends_for (a0 a1 : Nat) : CSs :=
  (.cons (.ex (.call a0 (.cons (.var 0) (.cons (.var 1) .nil))))
  (.cons (.ret (.blt .tuple (.cons (.lc [(Str.ofString "one", 2)] (.nm 2) (.seq (.var 0)) (.som (.ex (.cmp .Eq (.call a1 (.cons (.tup (.cons (.var 2) .nil)) .nil)) (.call a1 (.cons (.var 1) .nil))))) (.var 2)) .nil))) .nil))
def n_ends_for : List Str := [Str.ofString "board", Str.ofString "state", Str.ofString "one"]
abbrev f_ends_for (a0 a1 : Nat) : Fn := ⟨3, [false, false], b_ends_for a0 a1⟩

/- reached: a0 = look_at_pegs, a1 = spread, a2 = leaps, g0 = MOST_STATES -/
def lam_reached_0 (a0 a1 a2 g0 l0 : Nat) : LamDt := ⟨Str.ofString "here", [Str.ofString "here", Str.ofString "board"], [Str.ofString "board"], (.call a2 (.cons (.var 1) (.cons (.var 0) .nil)))⟩
def b_reached (a0 a1 a2 g0 l0 : Nat) : CSs :=
  (.cons (.ex (.call a0 (.cons (.var 0) (.cons (.var 1) .nil))))
  (.cons (.ret (.idx (.callL a1 [(.v 1), (.l l0 [0]), (.g g0)]) (.cst (.int 0)))) .nil))
def n_reached : List Str := [Str.ofString "board", Str.ofString "state"]
abbrev f_reached (a0 a1 a2 g0 l0 : Nat) : Fn := ⟨2, [false, false], b_reached a0 a1 a2 g0 l0⟩

/- fewest_left: a0 = reached -/
def b_fewest_left (a0 : Nat) : CSs :=
  (.cons (.set 2 (.call a0 (.cons (.var 0) (.cons (.var 1) .nil))))
  (.cons (.set 3 (.blt .min (.cons (.lc [(Str.ofString "one", 4)] (.nm 4) (.seq (.var 2)) .non (.blt .len (.cons (.var 4) .nil))) .nil)))
  (.cons (.ret (.tup (.cons (.var 3) (.cons (.blt .tuple (.cons (.blt .sorted (.cons (.lc [(Str.ofString "one", 4)] (.nm 4) (.seq (.var 2)) (.som (.ex (.cmp .Eq (.blt .len (.cons (.var 4) .nil)) (.var 3)))) (.var 4)) .nil)) .nil)) .nil)))) .nil)))
def n_fewest_left : List Str := [Str.ofString "board", Str.ofString "state", Str.ofString "rows", Str.ofString "few", Str.ofString "one"]
abbrev f_fewest_left (a0 : Nat) : Fn := ⟨5, [false, false], b_fewest_left a0⟩

/- turned_board: a0 = are_cells, x0 = BadState -/
def b_turned_board (a0 x0 : Nat) : CSs :=
  (.cons (.ite (.not (.ex (.call a0 (.cons (.var 0) .nil)))) (
   (.cons (.rais x0 (.cons (.cst (.str (Str.ofString "cells"))) .nil)) .nil)) (.nil))
  (.cons (.ret (.blt .tuple (.cons (.blt .sorted (.cons (.lc [(Str.ofString "a", 1), (Str.ofString "b", 2)] (.tup [(.nm 1), (.nm 2)]) (.seq (.var 0)) .non (.tup (.cons (.var 2) (.cons (.var 1) .nil)))) .nil)) .nil))) .nil))
def n_turned_board : List Str := [Str.ofString "cells", Str.ofString "a", Str.ofString "b"]
abbrev f_turned_board (a0 x0 : Nat) : Fn := ⟨3, [false], b_turned_board a0 x0⟩

/- _law_same_2: a0 = _law_same -/
def b__law_same_2 (a0 : Nat) : CSs :=
  (.cons (.ite (.or (.ex (.isin (.var 1) "tuple")) (.ex (.isin (.var 1) "list"))) (
   (.cons (.ite (.or (.ex (.cmp .NotEq (.isin (.var 0) "tuple") (.isin (.var 1) "tuple"))) (.ex (.cmp .NotEq (.isin (.var 0) "list") (.isin (.var 1) "list")))) (
    (.cons (.ret (.cst (.bool false))) .nil)) (.nil))
   (.cons (.ite (.ex (.cmp .NotEq (.blt .len (.cons (.var 0) .nil)) (.blt .len (.cons (.var 1) .nil)))) (
    (.cons (.ret (.cst (.bool false))) .nil)) (.nil))
   (.cons (.ret (.cmp .Eq (.blt .len (.cons (.lc [(Str.ofString "k", 2)] (.nm 2) (.rng (.cons (.blt .len (.cons (.var 1) .nil)) .nil)) (.som (.not (.ex (.call a0 (.cons (.idx (.var 0) (.var 2)) (.cons (.idx (.var 1) (.var 2)) .nil)))))) (.var 2)) .nil)) (.cst (.int 0)))) .nil)))) (.nil))
  (.cons (.ite (.or (.ex (.isin (.var 1) "bool")) (.ex (.isin (.var 0) "bool"))) (
   (.cons (.ret (.and (.isin (.var 1) "bool") (.and (.isin (.var 0) "bool") (.cmp .Eq (.var 0) (.var 1))))) .nil)) (.nil))
  (.cons (.ite (.or (.ex (.cmp .Is (.var 1) (.cst .none))) (.ex (.cmp .Is (.var 0) (.cst .none)))) (
   (.cons (.ret (.and (.cmp .Is (.var 1) (.cst .none)) (.cmp .Is (.var 0) (.cst .none)))) .nil)) (.nil))
  (.cons (.ite (.or (.ex (.isin (.var 1) "str")) (.ex (.isin (.var 0) "str"))) (
   (.cons (.ret (.and (.isin (.var 1) "str") (.and (.isin (.var 0) "str") (.cmp .Eq (.var 0) (.var 1))))) .nil)) (.nil))
  (.cons (.ret (.and (.isin (.var 0) "int") (.and (.isin (.var 1) "int") (.cmp .Eq (.var 0) (.var 1))))) .nil)))))
def n__law_same_2 : List Str := [Str.ofString "actual", Str.ofString "expected", Str.ofString "k"]
abbrev f__law_same_2 (a0 : Nat) : Fn := ⟨3, [false, false], b__law_same_2 a0⟩

/- _law_leaps: no parameters -/
def b__law_leaps : CSs :=
  (.cons (.set 2 (.lst .nil))
  (.cons (.for (.tup [(.nm 3), (.nm 4)]) (.seq (.var 1)) (
   (.cons (.for (.tup [(.nm 5), (.nm 6)]) (.seq (.tup (.cons (.tup (.cons (.cst (.int 0)) (.cons (.cst (.int 1)) .nil))) (.cons (.tup (.cons (.cst (.int 1)) (.cons (.cst (.int 0)) .nil))) (.cons (.tup (.cons (.cst (.int 0)) (.cons (.neg (.cst (.int 1))) .nil))) (.cons (.tup (.cons (.neg (.cst (.int 1))) (.cons (.cst (.int 0)) .nil))) .nil)))))) (
    (.cons (.asg (.tup (.cons (.nm 7) (.cons (.nm 8) .nil))) (.tup (.cons (.tup (.cons (.bin .Add (.var 3) (.var 5)) (.cons (.bin .Add (.var 4) (.var 6)) .nil))) (.cons (.tup (.cons (.bin .Add (.var 3) (.bin .Mult (.cst (.int 2)) (.var 5))) (.cons (.bin .Add (.var 4) (.bin .Mult (.cst (.int 2)) (.var 6))) .nil))) .nil))))
    (.cons (.ite (.and (.ex (.cmp .In (.var 7) (.var 1))) (.and (.ex (.cmp .In (.var 8) (.var 0))) (.ex (.cmp .NotIn (.var 8) (.var 1))))) (
     (.cons (.ex (.mut .append 2 (.cons (.tup (.cons (.tup (.cons (.tup (.cons (.var 3) (.cons (.var 4) .nil))) (.cons (.var 8) .nil))) (.cons (.blt .tuple (.cons (.blt .sorted (.cons (.bin .Add (.lc [(Str.ofString "one", 9)] (.nm 9) (.seq (.var 1)) (.som (.and (.ex (.cmp .NotEq (.var 9) (.var 7))) (.ex (.cmp .NotEq (.var 9) (.tup (.cons (.var 3) (.cons (.var 4) .nil))))))) (.var 9)) (.lst (.cons (.var 8) .nil))) .nil)) .nil)) .nil))) .nil))) .nil)) (.nil)) .nil)))) .nil)))
  (.cons (.ret (.blt .sorted (.cons (.var 2) .nil))) .nil)))
def n__law_leaps : List Str := [Str.ofString "board", Str.ofString "state", Str.ofString "found", Str.ofString "a", Str.ofString "b", Str.ofString "down", Str.ofString "right", Str.ofString "over", Str.ofString "there", Str.ofString "one"]
abbrev f__law_leaps : Fn := ⟨10, [false, false], b__law_leaps⟩

/- _law_kind: no parameters -/
def b__law_kind : CSs :=
  (.cons (.set 1 (.lst .nil))
  (.cons (.for (.nm 2) (.seq (.tup (.cons (.cst (.int 0)) (.cons (.cst (.int 1)) .nil)))) (
   (.cons (.set 3 (.lc [(Str.ofString "a", 4), (Str.ofString "b", 5)] (.tup [(.nm 4), (.nm 5)]) (.seq (.var 0)) .non (.ife (.ex (.cmp .Eq (.var 2) (.cst (.int 0)))) (.bin .Mod (.bin .Add (.var 4) (.var 5)) (.cst (.int 3))) (.bin .Mod (.bin .Sub (.var 4) (.var 5)) (.cst (.int 3))))))
   (.cons (.set 1 (.bin .Add (.var 1) (.lst (.cons (.bin .Mod (.blt .len (.cons (.lc [(Str.ofString "one", 6)] (.nm 6) (.seq (.var 3)) (.som (.ex (.cmp .Lt (.var 6) (.cst (.int 2))))) (.var 6)) .nil)) (.cst (.int 2))) (.cons (.bin .Mod (.blt .len (.cons (.lc [(Str.ofString "one", 6)] (.nm 6) (.seq (.var 3)) (.som (.ex (.cmp .Gt (.var 6) (.cst (.int 0))))) (.var 6)) .nil)) (.cst (.int 2))) .nil))))) .nil))))
  (.cons (.ret (.blt .tuple (.cons (.var 1) .nil))) .nil)))
def n__law_kind : List Str := [Str.ofString "state", Str.ofString "found", Str.ofString "side", Str.ofString "rest", Str.ofString "a", Str.ofString "b", Str.ofString "one"]
abbrev f__law_kind : Fn := ⟨7, [false], b__law_kind⟩

end Lb

set_option Elab.async false
set_option linter.all false
set_option maxRecDepth 100000
set_option maxHeartbeats 1000000
namespace Lb
open PySem L2 E2
open Enc (e)
open Pg
section
variable {P : Prg} {k kw kc ka kp kl n g x xs xp : Nat} {s board : List Cell}
/-! ## small things -/
theorem cmp_lt_pair {α β : Type} [Enc α] [Enc β] [EncA α] [EncA β] (hm : Enc.m (α × β) ≤ 60) (a b : α × β) : cmpD .Lt (e a) (e b) = some (lt a b) := by
  show (if ltOk (e a) (e b) = true then some (PySem.W.dataLt (e a) (e b)) else none) = _
  rw [if_pos]; rfl
  unfold ltOk
  rw [EncA.al, EncA.al, EncA.al, decide_eq_true (Nat.le_trans (okP_can (Enc.ok a)).2 hm)]
  rfl
theorem sli1 (xs : List D) : sliD (.tuple xs) (some 1) none = some (false, .tuple (xs.drop 1)) := by
  cases xs with
  | nil => rfl
  | cons y ys =>
    have := sli_from' (xs := y :: ys) (n := 1) (by simp)
    exact this
where
  sli_from' {xs : List D} {n : Nat} (h : n ≤ xs.length) : sliD (.tuple xs) (some ((n : Nat) : Int)) none = some (false, .tuple (xs.drop n)) := by
    show some (false, PyData.tuple (cutD xs (some ((n : Nat) : Int)) none)) = _
    unfold cutD
    rw [HT.sIx_nat, HT.sIx_none, Nat.min_eq_left h, List.take_of_length_le (by simp)]
theorem zipT_e {α β : Type} (f : α → D) (h : β → D) : ∀ (xs : List α) (ys : List β), zipT (xs.map f) (ys.map h) = (xs.zip ys).map fun p => .tuple [f p.1, h p.2]
  | [], _ => by simp [zipT]
  | _ :: _, [] => by simp [zipT]
  | x :: xs, y :: ys => by simp [zipT, zipT_e f h xs ys]
theorem pw_zip {α : Type} {r : α → α → Prop} : ∀ {l : List α}, l.Pairwise r → ∀ p ∈ l.zip (l.drop 1), r p.1 p.2
  | [], _, p, hp => by simp at hp
  | [a], _, p, hp => by simp at hp
  | a :: b :: l, h, p, hp => by
    have h1 := List.pairwise_cons.mp h
    simp only [List.drop_succ_cons, List.drop_zero, List.zip_cons_cons, List.mem_cons] at hp
    rcases hp with rfl | hp
    · exact h1.1 b List.mem_cons_self
    · exact pw_zip h1.2 p (by simpa using hp)
@[simp] theorem e_int (i : Int) : (e i : D) = .int i := same rfl
theorem inD_tx {α : Type} [Enc α] [DecidableEq α] (h : Enc.m α + 1 ≤ 64) (k : α) (xs : List α) {i : Decidable (k ∈ xs)} : inD (e k) (.tuple (xs.map e)) = some (@decide (k ∈ xs) i) := by rw [inD_t h]; congr
theorem inD_lx {α : Type} [Enc α] [DecidableEq α] (h : Enc.m α + 1 ≤ 64) (k : α) (xs : List α) {i : Decidable (k ∈ xs)} : inD (e k) (.list (xs.map e)) = some (@decide (k ∈ xs) i) := by rw [inD_l h]; congr
theorem eqD_ex {α : Type} [Enc α] [DecidableEq α] (h : Enc.m α ≤ 64) (a b : α) {i : Decidable (a = b)} : eqD (e a) (e b) = some (@decide (a = b) i) := by rw [eqD_e h]; congr
/-- a row of cells -/
structure Row (s : List Cell) : Prop where
  asc : Asc s
  rng : ∀ c ∈ s, (-50 ≤ c.1 ∧ c.1 ≤ 50) ∧ (-50 ≤ c.2 ∧ c.2 ≤ 50)
  len : s.length ≤ 40
theorem iscell_ok (h : At P kc (f_is_cell kw)) (hw : At P kw f_is_whole) {c : Cell} (hc : (-50 ≤ c.1 ∧ c.1 ≤ 50) ∧ (-50 ≤ c.2 ∧ c.2 ≤ 50)) (n : Nat) : run P (n + 2) kc [.val (e c)] = .ok false (.bool true) [] := by
  rw [run_at h]
  refine runF_is rfl rfl ?_
  have hwi : ∀ i : Int, run P (n + 1) kw [.val (.int i)] = .ok false (.bool true) [] := fun i => whole_ok hw n rfl
  obtain ⟨a, b⟩ := c
  rw [e_pair]
  have hall : bltD .all [.list [.bool true, .bool true]] = some (false, .bool true) := rfl
  simp [startA, b_is_cell, sig_at hw]
  refine lcN_w (fun i : Int => .int i) (fun _ => .bool true) [a, b] ?_ ?_ ?_ ?_
  · simp
  · simp
  · intro i hi
    refine ⟨_, (by simp; rfl), ?_⟩
    refine ⟨rfl, ?_⟩
    have hi1 : -50 ≤ i ∧ i ≤ 50 := by
      simp at hi
      rcases hi with rfl | rfl
      · exact hc.1
      · exact hc.2
    simp [sig_at hw, hwi, hi1.1, hi1.2]
  · simp [hall]
theorem cells_ok (h : At P ka (f_are_cells kc g)) (hc : At P kc (f_is_cell kw)) (hw : At P kw f_is_whole) (hg : P.gcs[g]? = some (.int 40)) (hs : Row s) (n : Nat) : run P (n + 3) ka [.val (.tuple (s.map e))] = .ok false (.bool true) [] := by
  rw [run_at h]
  refine runF_is rfl rfl ?_
  have hg' : ∀ c, (P.gs c).gcs g = some (.int 40) := fun c => hg
  have h3 : ¬ (40 : Int) < (s.length : Nat) := by have := hs.len; omega
  simp [startA, b_are_cells, hg', h3]
  refine lcN_w (e : Cell → D) (fun _ => .bool true) s ?_ ?_ ?_ ?_
  · simp
  · have := hs.len; omega
  · intro c hcm
    refine ⟨_, (by simp; rfl), ?_⟩
    refine ⟨rfl, ?_⟩
    simp [sig_at hc, iscell_ok hc hw (hs.rng c hcm) n]
  · simp [all_bools]
    refine lcN_w (fun p : Cell × Cell => .tuple [e p.1, e p.2]) (fun _ => .bool true) (s.zip (s.drop 1)) ?_ ?_ ?_ ?_
    · simp [sli1, zipD]
      rw [← List.map_tail]
      exact zipT_e _ _ _ _
    · have := hs.len; simp; omega
    · intro p hp
      refine ⟨_, (by simp; rfl), ?_⟩
      refine ⟨rfl, ?_⟩
      have := pw_zip hs.asc p hp
      simp [cmp_lt_pair (α := Int) (β := Int) (by decide), this]
    · simp [all_bools]
theorem look_ok (hp : At P kp (f_look_at_pegs ka xp xs)) (h : At P ka (f_are_cells kc g)) (hc : At P kc (f_is_cell kw)) (hw : At P kw f_is_whole) (hg : P.gcs[g]? = some (.int 40)) (hb : Row board) (hs : Row s) (hsub : ∀ x ∈ s, x ∈ board) (n : Nat) :
    run P (n + 4) kp [.val (.tuple (board.map e)), .val (.tuple (s.map e))] = .ok false .none [] := by
  rw [run_at hp]
  refine runF_is rfl rfl ?_
  simp [startA, b_look_at_pegs, sig_at h, cells_ok h hc hw hg hb n, cells_ok h hc hw hg hs n]
  refine lcN_w (e : Cell → D) (fun _ => .bool true) s ?_ ?_ ?_ ?_
  · simp
  · have := hs.len; omega
  · intro c hcm
    refine ⟨_, (by simp; rfl), ?_⟩
    refine ⟨rfl, ?_⟩
    simp [inD_t (α := Cell) (by decide), hsub c hcm]
  · simp [all_bools]
theorem kind_pair {α β : Type} [Enc α] [Enc β] [EncA α] [EncA β] (l : List (α × β)) : Kind l := .inl (.inl fun a _ => ⟨_, _, e_pair a.1 a.2⟩)
theorem leapsC_len (dirs board s : List Cell) (c : Cell) : (leapsC dirs board s c).length ≤ dirs.length := by
  unfold leapsC; rw [List.length_map]; exact List.length_filter_le _ _
theorem leapsU_len (dirs board : List Cell) (s : List Cell) : ∀ l : List Cell, (l.flatMap (leapsC dirs board s)).length ≤ l.length * dirs.length
  | [] => by simp
  | c :: l => by
    rw [List.flatMap_cons, List.length_append, List.length_cons, Nat.succ_mul]
    have := leapsC_len dirs board s c
    have := leapsU_len dirs board s l
    omega
theorem leapsC_snoc (board s : List Cell) (c d : Cell) (dd : List Cell) : leapsC (dd ++ [d]) board s c = leapsC dd board s c ++ (if okL board s c d = true then [((c, fr c d), beh s c d)] else []) := by
  unfold leapsC
  rw [List.filter_append, List.map_append]
  congr 1
  by_cases h : okL board s c d = true
  · rw [if_pos h, List.filter_cons_of_pos h]; rfl
  · rw [if_neg h, List.filter_cons_of_neg h]; rfl
theorem leaps_ok (hL : At P kl (f_leaps kp)) (sp : ∀ c, (P.gs c).sig kp = [false, false]) (hb : Row board) (hs : Row s) (hlk : run P n kp [.val (.tuple (board.map e)), .val (.tuple (s.map e))] = .ok false .none []) :
    run P (n + 1) kl [.val (.tuple (board.map e)), .val (.tuple (s.map e))] = .ok false (.tuple ((leapsT board s).map e)) [] := by
  rw [run_at hL]
  refine runF_is rfl rfl ?_
  have hsl := hs.len
  have in1 : ∀ x y : Int, inD (.tuple [.int x, .int y]) (.tuple (s.map e)) = some (decide (((x, y) : Cell) ∈ s)) := fun x y => inD_tx (α := Cell) (by decide) (x, y) s
  have in2 : ∀ x y : Int, inD (.tuple [.int x, .int y]) (.tuple (board.map e)) = some (decide (((x, y) : Cell) ∈ board)) := fun x y => inD_tx (α := Cell) (by decide) (x, y) board
  simp [startA, b_leaps, sp, hlk]
  refine cutT (Ih fun r => ∃ z3 z4 z5 z6 z7 z8 z9 : Option Sv, r = [some (.dat false (.tuple (board.map e))), some (.dat false (.tuple (s.map e))), some (.dat true (.list ((leapsU dA board s).map e))), z3, z4, z5, z6, z7, z8, z9, none])
    (for_w (e : Cell → D) (fun rem => Ih fun r => ∃ done, s = done ++ rem ∧ ∃ z3 z4 z5 z6 z7 z8 z9 : Option Sv, r = [some (.dat false (.tuple (board.map e))), some (.dat false (.tuple (s.map e))), some (.dat true (.list ((done.flatMap (leapsC dA board s)).map e))), z3, z4, z5, z6, z7, z8, z9, none]) ?_ ?_ s _ ⟨[], rfl, none, none, none, none, none, none, none, rfl⟩) ?_
  · rintro ⟨a, b⟩ rem _ ⟨done, hd, z3, z4, z5, z6, z7, z8, z9, rfl⟩
    refine ⟨_, (by rw [e_pair]; simp; rfl), ?_⟩
    have hdl : done.length ≤ 40 := by
      have : s.length = done.length + (rem.length + 1) := by rw [hd]; simp
      omega
    have hca : ((a, b) : Cell) ∈ s := by rw [hd]; simp
    simp
    refine cutT (Ih fun r => ∃ z5 z6 z7 z8 z9 : Option Sv, r = [some (.dat false (.tuple (board.map e))), some (.dat false (.tuple (s.map e))), some (.dat true (.list (((done ++ [(a, b)]).flatMap (leapsC dA board s)).map e))), some (.dat false (.int a)), some (.dat false (.int b)), z5, z6, z7, z8, z9, none])
      (for_w (e : Cell → D) (fun rem2 => Ih fun r => ∃ dd, dA = dd ++ rem2 ∧ ∃ z5 z6 z7 z8 z9 : Option Sv, r = [some (.dat false (.tuple (board.map e))), some (.dat false (.tuple (s.map e))), some (.dat true (.list ((done.flatMap (leapsC dA board s) ++ leapsC dd board s (a, b)).map e))), some (.dat false (.int a)), some (.dat false (.int b)), z5, z6, z7, z8, z9, none]) ?_ ?_ dA _ ⟨[], rfl, z5, z6, z7, z8, z9, by simp [leapsC]⟩) ?_
    · rintro ⟨p, q⟩ rem2 _ ⟨dd, hdd, z5, z6, z7, z8, z9, rfl⟩
      refine ⟨_, (by rw [e_pair]; simp; rfl), ?_⟩
      have hddl : dd.length ≤ 4 := by
        have : dA.length = dd.length + (rem2.length + 1) := by rw [hdd]; simp
        have h4 : dA.length = 4 := rfl
        omega
      have hda : ((p, q) : Cell) ∈ dA := by rw [hdd]; simp
      have hpq : -(2 ^ 64) < p ∧ p < 2 ^ 64 ∧ -(2 ^ 64) < q ∧ q < 2 ^ 64 := by
        simp [dA] at hda
        omega
      have m1 : binD .Mult (.int 2) (.int p) = some (false, .int (2 * p)) := mul_small ⟨hpq.1, hpq.2.1⟩
      have m2 : binD .Mult (.int 2) (.int q) = some (false, .int (2 * q)) := mul_small ⟨hpq.2.2.1, hpq.2.2.2⟩
      have hnext : dA = (dd ++ [(p, q)]) ++ rem2 := by rw [hdd]; simp
      have hU := leapsU_len dA board s done
      rw [show dA.length = 4 from rfl] at hU
      have hC := leapsC_len dd board s (a, b)
      have h4 : dA.length = 4 := rfl
      have hok : okL board s (a, b) (p, q) = (decide (((a + p, b + q) : Cell) ∈ s) && (decide (((a + 2 * p, b + 2 * q) : Cell) ∈ board) && decide (((a + 2 * p, b + 2 * q) : Cell) ∉ s))) := rfl
      by_cases h : okL board s (a, b) (p, q) = true
      · have hk := h
        rw [hok] at hk
        simp only [Bool.and_eq_true, decide_eq_true_eq] at hk
        simp [m1, m2, in1, in2, hk.1, hk.2.1, hk.2.2]
        have hkept : s.filter (fun x => !decide (x ∈ [((a, b) : Cell), (a + p, b + q)])) = kept s (a, b) (p, q) := by
          unfold kept
          refine List.filter_congr fun x _ => ?_
          have : decide (¬ x = ((a, b) : Cell)) = !decide (x = (a, b)) := decide_not
          have : decide (¬ x = ((a + p, b + q) : Cell)) = !decide (x = (a + p, b + q)) := decide_not
          simp only [ov, ne_eq, List.mem_cons, List.not_mem_nil, or_false]
          by_cases h1 : x = ((a, b) : Cell) <;> by_cases h2 : x = ((a + p, b + q) : Cell) <;> simp [h1, h2]
        refine lc_w (e : Cell → D) (fun x => !decide (x ∈ [((a, b) : Cell), (a + p, b + q)])) (e : Cell → D) s ?_ ?_ ?_ ?_
        · simp
        · omega
        · intro x hx
          refine ⟨_, (by simp; rfl), ?_⟩
          have in3 : inD (e x) (.tuple [.tuple [.int a, .int b], .tuple [.int (a + p), .int (b + q)]]) = some (decide (x ∈ [((a, b) : Cell), (a + p, b + q)])) := inD_tx (α := Cell) (by decide) x [(a, b), (a + p, b + q)]
          simp [in3]
        · rw [hkept]
          have hkl : (kept s (a, b) (p, q)).length ≤ 40 := Nat.le_trans (List.length_filter_le _ _) hsl
          have hsort : bltD .sorted [.list ((kept s (a, b) (p, q)).map e ++ [.tuple [.int (a + 2 * p), .int (b + 2 * q)]])] = some (true, .list ((beh s (a, b) (p, q)).map e)) := by
            have := blt_sorted_e (kind_pair (kept s (a, b) (p, q) ++ [fr (a, b) (p, q)])) (by decide) (by rw [List.length_append, List.length_singleton]; omega)
            rw [List.map_append] at this
            exact this
          have hma := mut_append (xs := ((done.flatMap (leapsC dA board s)) ++ leapsC dd board s (a, b)).map e) (y := (e (((a, b), fr (a, b) (p, q)), beh s (a, b) (p, q)) : D)) (by rw [List.length_map, List.length_append]; omega)
          have hll : (kept s (a, b) (p, q)).length + 1 ≤ 16777216 := by omega
          rw [List.map_append] at hma
          simp only [e_pair, e_list, e_int, fr] at hma
          have hv : (done.flatMap (leapsC dA board s) ++ leapsC (dd ++ [(p, q)]) board s (a, b)).map (e : Mv → D) = (done.flatMap (leapsC dA board s)).map e ++ ((leapsC dd board s (a, b)).map e ++ [.tuple [.tuple [.tuple [.int a, .int b], .tuple [.int (a + 2 * p), .int (b + 2 * q)]], .tuple ((beh s (a, b) (p, q)).map e)]]) := by
            rw [leapsC_snoc, if_pos h, List.map_append, List.map_append]
            rfl
          simp [bin_ll, hsort, hma, hll]
          exact ⟨dd ++ [(p, q)], hnext, _, _, _, _, _, by rw [hv]⟩
      · have hk := h
        rw [hok] at hk
        simp only [Bool.and_eq_true, decide_eq_true_eq] at hk
        have hn : leapsC (dd ++ [(p, q)]) board s (a, b) = leapsC dd board s (a, b) := by rw [leapsC_snoc, if_neg h, List.append_nil]
        simp [m1, m2, in1, in2]
        refine ⟨fun h1 => ⟨fun h2 => ⟨fun h3 => absurd ⟨h1, h2, h3⟩ hk, fun h3 => ?_⟩, fun h2 => ?_⟩, fun h1 => ?_⟩
        all_goals exact ⟨dd ++ [(p, q)], hnext, _, _, _, _, _, by rw [hn, List.map_append]⟩
    · rintro r ⟨dd, hdd, z5, z6, z7, z8, z9, rfl⟩
      simp at hdd
      subst hdd
      exact ⟨z5, z6, z7, z8, z9, by rw [List.flatMap_append]; simp⟩
    · rintro _ ⟨z5, z6, z7, z8, z9, rfl⟩
      simp only [nx_w', ss_nil]
      exact ⟨done ++ [(a, b)], by rw [hd]; simp, _, _, _, _, _, _, _, rfl⟩
  · rintro r ⟨done, hd, z3, z4, z5, z6, z7, z8, z9, rfl⟩
    simp at hd
    subst hd
    exact ⟨z3, z4, z5, z6, z7, z8, z9, rfl⟩
  · rintro _ ⟨z3, z4, z5, z6, z7, z8, z9, rfl⟩
    have hU := leapsU_len dA board s s
    rw [show dA.length = 4 from rfl] at hU
    have hsort := blt_sorted_e (kind_pair (leapsU dA board s)) (by decide) (by unfold leapsU; omega)
    simp [hsort]
    rfl
theorem lleaps_ok (hL : At P kl f__law_leaps) (hs : Row s) (n : Nat) :
    run P (n + 1) kl [.val (.tuple (board.map e)), .val (.tuple (s.map e))] = .ok true (.list ((leapsT board s).map e)) [] := by
  rw [run_at hL]
  refine runF_is rfl rfl ?_
  have hsl := hs.len
  have in1 : ∀ x y : Int, inD (.tuple [.int x, .int y]) (.tuple (s.map e)) = some (decide (((x, y) : Cell) ∈ s)) := fun x y => inD_tx (α := Cell) (by decide) (x, y) s
  have in2 : ∀ x y : Int, inD (.tuple [.int x, .int y]) (.tuple (board.map e)) = some (decide (((x, y) : Cell) ∈ board)) := fun x y => inD_tx (α := Cell) (by decide) (x, y) board
  simp [startA, b__law_leaps]
  refine cutT (Ih fun r => ∃ z3 z4 z5 z6 z7 z8 : Option Sv, r = [some (.dat false (.tuple (board.map e))), some (.dat false (.tuple (s.map e))), some (.dat true (.list ((leapsU dL board s).map e))), z3, z4, z5, z6, z7, z8, none])
    (for_w (e : Cell → D) (fun rem => Ih fun r => ∃ done, s = done ++ rem ∧ ∃ z3 z4 z5 z6 z7 z8 : Option Sv, r = [some (.dat false (.tuple (board.map e))), some (.dat false (.tuple (s.map e))), some (.dat true (.list ((done.flatMap (leapsC dL board s)).map e))), z3, z4, z5, z6, z7, z8, none]) ?_ ?_ s _ ⟨[], rfl, none, none, none, none, none, none, rfl⟩) ?_
  · rintro ⟨a, b⟩ rem _ ⟨done, hd, z3, z4, z5, z6, z7, z8, rfl⟩
    refine ⟨_, (by rw [e_pair]; simp; rfl), ?_⟩
    have hdl : done.length ≤ 40 := by
      have : s.length = done.length + (rem.length + 1) := by rw [hd]; simp
      omega
    have hca : ((a, b) : Cell) ∈ s := by rw [hd]; simp
    simp
    refine cutT (Ih fun r => ∃ z5 z6 z7 z8 : Option Sv, r = [some (.dat false (.tuple (board.map e))), some (.dat false (.tuple (s.map e))), some (.dat true (.list (((done ++ [(a, b)]).flatMap (leapsC dL board s)).map e))), some (.dat false (.int a)), some (.dat false (.int b)), z5, z6, z7, z8, none])
      (for_w (e : Cell → D) (fun rem2 => Ih fun r => ∃ dd, dL = dd ++ rem2 ∧ ∃ z5 z6 z7 z8 : Option Sv, r = [some (.dat false (.tuple (board.map e))), some (.dat false (.tuple (s.map e))), some (.dat true (.list ((done.flatMap (leapsC dL board s) ++ leapsC dd board s (a, b)).map e))), some (.dat false (.int a)), some (.dat false (.int b)), z5, z6, z7, z8, none]) ?_ ?_ dL _ ⟨[], rfl, z5, z6, z7, z8, by simp [leapsC]⟩) ?_
    · rintro ⟨p, q⟩ rem2 _ ⟨dd, hdd, z5, z6, z7, z8, rfl⟩
      refine ⟨_, (by rw [e_pair]; simp; rfl), ?_⟩
      have hddl : dd.length ≤ 4 := by
        have : dL.length = dd.length + (rem2.length + 1) := by rw [hdd]; simp
        have h4 : dL.length = 4 := rfl
        omega
      have hda : ((p, q) : Cell) ∈ dL := by rw [hdd]; simp
      have hpq : -(2 ^ 64) < p ∧ p < 2 ^ 64 ∧ -(2 ^ 64) < q ∧ q < 2 ^ 64 := by
        simp [dL] at hda
        omega
      have m1 : binD .Mult (.int 2) (.int p) = some (false, .int (2 * p)) := mul_small ⟨hpq.1, hpq.2.1⟩
      have m2 : binD .Mult (.int 2) (.int q) = some (false, .int (2 * q)) := mul_small ⟨hpq.2.2.1, hpq.2.2.2⟩
      have hnext : dL = (dd ++ [(p, q)]) ++ rem2 := by rw [hdd]; simp
      have hU := leapsU_len dL board s done
      rw [show dL.length = 4 from rfl] at hU
      have hC := leapsC_len dd board s (a, b)
      have h4 : dL.length = 4 := rfl
      have hok : okL board s (a, b) (p, q) = (decide (((a + p, b + q) : Cell) ∈ s) && (decide (((a + 2 * p, b + 2 * q) : Cell) ∈ board) && decide (((a + 2 * p, b + 2 * q) : Cell) ∉ s))) := rfl
      by_cases h : okL board s (a, b) (p, q) = true
      · have hk := h
        rw [hok] at hk
        simp only [Bool.and_eq_true, decide_eq_true_eq] at hk
        simp [m1, m2, in1, in2, hk.1, hk.2.1, hk.2.2]
        have eq3 : ∀ (x : Cell) (u v : Int), eqD (e x) (.tuple [.int u, .int v]) = some (decide (x = ((u, v) : Cell))) := fun x u v => eqD_ex (α := Cell) (by decide) x (u, v)
        have hkept : s.filter (fun x => !decide (x = ((a + p, b + q) : Cell)) && !decide (x = ((a, b) : Cell))) = kept s (a, b) (p, q) := by
          unfold kept
          refine List.filter_congr fun x _ => ?_
          simp only [ov, ne_eq]
          by_cases h1 : x = ((a, b) : Cell) <;> by_cases h2 : x = ((a + p, b + q) : Cell) <;> simp [h1, h2]
        refine lc_w (e : Cell → D) (fun x => !decide (x = ((a + p, b + q) : Cell)) && !decide (x = ((a, b) : Cell))) (e : Cell → D) s ?_ ?_ ?_ ?_
        · simp
        · omega
        · intro x hx
          refine ⟨_, (by simp; rfl), ?_⟩
          simp [eq3]
          by_cases h1 : x = ((a + p, b + q) : Cell) <;> by_cases h2 : x = ((a, b) : Cell) <;> simp [h1, h2]
        · rw [hkept]
          have hkl : (kept s (a, b) (p, q)).length ≤ 40 := Nat.le_trans (List.length_filter_le _ _) hsl
          have hsort : bltD .sorted [.list ((kept s (a, b) (p, q)).map e ++ [.tuple [.int (a + 2 * p), .int (b + 2 * q)]])] = some (true, .list ((beh s (a, b) (p, q)).map e)) := by
            have := blt_sorted_e (kind_pair (kept s (a, b) (p, q) ++ [fr (a, b) (p, q)])) (by decide) (by rw [List.length_append, List.length_singleton]; omega)
            rw [List.map_append] at this
            exact this
          have hma := mut_append (xs := ((done.flatMap (leapsC dL board s)) ++ leapsC dd board s (a, b)).map e) (y := (e (((a, b), fr (a, b) (p, q)), beh s (a, b) (p, q)) : D)) (by rw [List.length_map, List.length_append]; omega)
          have hll : (kept s (a, b) (p, q)).length + 1 ≤ 16777216 := by omega
          rw [List.map_append] at hma
          simp only [e_pair, e_list, e_int, fr] at hma
          have hv : (done.flatMap (leapsC dL board s) ++ leapsC (dd ++ [(p, q)]) board s (a, b)).map (e : Mv → D) = (done.flatMap (leapsC dL board s)).map e ++ ((leapsC dd board s (a, b)).map e ++ [.tuple [.tuple [.tuple [.int a, .int b], .tuple [.int (a + 2 * p), .int (b + 2 * q)]], .tuple ((beh s (a, b) (p, q)).map e)]]) := by
            rw [leapsC_snoc, if_pos h, List.map_append, List.map_append]
            rfl
          simp [bin_ll, hsort, hma, hll]
          exact ⟨dd ++ [(p, q)], hnext, _, _, _, _, by rw [hv]⟩
      · have hk := h
        rw [hok] at hk
        simp only [Bool.and_eq_true, decide_eq_true_eq] at hk
        have hn : leapsC (dd ++ [(p, q)]) board s (a, b) = leapsC dd board s (a, b) := by rw [leapsC_snoc, if_neg h, List.append_nil]
        simp [m1, m2, in1, in2]
        refine ⟨fun h1 => ⟨fun h2 => ⟨fun h3 => absurd ⟨h1, h2, h3⟩ hk, fun h3 => ?_⟩, fun h2 => ?_⟩, fun h1 => ?_⟩
        all_goals exact ⟨dd ++ [(p, q)], hnext, _, _, _, _, by rw [hn, List.map_append]⟩
    · rintro r ⟨dd, hdd, z5, z6, z7, z8, rfl⟩
      simp at hdd
      subst hdd
      exact ⟨z5, z6, z7, z8, by rw [List.flatMap_append]; simp⟩
    · rintro _ ⟨z5, z6, z7, z8, rfl⟩
      simp only [nx_w', ss_nil]
      exact ⟨done ++ [(a, b)], by rw [hd]; simp, _, _, _, _, _, _, rfl⟩
  · rintro r ⟨done, hd, z3, z4, z5, z6, z7, z8, rfl⟩
    simp at hd
    subst hd
    exact ⟨z3, z4, z5, z6, z7, z8, rfl⟩
  · rintro _ ⟨z3, z4, z5, z6, z7, z8, rfl⟩
    have hU := leapsU_len dL board s s
    rw [show dL.length = 4 from rfl] at hU
    have hsort : bltD .sorted [.list ((leapsU dL board s).map e)] = some (true, .list ((sortE (leapsU dL board s)).map e)) := blt_sorted_e (kind_pair (leapsU dL board s)) (by decide) (by unfold leapsU; omega)
    rw [leapsT_L] at hsort
    simp [hsort]
/-! ## kinds -/
theorem colour_ok {kq : Nat} (h : At P kq f_colour_2) (side : Nat) (c : Cell) (n : Nat) : run P (n + 1) kq [.val (e c), .val (.int side)] = .ok false (.int (col side c)) [] := by
  rw [run_at h]
  refine runF_is rfl rfl ?_
  obtain ⟨a, b⟩ := c
  rw [e_pair]
  have i0 : ∀ x y : D, idxD (.tuple [x, y]) (.int 0) = some x := fun x y => rfl
  have i1 : ∀ x y : D, idxD (.tuple [x, y]) (.int 1) = some y := fun x y => rfl
  by_cases hs : side = 0
  · subst hs
    simp [startA, b_colour_2, i0, i1, bin_mod, col]
  · have hs' : ¬ ((side : Nat) : Int) = 0 := by omega
    simp [startA, b_colour_2, i0, i1, bin_mod, col, hs, hs']
def kside (s : List Cell) (side : Nat) : List Nat := [nb (lo side) s % 2, nb (hi side) s % 2]
theorem nb_add {p q r : Cell → Bool} (h : ∀ c, (p c = true ∨ q c = true ↔ r c = true) ∧ ¬ (p c = true ∧ q c = true)) : ∀ s, nb p s + nb q s = nb r s
  | [] => rfl
  | c :: s => by
    have ih := nb_add h s
    rw [nb_cons, nb_cons, nb_cons]
    have := h c
    cases hp : p c <;> cases hq : q c <;> cases hr : r c <;> simp_all <;> omega
def isC (side k : Nat) (c : Cell) : Bool := decide (col side c = k)
theorem nb_lo (side : Nat) (s : List Cell) : nb (isC side 0) s + nb (isC side 1) s = nb (lo side) s := nb_add (fun c => by
  have := col_lt side c
  simp only [isC, lo, decide_eq_true_eq]
  omega) s
theorem nb_hi (side : Nat) (s : List Cell) : nb (isC side 1) s + nb (isC side 2) s = nb (hi side) s := nb_add (fun c => by
  have := col_lt side c
  simp only [isC, hi, decide_eq_true_eq]
  omega) s
theorem kind_ok {kk kq : Nat} (h : At P kk (f_kind_of ka kq x)) (hq : At P kq f_colour_2) (sa : ∀ c, (P.gs c).sig ka = [false]) (ha : run P (n + 1) ka [.val (.tuple (s.map e))] = .ok false (.bool true) []) (hl : s.length ≤ 40) :
    run P (n + 2) kk [.val (.tuple (s.map e))] = .ok false (tn (kindT s)) [] := by
  rw [run_at h]
  refine runF_is rfl rfl ?_
  simp [startA, b_kind_of, sa, ha]
  refine cutT (Ih fun r => ∃ z2 z3 : Option Sv, r = [some (.dat false (.tuple (s.map e))), some (.dat true (.list ((kindT s).map dn))), z2, z3, none, none])
    (for_w dn (fun rem => Ih fun r => ∃ done, [0, 1] = done ++ rem ∧ ∃ z2 z3 : Option Sv, r = [some (.dat false (.tuple (s.map e))), some (.dat true (.list ((done.flatMap (kside s)).map dn))), z2, z3, none, none]) ?_ ?_ [0, 1] _ ⟨[], rfl, none, none, rfl⟩) ?_
  · rintro side rem _ ⟨done, hd, z2, z3, rfl⟩
    refine ⟨_, rfl, ?_⟩
    have hdl : done.length ≤ 2 := by
      have : ([0, 1] : List Nat).length = done.length + (rem.length + 1) := by rw [hd]; simp
      simp at this
      omega
    have hfl : (done.flatMap (kside s)).length + 2 ≤ 16777216 := by
      have : (done.flatMap (kside s)).length = done.length * 2 := by
        clear hd hdl
        induction done with
        | nil => rfl
        | cons d l ih => rw [List.flatMap_cons, List.length_append, ih]; simp [kside]; omega
      omega
    simp
    have hr3 : rngD [.int 3] = some ([0, 1, 2].map dn) := rfl
    refine lcN_w dn (fun k => .int (nb (isC side k) s : Nat)) [0, 1, 2] ?_ ?_ ?_ ?_
    · simp [hr3]
    · simp
    · intro k hk
      refine ⟨_, rfl, rfl, ?_⟩
      simp
      refine lc_w (e : Cell → D) (isC side k) (e : Cell → D) s ?_ ?_ ?_ ?_
      · simp
      · omega
      · intro c hc
        refine ⟨_, (by simp; rfl), ?_⟩
        simp [sig_at hq, colour_ok hq side c n, isC]
      · simp [nb]
    · have i0 : ∀ x y z : D, idxD (.list [x, y, z]) (.int 0) = some x := fun x y z => rfl
      have i1 : ∀ x y z : D, idxD (.list [x, y, z]) (.int 1) = some y := fun x y z => rfl
      have i2 : ∀ x y z : D, idxD (.list [x, y, z]) (.int 2) = some z := fun x y z => rfl
      have e1 : ((nb (isC side 0) s : Int) + (nb (isC side 1) s : Int)) % 2 = ((nb (lo side) s % 2 : Nat) : Int) := by rw [← nb_lo]; omega
      have e2 : ((nb (isC side 1) s : Int) + (nb (isC side 2) s : Int)) % 2 = ((nb (hi side) s % 2 : Nat) : Int) := by rw [← nb_hi]; omega
      have hv : ((done ++ [side]).flatMap (kside s)).map dn = (done.flatMap (kside s)).map dn ++ [.int ((nb (lo side) s % 2 : Nat) : Int), .int ((nb (hi side) s % 2 : Nat) : Int)] := by
        rw [List.flatMap_append, List.map_append]; rfl
      have hfl' : (done.flatMap (kside s)).length + 1 + 1 ≤ 16777216 := hfl
      simp only [List.map_cons, List.map_nil]
      simp [i0, i1, i2, bin_mod, e1, e2, -Int.natCast_emod, hfl]
      exact ⟨by rw [List.length_flatMap] at hfl; omega, done ++ [side], by rw [hd]; simp, _, _, by rw [hv]⟩
  · rintro r ⟨done, hd, z2, z3, rfl⟩
    simp at hd
    subst hd
    exact ⟨z2, z3, rfl⟩
  · rintro _ ⟨z2, z3, rfl⟩
    simp
theorem lkind_ok {kk : Nat} (h : At P kk f__law_kind) (hl : s.length ≤ 40) (n : Nat) : run P (n + 1) kk [.val (.tuple (s.map e))] = .ok false (tn (kindT s)) [] := by
  rw [run_at h]
  refine runF_is rfl rfl ?_
  simp [startA, b__law_kind]
  refine cutT (Ih fun r => ∃ z2 z3 : Option Sv, r = [some (.dat false (.tuple (s.map e))), some (.dat true (.list ((kindT s).map dn))), z2, z3, none, none, none])
    (for_w dn (fun rem => Ih fun r => ∃ done, [0, 1] = done ++ rem ∧ ∃ z2 z3 : Option Sv, r = [some (.dat false (.tuple (s.map e))), some (.dat true (.list ((done.flatMap (kside s)).map dn))), z2, z3, none, none, none]) ?_ ?_ [0, 1] _ ⟨[], rfl, none, none, rfl⟩) ?_
  · rintro side rem _ ⟨done, hd, z2, z3, rfl⟩
    refine ⟨_, rfl, ?_⟩
    have hdl : done.length ≤ 2 := by
      have : ([0, 1] : List Nat).length = done.length + (rem.length + 1) := by rw [hd]; simp
      simp at this
      omega
    have hfl : (done.flatMap (kside s)).length + 2 ≤ 16777216 := by
      have : (done.flatMap (kside s)).length = done.length * 2 := by
        clear hd hdl
        induction done with
        | nil => rfl
        | cons d l ih => rw [List.flatMap_cons, List.length_append, ih]; simp [kside]; omega
      omega
    simp
    refine lcN_w (e : Cell → D) (fun c => .int (col side c)) s ?_ ?_ ?_ ?_
    · simp
    · omega
    · rintro ⟨a, b⟩ hc
      refine ⟨_, (by rw [e_pair]; simp; rfl), ?_⟩
      refine ⟨rfl, ?_⟩
      by_cases hs : side = 0
      · subst hs
        simp [bin_mod, col]
      · have hs' : ¬ ((side : Nat) : Int) = 0 := by omega
        simp [bin_mod, col, hs, hs']
    · simp
      refine lc_w1 (hb := ?_) [some (.dat false (.tuple (s.map e))), some (.dat true (.list ((done.flatMap (kside s)).map dn))), some (.dat false (dn side)), some (.dat false (.list (s.map fun c : Cell => PyData.int (col side c)))), none, none, none] (fun c : Cell => PyData.int (col side c)) (lo side) (fun c : Cell => PyData.int (col side c)) s ?_ ?_ ?_ ?_
      rotate_left 4
      · exact ⟨rfl, rfl, rfl⟩
      · simp
      · omega
      · intro c hc
        refine ⟨_, (by simp; rfl), ?_⟩
        simp [lo]
      · simp [bin_mod]
        refine lc_w (fun c : Cell => .int (col side c)) (hi side) (fun c => .int (col side c)) s ?_ ?_ ?_ ?_
        · simp
        · omega
        · intro c hc
          refine ⟨_, (by simp; rfl), ?_⟩
          simp [hi]
        · have hv : ((done ++ [side]).flatMap (kside s)).map dn = (done.flatMap (kside s)).map dn ++ [.int ((nb (lo side) s % 2 : Nat) : Int), .int ((nb (hi side) s % 2 : Nat) : Int)] := by
            rw [List.flatMap_append, List.map_append]; rfl
          have e1 : ((s.filter (lo side)).length : Int) % 2 = ((nb (lo side) s % 2 : Nat) : Int) := by unfold nb; omega
          have e2 : ((s.filter (hi side)).length : Int) % 2 = ((nb (hi side) s % 2 : Nat) : Int) := by unfold nb; omega
          have hb := bin_ll (x := (done.flatMap (kside s)).map dn) (y := [.int ((nb (lo side) s % 2 : Nat) : Int), .int ((nb (hi side) s % 2 : Nat) : Int)]) (by rw [List.length_map]; exact hfl)
          simp [bin_mod, e1, e2, -Int.natCast_emod, hb]
          exact ⟨done ++ [side], by rw [hd]; simp, _, _, by rw [hv]⟩
  · rintro r ⟨done, hd, z2, z3, rfl⟩
    simp at hd
    subst hd
    exact ⟨z2, z3, rfl⟩
  · rintro _ ⟨z2, z3, rfl⟩
    simp
end
end Lb

set_option Elab.async false
set_option linter.all false
set_option maxRecDepth 100000
set_option maxHeartbeats 1000000
namespace Lb
open PySem L2 E2
open Enc (e)
open Pg
section
variable {P : Prg} {k kw kc ka kp kl kk kq kr kS n g gm x xs xp l0 : Nat} {s board : List Cell}
/-! ## pegs, second part -/
instance : EncK (List Cell) := encK_list (by decide)
theorem ends_ok {ke : Nat} (h : At P ke (f_ends_for kp kk)) (sp : ∀ c, (P.gs c).sig kp = [false, false]) (sk : ∀ c, (P.gs c).sig kk = [false]) (hl : board.length ≤ 40)
    (hlk : run P n kp [.val (.tuple (board.map e)), .val (.tuple (s.map e))] = .ok false .none []) (h1 : ∀ c ∈ board, run P n kk [.val (.tuple [e c])] = .ok false (tn (kindT [c])) []) (h2 : run P n kk [.val (.tuple (s.map e))] = .ok false (tn (kindT s)) []) :
    run P (n + 1) ke [.val (.tuple (board.map e)), .val (.tuple (s.map e))] = .ok false (.tuple ((board.filter fun c => decide (kindT [c] = kindT s)).map e)) [] := by
  rw [run_at h]
  refine runF_is rfl rfl ?_
  simp [startA, b_ends_for, sp, hlk]
  refine lc_w (e : Cell → D) (fun c => decide (kindT [c] = kindT s)) (e : Cell → D) board ?_ ?_ ?_ ?_
  · simp
  · omega
  · intro c hc
    refine ⟨_, (by simp; rfl), ?_⟩
    simp [sk, h1 c hc, h2]
  · simp
theorem reached_ok {l : Bf.Kn (List Cell) (Cell × Cell)} (h : At P kr (f_reached kp kS kl gm l0)) (h0 : At P l0 (lam_reached_0 kp kS kl gm l0).fn) (hS : At P kS f_spread) (sp : ∀ c, (P.gs c).sig kp = [false, false]) (sl : ∀ c, (P.gs c).sig kl = [false, false]) (hg : P.gcs[gm]? = some (.int 20000))
    (hlk : run P (n + 2) kp [.val (.tuple (board.map e)), .val (.tuple (s.map e))] = .ok false .none [])
    (hst : ∀ t, St board t → run P n kl [.val (.tuple (board.map e)), .val (.tuple (t.map e))] = .ok false (.tuple ((leapsT board t).map e)) []) (hl : Bf.All (leapsT board) (St board) s l) (hB : l.length ≤ 1024) :
    run P (n + 3) kr [.val (.tuple (board.map e)), .val (.tuple (s.map e))] = .ok false (.tuple ((Bf.keys l).map e)) [] := by
  have R : Sp P (n + 1) l0 [.tuple (board.map e)] (leapsT board) (St board) := by
    refine ⟨fun c => by rw [sig_at h0]; exact ⟨rfl, by simp [LamDt.fn]⟩, ⟨_, _, rfl⟩, fun t ht => ?_⟩
    rw [run_at h0]
    refine runF_is rfl rfl ?_
    have h2 := hst t ht
    rw [← e_list t] at h2
    simp [startA, LamDt.fn, lam_reached_0, sl, h2]
  have h1 := spread_ok (most := 20000) hS R hl (by omega) (.inl (by omega))
  rw [run_at h]
  refine runF_is rfl rfl ?_
  have hg' : ∀ c, (P.gs c).gcs gm = some (.int 20000) := fun c => hg
  have i0 : ∀ x y : D, idxD (.tuple [x, y]) (.int 0) = some x := fun x y => rfl
  have h1' : run P (n + 2) kS [.val (.tuple (s.map e)), .fn l0 [.tuple (board.map e)], .val (.int 20000)] = .ok false (.tuple [.tuple ((Bf.keys l).map e), .tuple (l.map fun p => lenD p.2)]) [] := h1
  simp [startA, b_reached, sp, hlk, hg', sig_at hS, h1', i0]
/-- the least of whole numbers -/
theorem blt_min_n (x : Nat) (xs : List Nat) : bltD .min [.list ((x :: xs).map dn)] = some (false, dn (minE x xs)) := by
  have e1 : ∀ l : List Nat, intsOf (l.map dn) = some (l.map Int.ofNat) := fun l => by
    have := intsOf_map (l.map Int.ofNat)
    rw [List.map_map] at this
    exact this
  have e2 : ∀ (ys : List Nat) (y : Nat), (ys.map Int.ofNat).foldl (fun m y => if y < m then y else m) (Int.ofNat y) = Int.ofNat (minE y ys) := by
    intro ys
    induction ys with
    | nil => intro y; rfl
    | cons z ys ih =>
      intro y
      rw [List.map_cons, List.foldl_cons]
      have : (if Int.ofNat z < Int.ofNat y then Int.ofNat z else Int.ofNat y) = Int.ofNat (if lt z y = true then z else y) := by
        rw [lt_nat]
        by_cases h : z < y
        · rw [if_pos (by simpa using h), if_pos (by simpa using h)]
        · rw [if_neg (by simpa using h), if_neg (by simpa using h)]
      rw [this, ih]
      rfl
  show (minL ((x :: xs).map dn)).map (fun m => (false, m)) = _
  unfold minL
  rw [e1]
  show (Option.map PyData.int (some ((xs.map Int.ofNat).foldl _ (Int.ofNat x)))).map _ = _
  rw [e2]
  rfl
theorem kind_len {β : Type} [Enc β] [EncA β] {l : List (List β)} {m : Nat} (nd : l.Nodup) (h : ∀ a ∈ l, a.length = m) : Kind l := by
  by_cases hm : m = 0
  · refine .inr ?_
    match l, nd, h with
    | [], _, _ => simp
    | [a], _, _ => simp
    | a :: b :: l, nd, h =>
      exfalso
      have h1 : a = [] := List.length_eq_zero_iff.mp ((h a (by simp)).trans hm)
      have h2 : b = [] := List.length_eq_zero_iff.mp ((h b (by simp)).trans hm)
      subst h1 h2
      simp at nd
  · refine .inl (.inl fun a ha => ?_)
    cases a with
    | nil => exact absurd (h [] ha).symm hm
    | cons y ys => exact ⟨_, _, by rw [e_list]; rfl⟩
def fewT (l : List (List Cell)) : Nat := match l.map List.length with
  | [] => 0
  | x :: xs => minE x xs
def leastT (l : List (List Cell)) : List (List Cell) := sortE (l.filter fun t => decide (t.length = fewT l))
theorem few_list {α : Type} (f : α → Nat) (l : List α) : (l.map fun t => PyData.int (f t : Nat)) = (l.map f).map dn := by rw [List.map_map]; rfl
theorem blt_few {l : List (List Cell)} (h : l ≠ []) : bltD .min [.list (l.map fun t => PyData.int (t.length : Nat))] = some (false, dn (fewT l)) := by
  rw [few_list]
  unfold fewT
  cases q : l.map List.length with
  | nil => simp at q; exact absurd q h
  | cons x xs => exact blt_min_n x xs
theorem fewest_ok {kf : Nat} {l : List (List Cell)} (h : At P kf (f_fewest_left kr)) (sr : ∀ c, (P.gs c).sig kr = [false, false]) (hr : run P n kr [.val (.tuple (board.map e)), .val (.tuple (s.map e))] = .ok false (.tuple (l.map e)) []) (hne : l ≠ []) (nd : l.Nodup) (hl : l.length ≤ 1024) :
    run P (n + 1) kf [.val (.tuple (board.map e)), .val (.tuple (s.map e))] = .ok false (.tuple [dn (fewT l), .tuple ((leastT l).map e)]) [] := by
  rw [run_at h]
  refine runF_is rfl rfl ?_
  have hlen : ∀ t : List Cell, bltD .len [e t] = some (false, .int t.length) := fun t => by
    rw [e_list, blt_len_tuple, List.length_map]
  simp [startA, b_fewest_left, sr, hr]
  refine lcN_w (e : List Cell → D) (fun t => PyData.int (t.length : Nat)) l ?_ ?_ ?_ ?_
  · simp
  · omega
  · intro t ht
    refine ⟨_, (by simp; rfl), ?_⟩
    refine ⟨rfl, ?_⟩
    simp [hlen]
  · have hmin := blt_few hne
    have hsort : bltD .sorted [.list ((l.filter fun t => decide (t.length = fewT l)).map e)] = some (true, .list ((leastT l).map e)) :=
      blt_sorted_e (kind_len (m := fewT l) (nd.filter _) fun a ha => by simpa using (List.mem_filter.mp ha).2) (by decide) (Nat.le_trans (List.length_filter_le _ _) (by omega))
    simp [hmin]
    refine lc_w (e : List Cell → D) (fun t => decide (t.length = fewT l)) (e : List Cell → D) l ?_ ?_ ?_ ?_
    · simp
    · omega
    · intro t ht
      refine ⟨_, (by simp; rfl), ?_⟩
      simp [hlen]
      omega
    · simp [hsort]
theorem turned_ok {kt : Nat} (h : At P kt (f_turned_board ka x)) (sa : ∀ c, (P.gs c).sig ka = [false]) (ha : run P n ka [.val (.tuple (s.map e))] = .ok false (.bool true) []) (hl : s.length ≤ 40) :
    run P (n + 1) kt [.val (.tuple (s.map e))] = .ok false (.tuple ((flipB s).map e)) [] := by
  rw [run_at h]
  refine runF_is rfl rfl ?_
  simp [startA, b_turned_board, sa, ha]
  refine lcN_w (e : Cell → D) (fun c => e (fl c)) s ?_ ?_ ?_ ?_
  · simp
  · omega
  · rintro ⟨a, b⟩ hc
    refine ⟨_, (by rw [e_pair]; simp; rfl), ?_⟩
    refine ⟨rfl, ?_⟩
    simp
    rfl
  · have hsort : bltD .sorted [.list ((s.map fl).map e)] = some (true, .list ((flipB s).map e)) := blt_sorted_e (kind_pair _) (by decide) (by rw [List.length_map]; omega)
    rw [List.map_map] at hsort
    have hsort' : bltD .sorted [.list (s.map fun c => e (fl c))] = some (true, .list ((flipB s).map e)) := hsort
    simp [hsort']
theorem same2_ok (h : At P k (f__law_same_2 k)) : ∀ (m : Nat) (d : D) (n : Nat), okD m d = true → run P (n + m + 1) k [.val d, .val d] = .ok false (.bool true) [] := by
  intro m
  induction m with
  | zero =>
    intro d n hd
    rw [run_at h]
    refine runF_is rfl rfl ?_
    cases d with
    | none => simp [startA, b__law_same_2]
    | bool b => simp [startA, b__law_same_2]
    | int b => simp [startA, b__law_same_2]
    | str s => simp [startA, b__law_same_2, str_same hd]
    | list xs => simp [okD] at hd
    | tuple xs => simp [okD] at hd
    | dict xs => simp [okD] at hd
  | succ m ih =>
    intro d n hd
    rw [show n + (m + 1) + 1 = (n + m + 1) + 1 from rfl, run_at h]
    refine runF_is rfl rfl ?_
    cases d with
    | none => simp [startA, b__law_same_2]
    | bool b => simp [startA, b__law_same_2]
    | int b => simp [startA, b__law_same_2]
    | str s => simp [startA, b__law_same_2, str_same hd]
    | dict xs => simp [okD] at hd
    | list xs =>
      simp only [okD, Bool.and_eq_true, decide_eq_true_eq, List.all_eq_true] at hd
      simp [startA, b__law_same_2]
      refine lc_w dn (fun _ => false) dn (List.range xs.length) ?_ ?_ ?_ ?_
      · simp [hd.1]
      · simpa using hd.1
      · intro a ha
        refine ⟨_, rfl, ?_⟩
        have ha' : a < xs.length := by simpa using ha
        simp [List.getElem?_eq_getElem ha', sig_at h, ih _ n (hd.2 _ (List.getElem_mem ha'))]
      · simp
    | tuple xs =>
      simp only [okD, Bool.and_eq_true, decide_eq_true_eq, List.all_eq_true] at hd
      simp [startA, b__law_same_2]
      refine lc_w dn (fun _ => false) dn (List.range xs.length) ?_ ?_ ?_ ?_
      · simp [hd.1]
      · simpa using hd.1
      · intro a ha
        refine ⟨_, rfl, ?_⟩
        have ha' : a < xs.length := by simpa using ha
        simp [List.getElem?_eq_getElem ha', sig_at h, ih _ n (hd.2 _ (List.getElem_mem ha'))]
      · simp
end
end Lb

set_option Elab.async false
set_option linter.all false
set_option maxRecDepth 100000
set_option maxHeartbeats 1000000
namespace Lb
open PySem L2 E2
open Enc (e)
section
variable {P : Prg} {k kd n : Nat}
/-! ## tools for laws -/
theorem pick_ok (h : At P k (f__law_pick kd)) (hd : At P kd f__law_draw) {d : D} (hD : Dr d) {row : List D} (hne : row ≠ []) (hl : row.length < 1073741824) (n : Nat) :
    ∃ v d', v ∈ row ∧ run P (n + 2) k [.rf d, .val (.list row)] = .ok false v [d'] ∧ Dr d' := by
  have hp : 0 < row.length := List.length_pos_iff.mpr hne
  obtain ⟨v, d', e1, hv, hD'⟩ := draw_ok (P := P) (k := kd) (n := n) hd (l := row.length) hD hp hl
  have key : ∃ o d1 d0, runF (P.gs (run P (n + 1))) (f__law_pick kd) [.rf d, .val (.list row)] = .ok o d1 [d0] ∧ (o = false ∧ d1 = row[v] ∧ d0 = d') := by
    refine runF_ret0 rfl rfl ?_
    simp [startA, b__law_pick, sig_at hd, e1, List.getElem?_eq_getElem hv]
  obtain ⟨o, d1, d0, e2, rfl, rfl, rfl⟩ := key
  exact ⟨row[v], d0, List.getElem_mem hv, by rw [run_at h]; exact e2, hD'⟩
theorem pickT_ok (h : At P k (f__law_pick kd)) (hd : At P kd f__law_draw) {d : D} (hD : Dr d) {row : List D} (hne : row ≠ []) (hl : row.length < 1073741824) (n : Nat) :
    ∃ v d', v ∈ row ∧ run P (n + 2) k [.rf d, .val (.tuple row)] = .ok false v [d'] ∧ Dr d' := by
  have hp : 0 < row.length := List.length_pos_iff.mpr hne
  obtain ⟨v, d', e1, hv, hD'⟩ := draw_ok (P := P) (k := kd) (n := n) hd (l := row.length) hD hp hl
  have key : ∃ o d1 d0, runF (P.gs (run P (n + 1))) (f__law_pick kd) [.rf d, .val (.tuple row)] = .ok o d1 [d0] ∧ (o = false ∧ d1 = row[v] ∧ d0 = d') := by
    refine runF_ret0 rfl rfl ?_
    simp [startA, b__law_pick, sig_at hd, e1, List.getElem?_eq_getElem hv]
  obtain ⟨o, d1, d0, e2, rfl, rfl, rfl⟩ := key
  exact ⟨row[v], d0, List.getElem_mem hv, by rw [run_at h]; exact e2, hD'⟩
end
/-! ## plain data -/
theorem okD_mono : ∀ {m k : Nat} {d : D}, okD m d = true → m ≤ k → okD k d = true
  | _, _, .none, _, _ => by simp [okD]
  | _, _, .bool _, _, _ => by simp [okD]
  | _, _, .int _, _, _ => by simp [okD]
  | m, k, .str s, h, _ => by cases m <;> cases k <;> simp [okD] at h ⊢ <;> exact h
  | 0, _, .tuple _, h, _ => by simp [okD] at h
  | 0, _, .list _, h, _ => by simp [okD] at h
  | m + 1, 0, .tuple _, _, l => by omega
  | m + 1, 0, .list _, _, l => by omega
  | m + 1, k + 1, .tuple ds, h, l => by
    simp only [okD, Bool.and_eq_true, List.all_eq_true] at h ⊢
    exact ⟨h.1, fun d hd => okD_mono (h.2 d hd) (by omega)⟩
  | m + 1, k + 1, .list ds, h, l => by
    simp only [okD, Bool.and_eq_true, List.all_eq_true] at h ⊢
    exact ⟨h.1, fun d hd => okD_mono (h.2 d hd) (by omega)⟩
  | m, _, .dict _, h, _ => by cases m <;> simp [okD] at h
theorem okD_map {α : Type} {f : α → D} {m : Nat} {xs : List α} (hl : xs.length ≤ 16777216) (h : ∀ x ∈ xs, okD m (f x) = true) : okD (m + 1) (.tuple (xs.map f)) = true := by
  simp only [okD, Bool.and_eq_true, List.all_eq_true, decide_eq_true_eq, List.length_map, List.mem_map]
  exact ⟨hl, fun d ⟨x, hx, q⟩ => q ▸ h x hx⟩
theorem okD_mapL {α : Type} {f : α → D} {m : Nat} {xs : List α} (hl : xs.length ≤ 16777216) (h : ∀ x ∈ xs, okD m (f x) = true) : okD (m + 1) (.list (xs.map f)) = true := by
  simp only [okD, Bool.and_eq_true, List.all_eq_true, decide_eq_true_eq, List.length_map, List.mem_map]
  exact ⟨hl, fun d ⟨x, hx, q⟩ => q ▸ h x hx⟩
theorem okD_pair {m : Nat} {a b : D} (ha : okD m a = true) (hb : okD m b = true) : okD (m + 1) (.tuple [a, b]) = true := by
  simp [okD, ha, hb]
theorem okD_tn {xs : List Nat} (hl : xs.length ≤ 16777216) : okD 1 (tn xs) = true := okD_map hl fun _ _ => rfl
end Lb

set_option Elab.async false
set_option linter.all false
set_option maxRecDepth 100000
set_option maxHeartbeats 1000000
namespace Lb
open PySem L2 E2
/- law_k14: a0 = _law_draws, a1 = _law_pick, a2 = _law_draw, a3 = _law_same, a4 = _law_leaps, a5 = leaps, a6 = are_cells, a7 = reached, a8 = _law_kind, a9 = kind_of, a10 = colour, a11 = ends_for, a12 = fewest_left, a13 = turned_board, x0 = BadState, x1 = BadPlan -/
def b_law_k14 (a0 a1 a2 a3 a4 a5 a6 a7 a8 a9 a10 a11 a12 a13 x0 x1 : Nat) : CSs :=
  (.cons (.set 1 (.call a0 (.cons (.var 0) .nil)))
  (.cons (.asg (.tup (.cons (.nm 2) (.cons (.nm 3) .nil))) (.call a1 (.cons (.var 1) (.cons (.lst (.cons (.tup (.cons (.cst (.int 1)) (.cons (.cst (.int 1)) .nil))) (.cons (.tup (.cons (.cst (.int 1)) (.cons (.cst (.int 5)) .nil))) (.cons (.tup (.cons (.cst (.int 1)) (.cons (.cst (.int 10)) .nil))) (.cons (.tup (.cons (.cst (.int 2)) (.cons (.cst (.int 3)) .nil))) (.cons (.tup (.cons (.cst (.int 2)) (.cons (.cst (.int 5)) .nil))) (.cons (.tup (.cons (.cst (.int 3)) (.cons (.cst (.int 3)) .nil))) (.cons (.tup (.cons (.cst (.int 5)) (.cons (.cst (.int 2)) .nil))) .nil)))))))) .nil))))
  (.cons (.asg (.tup (.cons (.nm 4) (.cons (.nm 5) .nil))) (.tup (.cons (.bin .Sub (.call a2 (.cons (.var 1) (.cons (.cst (.int 40)) .nil))) (.cst (.int 20))) (.cons (.bin .Sub (.call a2 (.cons (.var 1) (.cons (.cst (.int 40)) .nil))) (.cst (.int 20))) .nil))))
  (.cons (.set 6 (.lst .nil))
  (.cons (.for (.nm 7) (.rng (.cons (.var 2) .nil)) (
   (.cons (.set 6 (.bin .Add (.var 6) (.lc [(Str.ofString "b", 8)] (.nm 8) (.rng (.cons (.var 3) .nil)) (.som (.ex (.cmp .Gt (.call a2 (.cons (.var 1) (.cons (.cst (.int 8)) .nil))) (.cst (.int 0))))) (.tup (.cons (.bin .Add (.var 4) (.var 7)) (.cons (.bin .Add (.var 5) (.var 8)) .nil)))))) .nil)))
  (.cons (.set 6 (.blt .tuple (.cons (.var 6) .nil)))
  (.cons (.set 9 (.blt .tuple (.cons (.lc [(Str.ofString "cell", 10)] (.nm 10) (.seq (.var 6)) (.som (.ex (.cmp .Gt (.call a2 (.cons (.var 1) (.cons (.cst (.int 3)) .nil))) (.cst (.int 0))))) (.var 10)) .nil)))
  (.cons (.ite (.or (.ex (.cmp .IsNot (.call a6 (.cons (.var 6) .nil)) (.cst (.bool true)))) (.not (.ex (.call a3 (.cons (.call a5 (.cons (.var 6) (.cons (.var 9) .nil))) (.cons (.blt .tuple (.cons (.call a4 (.cons (.var 6) (.cons (.var 9) .nil))) .nil)) .nil)))))) (
   (.cons (.ret (.cst (.bool false))) .nil)) (.nil))
  (.cons (.par [11, 12] (.cons (.lst (.cons (.var 9) .nil)) (.cons (.cst (.int 0)) .nil)))
  (.cons (.whl (.ex (.cmp .Lt (.var 12) (.blt .len (.cons (.var 11) .nil)))) (
   (.cons (.for (.tup [(.nm 13), (.nm 14)]) (.seq (.call a4 (.cons (.var 6) (.cons (.idx (.var 11) (.var 12)) .nil)))) (
    (.cons (.ite (.ex (.cmp .NotIn (.var 14) (.var 11))) (
     (.cons (.ex (.mut .append 11 (.cons (.var 14) .nil))) .nil)) (.nil)) .nil)))
   (.cons (.set 12 (.bin .Add (.var 12) (.cst (.int 1)))) .nil))))
  (.cons (.ite (.not (.ex (.call a3 (.cons (.call a7 (.cons (.var 6) (.cons (.var 9) .nil))) (.cons (.blt .tuple (.cons (.var 11) .nil)) .nil))))) (
   (.cons (.ret (.cst (.bool false))) .nil)) (.nil))
  (.cons (.for (.nm 15) (.seq (.sli (.var 11) .non (.som (.cst (.int 60))))) (
   (.cons (.ite (.or (.not (.ex (.call a3 (.cons (.call a9 (.cons (.var 15) .nil)) (.cons (.call a8 (.cons (.var 9) .nil)) .nil))))) (.ex (.cmp .NotEq (.call a8 (.cons (.var 15) .nil)) (.call a8 (.cons (.var 9) .nil))))) (
    (.cons (.ret (.cst (.bool false))) .nil)) (.nil)) .nil)))
  (.cons (.for (.nm 10) (.seq (.var 6)) (
   (.cons (.ite (.not (.ex (.call a3 (.cons (.lst (.cons (.call a10 (.cons (.var 10) (.cons (.cst (.int 0)) .nil))) (.cons (.call a10 (.cons (.var 10) (.cons (.cst (.int 1)) .nil))) .nil))) (.cons (.lst (.cons (.bin .Mod (.bin .Add (.idx (.var 10) (.cst (.int 0))) (.idx (.var 10) (.cst (.int 1)))) (.cst (.int 3))) (.cons (.bin .Mod (.bin .Sub (.idx (.var 10) (.cst (.int 0))) (.idx (.var 10) (.cst (.int 1)))) (.cst (.int 3))) .nil))) .nil))))) (
    (.cons (.ret (.cst (.bool false))) .nil)) (.nil)) .nil)))
  (.cons (.set 16 (.lc [(Str.ofString "cell", 10)] (.nm 10) (.seq (.var 6)) (.som (.ex (.cmp .Eq (.call a8 (.cons (.tup (.cons (.var 10) .nil)) .nil)) (.call a8 (.cons (.var 9) .nil))))) (.var 10)))
  (.cons (.ite (.or (.not (.ex (.call a3 (.cons (.call a11 (.cons (.var 6) (.cons (.var 9) .nil))) (.cons (.blt .tuple (.cons (.var 16) .nil)) .nil))))) (.ex (.cmp .Gt (.blt .len (.cons (.lc [(Str.ofString "one", 15)] (.nm 15) (.seq (.var 11)) (.som (.and (.ex (.cmp .Eq (.blt .len (.cons (.var 15) .nil)) (.cst (.int 1)))) (.ex (.cmp .NotIn (.idx (.var 15) (.cst (.int 0))) (.var 16))))) (.var 15)) .nil)) (.cst (.int 0))))) (
   (.cons (.ret (.cst (.bool false))) .nil)) (.nil))
  (.cons (.set 17 (.blt .min (.cons (.lc [(Str.ofString "one", 15)] (.nm 15) (.seq (.var 11)) .non (.blt .len (.cons (.var 15) .nil))) .nil)))
  (.cons (.ite (.not (.ex (.call a3 (.cons (.call a12 (.cons (.var 6) (.cons (.var 9) .nil))) (.cons (.tup (.cons (.var 17) (.cons (.blt .tuple (.cons (.blt .sorted (.cons (.lc [(Str.ofString "one", 15)] (.nm 15) (.seq (.var 11)) (.som (.ex (.cmp .Eq (.blt .len (.cons (.var 15) .nil)) (.var 17)))) (.var 15)) .nil)) .nil)) .nil))) .nil))))) (
   (.cons (.ret (.cst (.bool false))) .nil)) (.nil))
  (.cons (.set 18 (.blt .tuple (.cons (.blt .sorted (.cons (.lc [(Str.ofString "a", 7), (Str.ofString "b", 8)] (.tup [(.nm 7), (.nm 8)]) (.seq (.var 6)) .non (.tup (.cons (.var 8) (.cons (.var 7) .nil)))) .nil)) .nil)))
  (.cons (.ite (.or (.not (.ex (.call a3 (.cons (.call a13 (.cons (.var 6) .nil)) (.cons (.var 18) .nil))))) (.ex (.cmp .NotEq (.blt .len (.cons (.call a5 (.cons (.var 18) (.cons (.call a13 (.cons (.var 9) .nil)) .nil))) .nil)) (.blt .len (.cons (.call a5 (.cons (.var 6) (.cons (.var 9) .nil))) .nil))))) (
   (.cons (.ret (.cst (.bool false))) .nil)) (.nil))
  (.cons (.set 19 (.lst .nil))
  (.cons (.for (.nm 20) (.rng (.cons (.cst (.int 4)) .nil)) (
   (.cons (.set 21 (.call a1 (.cons (.var 1) (.cons (.lst (.cons (.cst .none) (.cons (.lst (.cons (.tup (.cons (.cst (.int 0)) (.cons (.cst (.int 0)) .nil))) .nil)) (.cons (.tup (.cons (.tup (.cons (.cst (.int 0)) .nil)) .nil)) (.cons (.tup (.cons (.tup (.cons (.cst (.int 0)) (.cons (.cst (.bool true)) .nil))) .nil)) (.cons (.tup (.cons (.tup (.cons (.cst (.int 0)) (.cons (.cst (.int 51)) .nil))) .nil)) (.cons (.tup (.cons (.tup (.cons (.cst (.int 1)) (.cons (.cst (.int 0)) .nil))) (.cons (.tup (.cons (.cst (.int 0)) (.cons (.cst (.int 0)) .nil))) .nil))) (.cons (.tup (.cons (.tup (.cons (.cst (.int 0)) (.cons (.cst (.int 0)) .nil))) (.cons (.tup (.cons (.cst (.int 0)) (.cons (.cst (.int 0)) .nil))) .nil))) (.cons (.blt .tuple (.cons (.lc [(Str.ofString "k", 22)] (.nm 22) (.rng (.cons (.cst (.int 41)) .nil)) .non (.tup (.cons (.cst (.int 0)) (.cons (.var 22) .nil)))) .nil)) (.cons (.tup (.cons (.cst (.int 0)) .nil)) .nil)))))))))) .nil))))
   (.cons (.try_ (
    (.cons (.ite (.ex (.cmp .Lt (.var 20) (.cst (.int 2)))) (
     (.cons (.ex (.mut .append 19 (.cons (.ife (.ex (.cmp .Eq (.var 20) (.cst (.int 0)))) (.call a5 (.cons (.var 21) (.cons (.tup .nil) .nil))) (.call a5 (.cons (.var 6) (.cons (.call a1 (.cons (.var 1) (.cons (.lst (.cons (.cst .none) (.cons (.tup (.cons (.tup (.cons (.cst (.int 50)) (.cons (.cst (.int 50)) .nil))) .nil)) (.cons (.ife (.ex (.cmp .Gt (.blt .len (.cons (.var 6) .nil)) (.cst (.int 0)))) (.lst (.cons (.idx (.var 6) (.cst (.int 0))) .nil)) (.cst .none)) (.cons (.var 21) .nil))))) .nil))) .nil)))) .nil))) .nil)) (
     (.cons (.ex (.mut .append 19 (.cons (.ife (.ex (.cmp .Eq (.var 20) (.cst (.int 2)))) (.call a9 (.cons (.var 21) .nil)) (.call a13 (.cons (.var 21) .nil))) .nil))) .nil))) .nil)) (.cons x1 none (
    (.cons (.ex (.mut .append 19 (.cons (.cst (.str (Str.ofString "plan"))) .nil))) .nil)) (.cons x0 none (
    (.cons (.ex (.mut .append 19 (.cons (.cst (.str (Str.ofString "state"))) .nil))) .nil)) .nil))) .nil))))
  (.cons (.ret (.and (.cmp .Eq (.var 19) (.lst (.cons (.cst (.str (Str.ofString "plan"))) (.cons (.cst (.str (Str.ofString "state"))) (.cons (.cst (.str (Str.ofString "state"))) (.cons (.cst (.str (Str.ofString "state"))) .nil)))))) (.cmp .Is (.call a6 (.cons (.call a1 (.cons (.var 1) (.cons (.lst (.cons (.cst .none) (.cons (.lst (.cons (.tup (.cons (.cst (.int 0)) (.cons (.cst (.int 0)) .nil))) .nil)) (.cons (.tup (.cons (.tup (.cons (.cst (.int 0)) (.cons (.cst (.int 51)) .nil))) .nil)) (.cons (.tup (.cons (.tup (.cons (.cst (.int 1)) (.cons (.cst (.int 0)) .nil))) (.cons (.tup (.cons (.cst (.int 0)) (.cons (.cst (.int 0)) .nil))) .nil))) .nil))))) .nil))) .nil)) (.cst (.bool false))))) .nil))))))))))))))))))))))
def n_law_k14 : List Str := [Str.ofString "script", Str.ofString "draws", Str.ofString "high", Str.ofString "wide", Str.ofString "top", Str.ofString "left", Str.ofString "board", Str.ofString "a", Str.ofString "b", Str.ofString "state", Str.ofString "cell", Str.ofString "order", Str.ofString "at", Str.ofString "name", Str.ofString "there", Str.ofString "one", Str.ofString "ends", Str.ofString "few", Str.ofString "flipped", Str.ofString "words", Str.ofString "turn", Str.ofString "bad", Str.ofString "k"]
abbrev f_law_k14 (a0 a1 a2 a3 a4 a5 a6 a7 a8 a9 a10 a11 a12 a13 x0 x1 : Nat) : Fn := ⟨23, [false], b_law_k14 a0 a1 a2 a3 a4 a5 a6 a7 a8 a9 a10 a11 a12 a13 x0 x1⟩

end Lb
namespace P14
open PySem L2 E2 Lb
def prg : Prg := ⟨[f_is_whole,
  f_spread,
  (f_is_cell 0),
  (f_are_cells 2 0),
  (f_look_at_pegs 3 2 1),
  (f_leaps 4),
  f_colour_2,
  (f_kind_of 3 6 1),
  (f_ends_for 4 7),
  (f_reached 4 1 5 1 19),
  (f_fewest_left 9),
  (f_turned_board 3 1),
  f__law_draws,
  f__law_draw,
  (f__law_pick 13),
  (f__law_same_2 15),
  f__law_leaps,
  f__law_kind,
  (f_law_k14 12 14 13 15 16 5 3 9 17 7 6 8 10 11 1 2),
  (lam_reached_0 4 1 5 1 19).fn],
  [(.int 40), (.int 20000)],
  [[], [], []],
  [[0], [1, 0], [2, 0]]⟩
--  0 is_whole
--  1 spread
--  2 is_cell
--  3 are_cells
--  4 look_at_pegs
--  5 leaps
--  6 colour_2
--  7 kind_of
--  8 ends_for
--  9 reached
--  10 fewest_left
--  11 turned_board
--  12 _law_draws
--  13 _law_draw
--  14 _law_pick
--  15 _law_same_2
--  16 _law_leaps
--  17 _law_kind
--  18 law_k14
--  19 (lam_reached_0 4 1 5 1 19).fn
--  errors 0 PuzzleError 1 BadState 2 BadPlan
--  constants 0 MOST_CELLS 1 MOST_STATES

open Enc (e)
open Pg
/-! ## the defs of this program -/
section
variable {s board : List Cell}
theorem St.len (hb : Asc board) (h : St board s) : s.length ≤ board.length := nd_len' h.asc.nd h.sub
theorem St.row (hb : Row board) (h : St board s) : Row s := ⟨h.asc, fun c hc => hb.rng c (h.sub c hc), Nat.le_trans (St.len hb.asc h) hb.len⟩
theorem c_cells (hs : Row s) (n : Nat) : run prg (n + 3) 3 [.val (.tuple (s.map e))] = .ok false (.bool true) [] := cells_ok (P := prg) (ka := 3) (kc := 2) (kw := 0) (g := 0) rfl rfl rfl rfl hs n
theorem c_look (hb : Row board) (h : St board s) (n : Nat) : run prg (n + 4) 4 [.val (.tuple (board.map e)), .val (.tuple (s.map e))] = .ok false .none [] := look_ok (P := prg) (kp := 4) (ka := 3) (kc := 2) (kw := 0) (g := 0) (xp := 2) (xs := 1) rfl rfl rfl rfl rfl hb (St.row hb h) h.sub n
theorem c_leaps (hb : Row board) (h : St board s) (n : Nat) : run prg (n + 5) 5 [.val (.tuple (board.map e)), .val (.tuple (s.map e))] = .ok false (.tuple ((leapsT board s).map e)) [] := leaps_ok (P := prg) (kl := 5) (kp := 4) rfl (fun _ => rfl) hb (St.row hb h) (c_look hb h n)
theorem c_lleaps (hs : Row s) (n : Nat) : run prg (n + 1) 16 [.val (.tuple (board.map e)), .val (.tuple (s.map e))] = .ok true (.list ((leapsT board s).map e)) [] := lleaps_ok (P := prg) (kl := 16) rfl hs n
theorem c_kind (hs : Row s) (n : Nat) : run prg (n + 4) 7 [.val (.tuple (s.map e))] = .ok false (tn (kindT s)) [] := kind_ok (P := prg) (kk := 7) (ka := 3) (kq := 6) (x := 1) rfl rfl (fun _ => rfl) (c_cells hs n) hs.len
theorem c_lkind (hs : s.length ≤ 40) (n : Nat) : run prg (n + 1) 17 [.val (.tuple (s.map e))] = .ok false (tn (kindT s)) [] := lkind_ok (P := prg) (kk := 17) rfl hs n
theorem row1 (hb : Row board) {c : Cell} (hc : c ∈ board) : Row [c] := by
  refine ⟨List.pairwise_singleton _ _, fun d hd => ?_, by simp⟩
  have : d = c := by simpa using hd
  subst this
  exact hb.rng d hc
theorem c_ends (hb : Row board) (h : St board s) (n : Nat) : run prg (n + 5) 8 [.val (.tuple (board.map e)), .val (.tuple (s.map e))] = .ok false (.tuple ((board.filter fun c => decide (kindT [c] = kindT s)).map e)) [] :=
  ends_ok (P := prg) (ke := 8) (kp := 4) (kk := 7) rfl (fun _ => rfl) (fun _ => rfl) hb.len (c_look hb h n) (fun c hc => c_kind (row1 hb hc) n) (c_kind (St.row hb h) n)
theorem c_reached (hb : Row board) (h : St board s) {l : Bf.Kn (List Cell) (Cell × Cell)} (hl : Bf.All (leapsT board) (St board) s l) (hB : l.length ≤ 1024) (n : Nat) : run prg (n + 8) 9 [.val (.tuple (board.map e)), .val (.tuple (s.map e))] = .ok false (.tuple ((Bf.keys l).map e)) [] :=
  reached_ok (P := prg) (kr := 9) (kp := 4) (kS := 1) (kl := 5) (gm := 1) (l0 := 19) (n := n + 5) rfl rfl rfl (fun _ => rfl) (fun _ => rfl) rfl (c_look hb h (n + 3)) (fun t ht => c_leaps hb ht n) hl hB
theorem c_fewest (hb : Row board) (h : St board s) {l : Bf.Kn (List Cell) (Cell × Cell)} (hl : Bf.All (leapsT board) (St board) s l) (hB : l.length ≤ 1024) (n : Nat) : run prg (n + 9) 10 [.val (.tuple (board.map e)), .val (.tuple (s.map e))] = .ok false (.tuple [dn (fewT (Bf.keys l)), .tuple ((leastT (Bf.keys l)).map e)]) [] :=
  fewest_ok (P := prg) (kf := 10) (kr := 9) rfl (fun _ => rfl) (c_reached hb h hl hB n) (List.ne_nil_of_mem hl.h0) hl.nd (by rw [Bf.keys_len]; exact hB)
theorem c_turned (hs : Row s) (n : Nat) : run prg (n + 4) 11 [.val (.tuple (s.map e))] = .ok false (.tuple ((flipB s).map e)) [] := turned_ok (P := prg) (kt := 11) (ka := 3) (x := 1) rfl (fun _ => rfl) (c_cells hs n) hs.len
theorem c_same {d : D} {m : Nat} (h : okD m d = true) (hm : m ≤ 10) (n : Nat) : run prg (n + 19) 15 [.val d, .val d] = .ok false (.bool true) [] := by
  have := same2_ok (P := prg) (k := 15) rfl m d (n + 18 - m) h
  rw [show n + 18 - m + m + 1 = n + 19 by omega] at this
  exact this
theorem ok_cell (c : Cell) : okD 1 (e c) = true := rfl
theorem ok_state (h : s.length ≤ 40) : okD 2 (.tuple (s.map e)) = true := okD_map (by omega) fun c _ => ok_cell c
theorem row_flip (h : Row s) : Row (flipB s) := ⟨asc_flip h.asc, fun c hc => by
  have : fl c ∈ s := mem_flip.mp (by rw [fl_fl]; exact hc)
  have := h.rng _ this
  exact ⟨this.2, this.1⟩, by unfold flipB; rw [sortE_len, List.length_map]; exact h.len⟩
theorem st_flip (h : St board s) : St (flipB board) (flipB s) := ⟨asc_flip h.asc, fun c hc => by
  have h1 : fl c ∈ s := mem_flip.mp (by rw [fl_fl]; exact hc)
  have h2 : fl (fl c) ∈ flipB board := mem_flip.mpr (h.sub _ h1)
  exact h2⟩
theorem ok_leaps (hb : Row board) (h : St board s) : okD 4 (.tuple ((leapsT board s).map e)) = true := by
  refine okD_map ?_ fun x hx => ?_
  · unfold leapsT
    rw [sortE_len]
    have := leapsU_len dA board s s
    have h4 : dA.length = 4 := rfl
    rw [h4] at this
    have := (St.row hb h).len
    unfold leapsU
    omega
  · have hs := St.row hb (h.step x hx)
    exact okD_pair (okD_mono (okD_pair (ok_cell _) (ok_cell _)) (by omega)) (ok_state hs.len)
end
/-! ## values that are nearly such -/
def long41 : D := .tuple ((List.range 41).map fun k => .tuple [.int 0, dn k])
def bads : List D := [.none, .list [.tuple [.int 0, .int 0]], .tuple [.tuple [.int 0]], .tuple [.tuple [.int 0, .bool true]], .tuple [.tuple [.int 0, .int 51]], .tuple [.tuple [.int 1, .int 0], .tuple [.int 0, .int 0]], .tuple [.tuple [.int 0, .int 0], .tuple [.int 0, .int 0]], long41, .tuple [.int 0]]
theorem long_cells (n : Nat) : run prg (n + 3) 3 [.val long41] = .ok false (.bool false) [] := by
  rw [run_at (P := prg) (k := 3) (f := f_are_cells 2 0) rfl]
  refine runF_is rfl rfl ?_
  have hg : ∀ c, (prg.gs c).gcs 0 = some (.int 40) := fun _ => rfl
  simp [startA, b_are_cells, long41, hg]
theorem bad_cells (n : Nat) : ∀ d ∈ bads, run prg (n + 3) 3 [.val d] = .ok false (.bool false) [] := by
  intro d hd
  unfold bads at hd
  simp only [List.mem_cons, List.not_mem_nil, or_false] at hd
  rcases hd with rfl | rfl | rfl | rfl | rfl | rfl | rfl | rfl | rfl
  case inr.inr.inr.inr.inr.inr.inr.inl => exact long_cells n
  all_goals rfl
theorem list_cells (n : Nat) (xs : List D) : run prg (n + 3) 3 [.val (.list xs)] = .ok false (.bool false) [] := by
  rw [run_at (P := prg) (k := 3) (f := f_are_cells 2 0) rfl]
  refine runF_is rfl rfl ?_
  simp [startA, b_are_cells]
theorem far_row : Row [(50, 50)] := by
  refine ⟨List.pairwise_singleton _ _, fun d hd => ?_, by simp⟩
  have : d = (50, 50) := by simpa using hd
  subst this
  decide
theorem look_plan {b s : D} {n : Nat} (h : run prg (n + 3) 3 [.val b] = .ok false (.bool false) []) : run prg (n + 4) 4 [.val b, .val s] = .exc ⟨2, []⟩ [] := by
  rw [run_at (P := prg) (k := 4) (f := f_look_at_pegs 3 2 1) rfl]
  refine runF_raises rfl rfl ?_
  have s3 := @sig_at prg 3 _ rfl
  have x2 : ∀ c, (prg.gs c).exf 2 = some [] := fun _ => rfl
  simp [startA, b_look_at_pegs, s3, h, x2]
theorem look_state {b s : D} {n : Nat} (h : run prg (n + 3) 3 [.val b] = .ok false (.bool true) []) (h2 : run prg (n + 3) 3 [.val s] = .ok false (.bool false) []) : run prg (n + 4) 4 [.val b, .val s] = .exc ⟨1, []⟩ [] := by
  rw [run_at (P := prg) (k := 4) (f := f_look_at_pegs 3 2 1) rfl]
  refine runF_raises rfl rfl ?_
  have s3 := @sig_at prg 3 _ rfl
  have x1 : ∀ c, (prg.gs c).exf 1 = some [] := fun _ => rfl
  simp [startA, b_look_at_pegs, s3, h, h2, x1]
theorem look_far {board : List Cell} (hb : Row board) (h : ((50, 50) : Cell) ∉ board) (n : Nat) : run prg (n + 4) 4 [.val (.tuple (board.map e)), .val (.tuple [.tuple [.int 50, .int 50]])] = .exc ⟨1, []⟩ [] := by
  rw [run_at (P := prg) (k := 4) (f := f_look_at_pegs 3 2 1) rfl]
  refine runF_raises rfl rfl ?_
  have s3 := @sig_at prg 3 _ rfl
  have x1 : ∀ c, (prg.gs c).exf 1 = some [] := fun _ => rfl
  have h2 : run prg (n + 3) 3 [.val (.tuple [.tuple [.int 50, .int 50]])] = .ok false (.bool true) [] := c_cells far_row n
  have hall : bltD .all [.list [.bool false]] = some (false, .bool false) := rfl
  simp [startA, b_look_at_pegs, s3, c_cells hb n, h2, x1]
  refine lcN_w (e : Cell → D) (fun _ => .bool false) [(50, 50)] ?_ ?_ ?_ ?_
  · simp
    rfl
  · simp
  · intro c hc
    refine ⟨_, (by simp; rfl), ?_⟩
    refine ⟨rfl, ?_⟩
    have : c = (50, 50) := by simpa using hc
    subst this
    simp [inD_tx (α := Cell) (by decide), h]
  · simp [hall, x1]
theorem leaps_exc {b s : D} {n : Nat} {x : Ex} (h : run prg (n + 4) 4 [.val b, .val s] = .exc x []) : run prg (n + 5) 5 [.val b, .val s] = .exc x [] := by
  rw [run_at (P := prg) (k := 5) (f := f_leaps 4) rfl]
  refine runF_raises rfl rfl ?_
  have s4 := @sig_at prg 4 _ rfl
  simp [startA, b_leaps, s4, h]
theorem kind_exc {s : D} {n : Nat} (h : run prg (n + 3) 3 [.val s] = .ok false (.bool false) []) : run prg (n + 4) 7 [.val s] = .exc ⟨1, []⟩ [] := by
  rw [run_at (P := prg) (k := 7) (f := f_kind_of 3 6 1) rfl]
  refine runF_raises rfl rfl ?_
  have s3 := @sig_at prg 3 _ rfl
  have x1 : ∀ c, (prg.gs c).exf 1 = some [] := fun _ => rfl
  simp [startA, b_kind_of, s3, h, x1]
theorem turned_exc {s : D} {n : Nat} (h : run prg (n + 3) 3 [.val s] = .ok false (.bool false) []) : run prg (n + 4) 11 [.val s] = .exc ⟨1, []⟩ [] := by
  rw [run_at (P := prg) (k := 11) (f := f_turned_board 3 1) rfl]
  refine runF_raises rfl rfl ?_
  have s3 := @sig_at prg 3 _ rfl
  have x1 : ∀ c, (prg.gs c).exf 1 = some [] := fun _ => rfl
  simp [startA, b_turned_board, s3, h, x1]
end P14

set_option Elab.async false
set_option linter.all false
set_option maxRecDepth 100000
set_option maxHeartbeats 4000000
namespace P14
open PySem L2 E2 Lb
open Enc (e)
open Pg
theorem range_split {w a : Nat} {done rem : List Nat} (h : List.range w = done ++ a :: rem) : a = done.length ∧ done.length + 1 + rem.length = w := by
  have h1 : (List.range w)[done.length]? = some a := by rw [h]; simp
  have h2 : done.length < w := by
    have := congrArg List.length h
    simp at this
    omega
  rw [List.getElem?_range h2] at h1
  have := congrArg List.length h
  simp at this
  exact ⟨by simpa using h1.symm, by omega⟩
abbrev lawB : CSs := b_law_k14 12 14 13 15 16 5 3 9 17 7 6 8 10 11 1 2
def stm : Nat → CSs → CSs
  | 0, ss => ss
  | n + 1, .cons _ ss => stm n ss
  | _ + 1, .nil => .nil
abbrev Good1 : Pt := RetP fun o d => o = false ∧ d = .bool true
def sizes : List (Nat × Nat) := [(1, 1), (1, 5), (1, 10), (2, 3), (2, 5), (3, 3), (5, 2)]
/-- the board's rows -/
structure Bd (h w : Nat) (top left : Int) (a : Nat) (bd : List Cell) : Prop where
  asc : Asc bd
  rng : ∀ c ∈ bd, top ≤ c.1 ∧ c.1 < top + a ∧ left ≤ c.2 ∧ c.2 < left + w
  len : bd.length ≤ a * w
theorem bd_row (n : Nat) {h w a : Nat} {top left : Int} {s0 j8 : Option Sv} (hw : w ≤ 10) {bd : List Cell} (hb : Bd h w top left a bd) (ha : a ≤ 5) {d : D} (hd : Dr d) {Q : R → En → Prop} {X : Ex → En → Prop}
    (hq : ∀ d' cs, Dr d' → Bd h w top left (a + 1) (bd ++ cs) → cs.length ≤ 10 → Q (.val true (.list (cs.map e))) [s0, some (.dat true (d')), some (.dat false (.int (h : Nat))), some (.dat false (.int (w : Nat))), some (.dat false (.int top)), some (.dat false (.int left)), some (.dat true (.list (bd.map e))), some (.dat false (.int (a : Nat))), j8, none, none, none, none, none, none, none, none, none, none, none, none, none, none]) :
    (evE (prg.gs (run prg (n + 19))) (.lc [(Str.ofString "b", 8)] (.nm 8) (.rng (.cons (.var 3) .nil)) (.som (.ex (.cmp .Gt (.call 13 (.cons (.var 1) (.cons (.cst (.int 8)) .nil))) (.cst (.int 0))))) (.tup (.cons (.bin .Add (.var 4) (.var 7)) (.cons (.bin .Add (.var 5) (.var 8)) .nil)))) [s0, some (.dat true (d)), some (.dat false (.int (h : Nat))), some (.dat false (.int (w : Nat))), some (.dat false (.int top)), some (.dat false (.int left)), some (.dat true (.list (bd.map e))), some (.dat false (.int (a : Nat))), j8, none, none, none, none, none, none, none, none, none, none, none, none, none, none]).w Q X := by
  have s13 := @sig_at prg 13 _ rfl
  have hrw : rngD [.int (w : Nat)] = some ((List.range w).map dn) := rngD_one (by omega)
  refine lcI_w [s0, some (.dat true (d)), some (.dat false (.int (h : Nat))), some (.dat false (.int (w : Nat))), some (.dat false (.int top)), some (.dat false (.int left)), some (.dat true (.list (bd.map e))), some (.dat false (.int (a : Nat))), j8, none, none, none, none, none, none, none, none, none, none, none, none, none, none] dn (List.range w) (fun acc rem => Ih fun r => ∃ (done : List Nat) (dl : D) (cs : List Cell) (z : Option Sv), List.range w = done ++ rem ∧ Dr dl ∧ Asc cs ∧ (∀ c ∈ cs, c.1 = top + a ∧ left ≤ c.2 ∧ c.2 < left + done.length) ∧ cs.length ≤ done.length ∧ acc = cs.map e ∧ r = [s0, some (.dat true (dl)), some (.dat false (.int (h : Nat))), some (.dat false (.int (w : Nat))), some (.dat false (.int top)), some (.dat false (.int left)), some (.dat true (.list (bd.map e))), some (.dat false (.int (a : Nat))), z, none, none, none, none, none, none, none, none, none, none, none, none, none, none]) (by simp [hrw]) (by simp; omega) ⟨[], d, [], _, rfl, hd, List.Pairwise.nil, by simp, by simp, rfl, rfl⟩ ?_ ?_
  · rintro b rem acc _ ⟨done, dl, cs, z, hr, hdl, has, hcs, hcl, rfl, rfl⟩
    obtain ⟨v, dl1, ev, hv, hdl1⟩ := draw_ok (P := prg) (k := 13) (n := n + 18) rfl (l := 8) hdl (by omega) (by omega)
    have ev : run prg (n + 19) 13 [.rf dl, .val (.int 8)] = .ok false (.int v) [dl1] := ev
    obtain ⟨rfl, hrl⟩ := range_split hr
    have hnext : List.range w = (done ++ [done.length]) ++ rem := by rw [hr]; simp
    refine ⟨_, rfl, ?_⟩
    simp [s13, ev]
    refine ⟨fun hv0 => ⟨_, _, ⟨rfl, rfl⟩, done ++ [done.length], dl1, cs ++ [(top + a, left + done.length)], _, hnext, hdl1, ?_, ?_, ?_, ?_, rfl⟩, fun hv0 => ⟨done ++ [done.length], dl1, cs, _, hnext, hdl1, has, ?_, ?_, rfl, rfl⟩⟩
    · refine List.pairwise_append.mpr ⟨has, List.pairwise_singleton _ _, fun c hc c' hc' => ?_⟩
      have : c' = (top + a, left + done.length) := by simpa using hc'
      subst this
      obtain ⟨c1, c2⟩ := c
      have := hcs _ hc
      rw [lt_pair, if_pos this.1, lt_int]
      exact decide_eq_true this.2.2
    · intro c hc
      rcases List.mem_append.mp hc with hc | hc
      · have := hcs c hc
        simp
        omega
      · have : c = (top + a, left + done.length) := by simpa using hc
        subst this
        simp
        omega
    · simp; omega
    · simp [e_pair]
    · intro c hc
      have := hcs c hc
      simp
      omega
    · simp; omega
  · rintro ys r ⟨done, dl, cs, z, hr, hdl, has, hcs, hcl, rfl, rfl⟩
    have hdone : done.length = w := by
      have := congrArg List.length hr
      simp at this
      omega
    refine hq dl cs hdl ⟨?_, ?_, ?_⟩ (by omega)
    · refine List.pairwise_append.mpr ⟨hb.asc, has, fun c hc c' hc' => ?_⟩
      obtain ⟨c1, c2⟩ := c
      obtain ⟨c1', c2'⟩ := c'
      have h1 := hb.rng _ hc
      have h2 := hcs _ hc'
      simp only at h1 h2
      rw [lt_pair, if_neg (by omega), lt_int]
      exact decide_eq_true (by omega)
    · intro c hc
      rcases List.mem_append.mp hc with hc | hc
      · have := hb.rng c hc
        omega
      · have := hcs c hc
        omega
    · rw [List.length_append, Nat.succ_mul]
      have := hb.len
      omega
/-- up to the state -/
theorem start_ok (n : Nat) (s0 : Option Sv) {D0 : D} (hD : Dr D0) {P : Pt} (hs : ∀ d h w top left bd st z7, Dr d → Row bd → bd.length ≤ 10 → (∀ c ∈ bd, c.1 < 50) → St bd st → (evSs (prg.gs (run prg (n + 19))) (stm 7 lawB) [s0, some (.dat true (d)), some (.dat false (.int (h : Nat))), some (.dat false (.int (w : Nat))), some (.dat false (.int top)), some (.dat false (.int left)), some (.dat false (.tuple (bd.map e))), z7, none, some (.dat false (.tuple (st.map e))), none, none, none, none, none, none, none, none, none, none, none, none, none]).w P) :
    (evSs (prg.gs (run prg (n + 19))) (stm 1 lawB) [s0, some (.dat true (D0)), none, none, none, none, none, none, none, none, none, none, none, none, none, none, none, none, none, none, none, none, none]).w P := by
  have s13 := @sig_at prg 13 _ rfl
  have s14 := @sig_at prg 14 _ rfl
  obtain ⟨v, d1, hv, e1, hd1⟩ := pick_ok (P := prg) (k := 14) (kd := 13) rfl rfl hD (row := sizes.map fun p => .tuple [dn p.1, dn p.2]) (by simp [sizes]) (by simp [sizes]) (n + 17)
  obtain ⟨⟨h, w⟩, hhw, rfl⟩ := List.mem_map.mp hv
  have hb : 1 ≤ h ∧ h ≤ 5 ∧ w ≤ 10 ∧ h * w ≤ 10 := by
    simp only [sizes, List.mem_cons, List.not_mem_nil, or_false, Prod.mk.injEq] at hhw
    rcases hhw with ⟨rfl, rfl⟩ | ⟨rfl, rfl⟩ | ⟨rfl, rfl⟩ | ⟨rfl, rfl⟩ | ⟨rfl, rfl⟩ | ⟨rfl, rfl⟩ | ⟨rfl, rfl⟩ <;> decide
  have e1 : run prg (n + 19) 14 [.rf D0, .val (.list [.tuple [.int 1, .int 1], .tuple [.int 1, .int 5], .tuple [.int 1, .int 10], .tuple [.int 2, .int 3], .tuple [.int 2, .int 5], .tuple [.int 3, .int 3], .tuple [.int 5, .int 2]])] = .ok false (.tuple [dn h, dn w]) [d1] := e1
  obtain ⟨v2, d2, e2, hv2, hd2⟩ := draw_ok (P := prg) (k := 13) (n := n + 18) rfl (l := 40) hd1 (by omega) (by omega)
  obtain ⟨v3, d3, e3, hv3, hd3⟩ := draw_ok (P := prg) (k := 13) (n := n + 18) rfl (l := 40) hd2 (by omega) (by omega)
  have e2 : run prg (n + 19) 13 [.rf d1, .val (.int 40)] = .ok false (.int v2) [d2] := e2
  have e3 : run prg (n + 19) 13 [.rf d2, .val (.int 40)] = .ok false (.int v3) [d3] := e3
  obtain ⟨top, htop⟩ : ∃ t : Int, t = (v2 : Int) - 20 := ⟨_, rfl⟩
  obtain ⟨left, hleft⟩ : ∃ t : Int, t = (v3 : Int) - 20 := ⟨_, rfl⟩
  refine cutS (fun r => r = [s0, some (.dat true (d1)), some (.dat false (dn h)), some (.dat false (dn w)), none, none, none, none, none, none, none, none, none, none, none, none, none, none, none, none, none, none, none]) ?_ ?_
  · simp [s14, e1]
  · rintro _ rfl
    refine cutS (fun r => r = [s0, some (.dat true (d3)), some (.dat false (.int (h : Nat))), some (.dat false (.int (w : Nat))), some (.dat false (.int top)), some (.dat false (.int left)), none, none, none, none, none, none, none, none, none, none, none, none, none, none, none, none, none]) ?_ ?_
    · simp [s13, e2, e3, htop, hleft]
    · rintro _ rfl
      refine cutS (fun r => r = [s0, some (.dat true (d3)), some (.dat false (.int (h : Nat))), some (.dat false (.int (w : Nat))), some (.dat false (.int top)), some (.dat false (.int left)), some (.dat true (.list [])), none, none, none, none, none, none, none, none, none, none, none, none, none, none, none, none]) ?_ ?_
      · simp
      · rintro _ rfl
        refine cutS (fun r => ∃ (d4 : D) (bd : List Cell) (z7 : Option Sv), Dr d4 ∧ Bd h w top left h bd ∧ r = [s0, some (.dat true (d4)), some (.dat false (.int (h : Nat))), some (.dat false (.int (w : Nat))), some (.dat false (.int top)), some (.dat false (.int left)), some (.dat true (.list (bd.map e))), z7, none, none, none, none, none, none, none, none, none, none, none, none, none, none, none]) ?_ ?_
        · have hrh : rngD [.int (h : Nat)] = some ((List.range h).map dn) := rngD_one (by omega)
          simp [hrh]
          refine for_w dn (fun rem => Ih fun r => ∃ (done : List Nat) (d4 : D) (bd : List Cell) (z7 : Option Sv), List.range h = done ++ rem ∧ Dr d4 ∧ Bd h w top left done.length bd ∧ r = [s0, some (.dat true (d4)), some (.dat false (.int (h : Nat))), some (.dat false (.int (w : Nat))), some (.dat false (.int top)), some (.dat false (.int left)), some (.dat true (.list (bd.map e))), z7, none, none, none, none, none, none, none, none, none, none, none, none, none, none, none]) ?_ ?_ (List.range h) _ ⟨[], d3, [], none, rfl, hd3, ⟨List.Pairwise.nil, by simp, by simp⟩, rfl⟩
          · rintro a rem _ ⟨done, d4, bd, z7, hr, hd4, hbd, rfl⟩
            obtain ⟨rfl, hrl⟩ := range_split hr
            have hnext : List.range h = (done ++ [done.length]) ++ rem := by rw [hr]; simp
            refine ⟨_, rfl, ?_⟩
            simp
            refine bd_row n (by omega) hbd (by omega) hd4 fun d5 cs hd5 hbd5 hcl => ?_
            have hll : bd.length ≤ 50 := Nat.le_trans hbd.len (by have := Nat.mul_le_mul (show done.length ≤ 5 by omega) hb.2.2.1; omega)
            simp [bin_ll (x := bd.map e) (y := cs.map e) (by rw [List.length_map, List.length_map]; omega)]
            exact ⟨done ++ [done.length], d5, bd ++ cs, _, hnext, hd5, by rw [List.length_append]; exact hbd5, by rw [List.map_append]⟩
          · rintro r ⟨done, d4, bd, z7, hr, hd4, hbd, rfl⟩
            have hdone : done.length = h := by
              have := congrArg List.length hr
              simp at this
              omega
            rw [hdone] at hbd
            exact ⟨d4, bd, z7, hd4, hbd, rfl⟩
        · rintro _ ⟨d4, bd, z7, hd4, hbd, rfl⟩
          have hrow : Row bd := ⟨hbd.asc, fun c hc => by have := hbd.rng c hc; omega, Nat.le_trans hbd.len (by omega)⟩
          have hlen : bd.length ≤ 10 := Nat.le_trans hbd.len hb.2.2.2
          refine cutS (fun r => r = [s0, some (.dat true (d4)), some (.dat false (.int (h : Nat))), some (.dat false (.int (w : Nat))), some (.dat false (.int top)), some (.dat false (.int left)), some (.dat false (.tuple (bd.map e))), z7, none, none, none, none, none, none, none, none, none, none, none, none, none, none, none]) ?_ ?_
          · simp
          · rintro _ rfl
            refine cutS (fun r => ∃ (d5 : D) (st : List Cell), Dr d5 ∧ St bd st ∧ r = [s0, some (.dat true (d5)), some (.dat false (.int (h : Nat))), some (.dat false (.int (w : Nat))), some (.dat false (.int top)), some (.dat false (.int left)), some (.dat false (.tuple (bd.map e))), z7, none, some (.dat false (.tuple (st.map e))), none, none, none, none, none, none, none, none, none, none, none, none, none]) ?_ ?_
            · simp
              refine lcI_w [s0, some (.dat true (d4)), some (.dat false (.int (h : Nat))), some (.dat false (.int (w : Nat))), some (.dat false (.int top)), some (.dat false (.int left)), some (.dat false (.tuple (bd.map e))), z7, none, none, none, none, none, none, none, none, none, none, none, none, none, none, none] (e : Cell → D) bd (fun acc rem => Ih fun r => ∃ (done : List Cell) (dl : D) (cs : List Cell) (z : Option Sv), bd = done ++ rem ∧ Dr dl ∧ cs.Sublist done ∧ acc = cs.map e ∧ r = [s0, some (.dat true (dl)), some (.dat false (.int (h : Nat))), some (.dat false (.int (w : Nat))), some (.dat false (.int top)), some (.dat false (.int left)), some (.dat false (.tuple (bd.map e))), z7, none, none, z, none, none, none, none, none, none, none, none, none, none, none, none]) (by simp) (by omega) ⟨[], d4, [], none, rfl, hd4, List.Sublist.refl _, rfl, rfl⟩ ?_ ?_
              · rintro c rem acc _ ⟨done, dl, cs, z, hr, hdl, hsub, rfl, rfl⟩
                obtain ⟨v, dl1, ev, hv, hdl1⟩ := draw_ok (P := prg) (k := 13) (n := n + 18) rfl (l := 3) hdl (by omega) (by omega)
                have ev : run prg (n + 19) 13 [.rf dl, .val (.int 3)] = .ok false (.int v) [dl1] := ev
                have hnext : bd = (done ++ [c]) ++ rem := by rw [hr]; simp
                refine ⟨_, (by simp; rfl), ?_⟩
                simp [s13, ev]
                refine ⟨fun hv0 => ⟨_, _, ⟨rfl, rfl⟩, done ++ [c], dl1, cs ++ [c], _, hnext, hdl1, hsub.append (List.Sublist.refl _), by simp, rfl⟩, fun hv0 => ⟨done ++ [c], dl1, cs, _, hnext, hdl1, hsub.trans (List.sublist_append_left _ _), rfl, rfl⟩⟩
              · rintro ys r ⟨done, dl, cs, z, hr, hdl, hsub, rfl, rfl⟩
                simp at hr
                subst hr
                simp
                exact ⟨dl, hdl, cs, ⟨hrow.asc.sublist hsub, fun x hx => hsub.subset hx⟩, rfl, rfl⟩
            · rintro _ ⟨d5, st, hd5, hst, rfl⟩
              exact hs d5 h w top left bd st z7 hd5 hrow hlen (fun c hc => by have := (hbd.rng c hc); omega) hst
end P14

set_option Elab.async false
set_option linter.all false
set_option maxRecDepth 100000
set_option maxHeartbeats 4000000
namespace P14
open PySem L2 E2 Lb
open Enc (e)
open Pg
abbrev Kl := Bf.Kn (List Cell) (Cell × Cell)
theorem same_state {n : Nat} {d : D} {m : Nat} (h : okD m d = true) (hm : m ≤ 10) : run prg (n + 19) 15 [.val d, .val d] = .ok false (.bool true) [] := c_same h hm n
/-- statements 7 to 10: moves, the search -/
theorem mid_ok (n : Nat) (s0 : Option Sv) {d : D} {h w : Nat} {top left : Int} {bd st : List Cell} {z7 : Option Sv} (hb : Row bd) (hst : St bd st) {l : Kl} (hl : Bf.All (leapsT bd) (St bd) st l) (hB : l.length ≤ 1024) {P : Pt}
    (hs : ∀ z13 z14, (evSs (prg.gs (run prg (n + 19))) (stm 10 lawB) [s0, some (.dat true (d)), some (.dat false (.int (h : Nat))), some (.dat false (.int (w : Nat))), some (.dat false (.int top)), some (.dat false (.int left)), some (.dat false (.tuple (bd.map e))), z7, none, some (.dat false (.tuple (st.map e))), none, some (.dat true (.list ((Bf.keys l).map e))), some (.dat false (.int (l.length : Nat))), z13, z14, none, none, none, none, none, none, none, none]).w P) : (evSs (prg.gs (run prg (n + 19))) (stm 7 lawB) [s0, some (.dat true (d)), some (.dat false (.int (h : Nat))), some (.dat false (.int (w : Nat))), some (.dat false (.int top)), some (.dat false (.int left)), some (.dat false (.tuple (bd.map e))), z7, none, some (.dat false (.tuple (st.map e))), none, none, none, none, none, none, none, none, none, none, none, none, none]).w P := by
  have s3 := @sig_at prg 3 _ rfl
  have s5 := @sig_at prg 5 _ rfl
  have s9 := @sig_at prg 9 _ rfl
  have s15 := @sig_at prg 15 _ rfl
  have s16 := @sig_at prg 16 _ rfl
  have r3 : run prg (n + 19) 3 [.val (.tuple (bd.map e))] = .ok false (.bool true) [] := c_cells hb (n + 16)
  have r5 : run prg (n + 19) 5 [.val (.tuple (bd.map e)), .val (.tuple (st.map e))] = .ok false (.tuple ((leapsT bd st).map e)) [] := c_leaps hb hst (n + 14)
  have r16 : ∀ t, St bd t → run prg (n + 19) 16 [.val (.tuple (bd.map e)), .val (.tuple (t.map e))] = .ok true (.list ((leapsT bd t).map e)) [] := fun t ht => c_lleaps (St.row hb ht) (n + 18)
  have rs := same_state (n := n) (ok_leaps hb hst) (by omega)
  refine cutS (fun r => r = [s0, some (.dat true (d)), some (.dat false (.int (h : Nat))), some (.dat false (.int (w : Nat))), some (.dat false (.int top)), some (.dat false (.int left)), some (.dat false (.tuple (bd.map e))), z7, none, some (.dat false (.tuple (st.map e))), none, none, none, none, none, none, none, none, none, none, none, none, none]) ?_ ?_
  · simp [s3, s5, s15, s16, r3, r5, r16 st hst, rs]
  · rintro _ rfl
    refine cutS (fun r => r = [s0, some (.dat true (d)), some (.dat false (.int (h : Nat))), some (.dat false (.int (w : Nat))), some (.dat false (.int top)), some (.dat false (.int left)), some (.dat false (.tuple (bd.map e))), z7, none, some (.dat false (.tuple (st.map e))), none, some (.dat true (.list [.tuple (st.map e)])), some (.dat false (.int 0)), none, none, none, none, none, none, none, none, none, none]) ?_ ?_
    · simp
    · rintro _ rfl
      refine cutS (Ih fun r => ∃ z13 z14 : Option Sv, r = [s0, some (.dat true (d)), some (.dat false (.int (h : Nat))), some (.dat false (.int (w : Nat))), some (.dat false (.int top)), some (.dat false (.int left)), some (.dat false (.tuple (bd.map e))), z7, none, some (.dat false (.tuple (st.map e))), none, some (.dat true (.list ((Bf.keys l).map e))), some (.dat false (.int (l.length : Nat))), z13, z14, none, none, none, none, none, none, none, none]) ?_ fun r ⟨z13, z14, hr⟩ => by subst hr; exact hs z13 z14
      simp
      refine while_w (fun m => Ih fun r => ∃ (kk : Kl) (a : Nat) (z13 z14 : Option Sv), Bf.Fin (leapsT bd) kk a l ∧ a ≤ kk.length ∧ m + a = l.length ∧ r = [s0, some (.dat true (d)), some (.dat false (.int (h : Nat))), some (.dat false (.int (w : Nat))), some (.dat false (.int top)), some (.dat false (.int left)), some (.dat false (.tuple (bd.map e))), z7, none, some (.dat false (.tuple (st.map e))), none, some (.dat true (.list ((Bf.keys kk).map e))), some (.dat false (.int (a : Nat))), z13, z14, none, none, none, none, none, none, none, none]) ?_ 1000000 l.length _ (by omega) ⟨[(st, [])], 0, none, none, hl.fin, by simp, by simp, rfl⟩
      rintro m _ ⟨kk, a, z13, z14, hf, ha, hma, rfl⟩
      obtain ⟨j, ej⟩ := fin_pre hf
      have hkl : kk.length ≤ l.length := by rw [ej, List.length_append]; omega
      simp [Bf.keys_len]
      refine ⟨fun hlt => ?_, fun hlt => ?_⟩
      · obtain ⟨t, ht, hf2⟩ := hf.next_ hlt
        have htk : t ∈ Bf.keys kk := List.mem_of_getElem? ht
        have hti : St bd t := hl.inv t (by rw [ej, Bf.keys_app]; exact List.mem_append_left _ htk)
        obtain ⟨j2, ej2⟩ := fin_pre hf2
        have r16t : run prg (n + 19) 16 [.val (.tuple (bd.map e)), .val (e t)] = .ok true (.list ((leapsT bd t).map e)) [] := r16 t hti
        simp [ht, s16, r16t]
        refine cutT (Ih fun r => ∃ z13 z14 : Option Sv, r = [s0, some (.dat true (d)), some (.dat false (.int (h : Nat))), some (.dat false (.int (w : Nat))), some (.dat false (.int top)), some (.dat false (.int left)), some (.dat false (.tuple (bd.map e))), z7, none, some (.dat false (.tuple (st.map e))), none, some (.dat true (.list ((Bf.keys (Bf.grow (leapsT bd) kk t)).map e))), some (.dat false (.int (a : Nat))), z13, z14, none, none, none, none, none, none, none, none])
          (for_w (e : Mv → D) (fun rem => Ih fun r => ∃ done, leapsT bd t = done ++ rem ∧ ∃ z13 z14 : Option Sv, r = [s0, some (.dat true (d)), some (.dat false (.int (h : Nat))), some (.dat false (.int (w : Nat))), some (.dat false (.int top)), some (.dat false (.int left)), some (.dat false (.tuple (bd.map e))), z7, none, some (.dat false (.tuple (st.map e))), none, some (.dat true (.list ((Bf.keys (done.foldl (Bf.put1 (Bf.look kk t)) kk)).map e))), some (.dat false (.int (a : Nat))), z13, z14, none, none, none, none, none, none, none, none]) ?_ ?_ (leapsT bd t) _ ⟨[], rfl, z13, z14, rfl⟩) ?_
        · rintro ⟨x1, x2⟩ rem _ ⟨done, hd, z13, z14, rfl⟩
          refine ⟨_, (by rw [e_pair]; simp; rfl), ?_⟩
          have hnext : leapsT bd t = (done ++ [(x1, x2)]) ++ rem := by rw [hd]; simp
          have hpx : (done ++ [(x1, x2)]).foldl (Bf.put1 (Bf.look kk t)) kk = Bf.put1 (Bf.look kk t) (done.foldl (Bf.put1 (Bf.look kk t)) kk) (x1, x2) := by rw [List.foldl_append]; rfl
          obtain ⟨j4, ej4, _⟩ := Bf.fold_pre (Bf.look kk t) ((x1, x2) :: rem) (done.foldl (Bf.put1 (Bf.look kk t)) kk)
          have hfull : Bf.grow (leapsT bd) kk t = ((x1, x2) :: rem).foldl (Bf.put1 (Bf.look kk t)) (done.foldl (Bf.put1 (Bf.look kk t)) kk) := by
            unfold Bf.grow; rw [hd, List.foldl_append]
          have hlen : (done.foldl (Bf.put1 (Bf.look kk t)) kk).length ≤ l.length := by
            have h1 : l.length = (Bf.grow (leapsT bd) kk t).length + j2.length := by rw [ej2, List.length_append]
            have h2 : (Bf.grow (leapsT bd) kk t).length = (done.foldl (Bf.put1 (Bf.look kk t)) kk).length + j4.length := by rw [hfull, ej4, List.length_append]
            omega
          generalize done.foldl (Bf.put1 (Bf.look kk t)) kk = k3 at hpx hlen
          have hin : inD (e x2) (.list ((Bf.keys k3).map e)) = some (decide (x2 ∈ Bf.keys k3)) := inD_lx (α := List Cell) (by decide) x2 (Bf.keys k3)
          by_cases hx : x2 ∈ Bf.keys k3
          · rw [Bf.put1, if_pos hx] at hpx
            simp [hin, hx]
            exact ⟨done ++ [(x1, x2)], hnext, _, _, by rw [hpx]⟩
          · rw [Bf.put1, if_neg hx] at hpx
            have hma := mut_append (xs := (Bf.keys k3).map e) (y := (e x2 : D)) (by rw [List.length_map, Bf.keys_len]; omega)
            simp [hin, hx, hma]
            have hv : (Bf.keys (k3 ++ [(x2, Bf.look kk t ++ [x1])])).map (e : List Cell → D) = (Bf.keys k3).map e ++ [e x2] := by rw [Bf.keys_app, List.map_append]; rfl
            exact ⟨done ++ [(x1, x2)], hnext, _, _, by rw [hpx, hv]⟩
        · rintro r ⟨done, hd, z13, z14, rfl⟩
          simp at hd
          subst hd
          exact ⟨z13, z14, rfl⟩
        · rintro _ ⟨z13, z14, rfl⟩
          simp
          obtain ⟨j6, ej6, _⟩ := Bf.grow_pre (st := leapsT bd) kk t
          exact ⟨m - 1, by omega, Bf.grow (leapsT bd) kk t, a + 1, z13, z14, hf2, by rw [ej6, List.length_append]; omega, by omega, rfl⟩
      · have : a = kk.length := by omega
        subst this
        have := hf.end_
        subst this
        exact ⟨_, _, rfl⟩
end P14

set_option Elab.async false
set_option linter.all false
set_option maxRecDepth 100000
set_option maxHeartbeats 4000000
namespace P14
open PySem L2 E2 Lb
open Enc (e)
open Pg
theorem sli_60 (xs : List D) : sliD (.list xs) none (some 60) = some (true, .list (xs.take 60)) := by
  show some (true, PyData.list (cutD xs none (some ((60 : Nat) : Int)))) = _
  unfold cutD
  rw [HT.sIx_nat, HT.sIx_none, List.drop_zero, Nat.sub_zero]
  by_cases h : 60 ≤ xs.length
  · rw [Nat.min_eq_left h]
  · rw [Nat.min_eq_right (by omega), List.take_of_length_le (Nat.le_refl _), List.take_of_length_le (by omega)]
/-- what the second part leans on -/
structure Ctx (n : Nat) (bd st : List Cell) (l : Kl) : Prop where
  hb : Row bd
  hst : St bd st
  hl : Bf.All (leapsT bd) (fun s => St bd s ∧ kindT s = kindT st) st l
  hl' : Bf.All (leapsT bd) (St bd) st l
  hB : l.length ≤ 1024
theorem Ctx.mk' (n : Nat) {bd st : List Cell} (hb : Row bd) (hlen : bd.length ≤ 10) (hst : St bd st) : ∃ l, Ctx n bd st l := by
  obtain ⟨l, hl⟩ := Bf.all_ex (W := Cell × Cell) (st := leapsT bd) (inv := fun s => St bd s ∧ kindT s = kindT st) (s0 := st) (fun s hs x hx => ⟨hs.1.step x hx, (kind_step hs.1 x hx).trans hs.2⟩) ⟨hst, rfl⟩ (B := 1024) fun k nd hk => St.few hb.asc hlen k nd fun s hs => (hk s hs).1
  refine ⟨l, hb, hst, hl, ⟨hl.fin, hl.nd, fun s hs => (hl.inv s hs).1, hl.h0, hl.cl, hl.lv⟩, ?_⟩
  rw [← Bf.keys_len]
  exact St.few hb.asc hlen _ hl.nd fun s hs => (hl.inv s hs).1
/-- statements 10 to 12 -/
theorem kinds_ok (n : Nat) (s0 : Option Sv) {d : D} {h w : Nat} {top left : Int} {bd st : List Cell} {z7 z13 z14 : Option Sv} {l : Kl} (C : Ctx n bd st l) {P : Pt}
    (hs : ∀ z10 z15, (evSs (prg.gs (run prg (n + 19))) (stm 13 lawB) [s0, some (.dat true (d)), some (.dat false (.int (h : Nat))), some (.dat false (.int (w : Nat))), some (.dat false (.int top)), some (.dat false (.int left)), some (.dat false (.tuple (bd.map e))), z7, none, some (.dat false (.tuple (st.map e))), z10, some (.dat true (.list ((Bf.keys l).map e))), some (.dat false (.int (l.length : Nat))), z13, z14, z15, none, none, none, none, none, none, none]).w P) : (evSs (prg.gs (run prg (n + 19))) (stm 10 lawB) [s0, some (.dat true (d)), some (.dat false (.int (h : Nat))), some (.dat false (.int (w : Nat))), some (.dat false (.int top)), some (.dat false (.int left)), some (.dat false (.tuple (bd.map e))), z7, none, some (.dat false (.tuple (st.map e))), none, some (.dat true (.list ((Bf.keys l).map e))), some (.dat false (.int (l.length : Nat))), z13, z14, none, none, none, none, none, none, none, none]).w P := by
  have hb := C.hb
  have hst := C.hst
  have s6 := @sig_at prg 6 _ rfl
  have s7 := @sig_at prg 7 _ rfl
  have s9 := @sig_at prg 9 _ rfl
  have s15 := @sig_at prg 15 _ rfl
  have s17 := @sig_at prg 17 _ rfl
  have r9 : run prg (n + 19) 9 [.val (.tuple (bd.map e)), .val (.tuple (st.map e))] = .ok false (.tuple ((Bf.keys l).map e)) [] := c_reached hb hst C.hl' C.hB (n + 11)
  have hkl : (Bf.keys l).length ≤ 1024 := by rw [Bf.keys_len]; exact C.hB
  have rs := same_state (n := n) (d := .tuple ((Bf.keys l).map e)) (m := 3) (okD_map (by omega) fun t ht => ok_state (St.row hb (C.hl.inv t ht).1).len) (by omega)
  have r17 : ∀ t : List Cell, t.length ≤ 40 → run prg (n + 19) 17 [.val (e t)] = .ok false (tn (kindT t)) [] := fun t ht => c_lkind ht (n + 18)
  have r17s : run prg (n + 19) 17 [.val (.tuple (st.map e))] = .ok false (tn (kindT st)) [] := c_lkind (St.row hb hst).len (n + 18)
  have r7 : ∀ t : List Cell, Row t → run prg (n + 19) 7 [.val (e t)] = .ok false (tn (kindT t)) [] := fun t ht => c_kind ht (n + 15)
  have rk : ∀ t : List Cell, run prg (n + 19) 15 [.val (tn (kindT t)), .val (tn (kindT t))] = .ok false (.bool true) [] := fun t => same_state (okD_tn (by simp [kindT])) (by omega)
  refine cutS (fun r => r = [s0, some (.dat true (d)), some (.dat false (.int (h : Nat))), some (.dat false (.int (w : Nat))), some (.dat false (.int top)), some (.dat false (.int left)), some (.dat false (.tuple (bd.map e))), z7, none, some (.dat false (.tuple (st.map e))), none, some (.dat true (.list ((Bf.keys l).map e))), some (.dat false (.int (l.length : Nat))), z13, z14, none, none, none, none, none, none, none, none]) ?_ ?_
  · simp [s9, s15, r9, rs]
  · rintro _ rfl
    refine cutS (Ih fun r => ∃ z15 : Option Sv, r = [s0, some (.dat true (d)), some (.dat false (.int (h : Nat))), some (.dat false (.int (w : Nat))), some (.dat false (.int top)), some (.dat false (.int left)), some (.dat false (.tuple (bd.map e))), z7, none, some (.dat false (.tuple (st.map e))), none, some (.dat true (.list ((Bf.keys l).map e))), some (.dat false (.int (l.length : Nat))), z13, z14, z15, none, none, none, none, none, none, none]) ?_ ?_
    · simp [sli_60]
      rw [← List.map_take]
      refine for_w (e : List Cell → D) (fun rem => Ih fun r => (∀ t ∈ rem, t ∈ Bf.keys l) ∧ ∃ z15 : Option Sv, r = [s0, some (.dat true (d)), some (.dat false (.int (h : Nat))), some (.dat false (.int (w : Nat))), some (.dat false (.int top)), some (.dat false (.int left)), some (.dat false (.tuple (bd.map e))), z7, none, some (.dat false (.tuple (st.map e))), none, some (.dat true (.list ((Bf.keys l).map e))), some (.dat false (.int (l.length : Nat))), z13, z14, z15, none, none, none, none, none, none, none]) ?_ ?_ ((Bf.keys l).take 60) _ ⟨fun t ht => List.mem_of_mem_take ht, none, rfl⟩
      · rintro t rem _ ⟨hrem, z15, rfl⟩
        refine ⟨_, (by simp; rfl), ?_⟩
        have ht := C.hl.inv t (hrem t List.mem_cons_self)
        have htr := St.row hb ht.1
        have hkk := rk t
        rw [ht.2] at hkk
        have h17 := r17 t htr.len
        have h7 := r7 t htr
        rw [ht.2] at h17 h7
        simp [s7, s15, s17, h7, h17, r17s, hkk]
        exact ⟨fun u hu => hrem u (List.mem_cons_of_mem _ hu), _, rfl⟩
      · rintro r ⟨_, z15, rfl⟩
        exact ⟨z15, rfl⟩
    · rintro _ ⟨z15, rfl⟩
      refine cutS (Ih fun r => ∃ z10 : Option Sv, r = [s0, some (.dat true (d)), some (.dat false (.int (h : Nat))), some (.dat false (.int (w : Nat))), some (.dat false (.int top)), some (.dat false (.int left)), some (.dat false (.tuple (bd.map e))), z7, none, some (.dat false (.tuple (st.map e))), z10, some (.dat true (.list ((Bf.keys l).map e))), some (.dat false (.int (l.length : Nat))), z13, z14, z15, none, none, none, none, none, none, none]) ?_ fun r ⟨z10, hr⟩ => by subst hr; exact hs z10 z15
      simp
      refine for_w (e : Cell → D) (fun rem => Ih fun r => ∃ z10 : Option Sv, r = [s0, some (.dat true (d)), some (.dat false (.int (h : Nat))), some (.dat false (.int (w : Nat))), some (.dat false (.int top)), some (.dat false (.int left)), some (.dat false (.tuple (bd.map e))), z7, none, some (.dat false (.tuple (st.map e))), z10, some (.dat true (.list ((Bf.keys l).map e))), some (.dat false (.int (l.length : Nat))), z13, z14, z15, none, none, none, none, none, none, none]) ?_ ?_ bd _ ⟨none, rfl⟩
      · rintro c rem _ ⟨z10, rfl⟩
        refine ⟨_, (by simp; rfl), ?_⟩
        have q0 : run prg (n + 19) 6 [.val (e c), .val (.int 0)] = .ok false (.int (col 0 c)) [] := colour_ok (P := prg) (kq := 6) rfl 0 c (n + 18)
        have q1 : run prg (n + 19) 6 [.val (e c), .val (.int 1)] = .ok false (.int (col 1 c)) [] := colour_ok (P := prg) (kq := 6) rfl 1 c (n + 18)
        have i0 : idxD (e c) (.int 0) = some (.int c.1) := rfl
        have i1 : idxD (e c) (.int 1) = some (.int c.2) := rfl
        have c0 : (c.1 + c.2) % 3 = col 0 c := rfl
        have c1 : (c.1 - c.2) % 3 = col 1 c := rfl
        have q2 : run prg (n + 19) 15 [.val (.list [.int (col 0 c), .int (col 1 c)]), .val (.list [.int (col 0 c), .int (col 1 c)])] = .ok false (.bool true) [] := same_state (m := 1) (by simp [okD]) (by omega)
        simp [s6, s15, q0, q1, i0, i1, bin_mod, c0, c1, q2]
        exact ⟨_, rfl⟩
      · exact fun r h => h
/-- statements 13 to 18 -/
theorem ends_ok' (n : Nat) (s0 : Option Sv) {d : D} {h w : Nat} {top left : Int} {bd st : List Cell} {z7 z10 z13 z14 z15 : Option Sv} {l : Kl} (C : Ctx n bd st l) {P : Pt}
    (hs : ∀ z16 z17 z18, (evSs (prg.gs (run prg (n + 19))) (stm 19 lawB) [s0, some (.dat true (d)), some (.dat false (.int (h : Nat))), some (.dat false (.int (w : Nat))), some (.dat false (.int top)), some (.dat false (.int left)), some (.dat false (.tuple (bd.map e))), z7, none, some (.dat false (.tuple (st.map e))), z10, some (.dat false (.list ((Bf.keys l).map e))), some (.dat false (.int (l.length : Nat))), z13, z14, z15, z16, z17, z18, none, none, none, none]).w P) : (evSs (prg.gs (run prg (n + 19))) (stm 13 lawB) [s0, some (.dat true (d)), some (.dat false (.int (h : Nat))), some (.dat false (.int (w : Nat))), some (.dat false (.int top)), some (.dat false (.int left)), some (.dat false (.tuple (bd.map e))), z7, none, some (.dat false (.tuple (st.map e))), z10, some (.dat true (.list ((Bf.keys l).map e))), some (.dat false (.int (l.length : Nat))), z13, z14, z15, none, none, none, none, none, none, none]).w P := by
  have hb := C.hb
  have hst := C.hst
  have hsr := St.row hb hst
  have hbl := hb.len
  have s5 := @sig_at prg 5 _ rfl
  have s8 := @sig_at prg 8 _ rfl
  have s10 := @sig_at prg 10 _ rfl
  have s11 := @sig_at prg 11 _ rfl
  have s15 := @sig_at prg 15 _ rfl
  have s17 := @sig_at prg 17 _ rfl
  have hkl : (Bf.keys l).length ≤ 1024 := by rw [Bf.keys_len]; exact C.hB
  have r17s : run prg (n + 19) 17 [.val (.tuple (st.map e))] = .ok false (tn (kindT st)) [] := c_lkind hsr.len (n + 18)
  have r17c : ∀ c : Cell, run prg (n + 19) 17 [.val (.tuple [e c])] = .ok false (tn (kindT [c])) [] := fun c => c_lkind (s := [c]) (by simp) (n + 18)
  obtain ⟨en, hen⟩ : ∃ en, en = bd.filter fun c => decide (kindT [c] = kindT st) := ⟨_, rfl⟩
  have r8 : run prg (n + 19) 8 [.val (.tuple (bd.map e)), .val (.tuple (st.map e))] = .ok false (.tuple (en.map e)) [] := by rw [hen]; exact c_ends hb hst (n + 14)
  have hel : en.length ≤ 40 := by rw [hen]; exact Nat.le_trans (List.length_filter_le _ _) hbl
  have rsE : run prg (n + 19) 15 [.val (.tuple (en.map e)), .val (.tuple (en.map e))] = .ok false (.bool true) [] := same_state (ok_state hel) (by omega)
  refine cutS (fun r => r = [s0, some (.dat true (d)), some (.dat false (.int (h : Nat))), some (.dat false (.int (w : Nat))), some (.dat false (.int top)), some (.dat false (.int left)), some (.dat false (.tuple (bd.map e))), z7, none, some (.dat false (.tuple (st.map e))), z10, some (.dat true (.list ((Bf.keys l).map e))), some (.dat false (.int (l.length : Nat))), z13, z14, z15, some (.dat true (.list (en.map e))), none, none, none, none, none, none]) ?_ ?_
  · simp
    refine lc_w (e : Cell → D) (fun c => decide (kindT [c] = kindT st)) (e : Cell → D) bd ?_ ?_ ?_ ?_
    · simp
    · omega
    · intro c hc
      refine ⟨_, (by simp; rfl), ?_⟩
      simp [s17, r17c, r17s]
    · rw [← hen]
      simp
  · rintro _ rfl
    refine cutS (fun r => r = [s0, some (.dat true (d)), some (.dat false (.int (h : Nat))), some (.dat false (.int (w : Nat))), some (.dat false (.int top)), some (.dat false (.int left)), some (.dat false (.tuple (bd.map e))), z7, none, some (.dat false (.tuple (st.map e))), z10, some (.dat false (.list ((Bf.keys l).map e))), some (.dat false (.int (l.length : Nat))), z13, z14, z15, some (.dat true (.list (en.map e))), none, none, none, none, none, none]) ?_ ?_
    · simp [s8, s15, r8, rsE]
      refine lc_w1 [s0, some (.dat true (d)), some (.dat false (.int (h : Nat))), some (.dat false (.int (w : Nat))), some (.dat false (.int top)), some (.dat false (.int left)), some (.dat false (.tuple (bd.map e))), z7, none, some (.dat false (.tuple (st.map e))), z10, some (.dat false (.list ((Bf.keys l).map e))), some (.dat false (.int (l.length : Nat))), z13, z14, z15, some (.dat true (.list (en.map e))), none, none, none, none, none, none] (e : List Cell → D) (fun _ => false) (e : List Cell → D) (Bf.keys l) ?_ ?_ ?_ ?_
      · simp
      · omega
      · intro t ht
        refine ⟨_, (by simp; rfl), ?_⟩
        have hti := C.hl.inv t ht
        have hlen : bltD .len [e t] = some (false, .int t.length) := by rw [e_list, blt_len_tuple, List.length_map]
        simp [hlen]
        intro h1
        obtain ⟨c, rfl⟩ : ∃ c, t = [c] := by
          match t, h1 with
          | [c], _ => exact ⟨c, rfl⟩
          | [], h1 => simp at h1
          | _ :: _ :: _, h1 => simp at h1; omega
        have i0 : idxD (e [c]) (.int 0) = some (e c) := rfl
        have hce : c ∈ en := by
          rw [hen, List.mem_filter]
          exact ⟨hti.1.sub c (by simp), decide_eq_true hti.2⟩
        have hin : inD (e c) (.list (en.map e)) = some (decide (c ∈ en)) := inD_lx (α := Cell) (by decide) c en
        simp [i0, hin, hce]
      · simp
    · rintro _ rfl
      refine cutS (fun r => r = [s0, some (.dat true (d)), some (.dat false (.int (h : Nat))), some (.dat false (.int (w : Nat))), some (.dat false (.int top)), some (.dat false (.int left)), some (.dat false (.tuple (bd.map e))), z7, none, some (.dat false (.tuple (st.map e))), z10, some (.dat false (.list ((Bf.keys l).map e))), some (.dat false (.int (l.length : Nat))), z13, z14, z15, some (.dat true (.list (en.map e))), some (.dat false (dn (fewT (Bf.keys l)))), none, none, none, none, none]) ?_ ?_
      · simp
        refine lcN_w (e : List Cell → D) (fun t => PyData.int (t.length : Nat)) (Bf.keys l) ?_ ?_ ?_ ?_
        · simp
        · omega
        · intro t ht
          refine ⟨_, (by simp; rfl), ?_⟩
          refine ⟨rfl, ?_⟩
          have hlen : bltD .len [e t] = some (false, .int t.length) := by rw [e_list, blt_len_tuple, List.length_map]
          simp [hlen]
        · simp [blt_few (List.ne_nil_of_mem C.hl.h0)]
      · rintro _ rfl
        have r10 : run prg (n + 19) 10 [.val (.tuple (bd.map e)), .val (.tuple (st.map e))] = .ok false (.tuple [dn (fewT (Bf.keys l)), .tuple ((leastT (Bf.keys l)).map e)]) [] := c_fewest hb hst C.hl' C.hB (n + 10)
        have hnd : ((Bf.keys l).filter fun t => decide (t.length = fewT (Bf.keys l))).Nodup := C.hl.nd.filter _
        have hsort : bltD .sorted [.list (((Bf.keys l).filter fun t => decide (t.length = fewT (Bf.keys l))).map e)] = some (true, .list ((leastT (Bf.keys l)).map e)) :=
          blt_sorted_e (kind_len (m := fewT (Bf.keys l)) hnd fun a ha => by simpa using (List.mem_filter.mp ha).2) (by decide) (Nat.le_trans (List.length_filter_le _ _) (by omega))
        have hll : (leastT (Bf.keys l)).length ≤ 1024 := by
          unfold leastT
          rw [sortE_len]
          exact Nat.le_trans (List.length_filter_le _ _) hkl
        have rsF : run prg (n + 19) 15 [.val (.tuple [dn (fewT (Bf.keys l)), .tuple ((leastT (Bf.keys l)).map e)]), .val (.tuple [dn (fewT (Bf.keys l)), .tuple ((leastT (Bf.keys l)).map e)])] = .ok false (.bool true) [] := same_state (m := 4) (okD_pair rfl (okD_map (by omega) fun t ht => ok_state (St.row hb (C.hl.inv t (List.mem_filter.mp (sortE_mem.mp ht)).1).1).len)) (by omega)
        refine cutS (fun r => r = [s0, some (.dat true (d)), some (.dat false (.int (h : Nat))), some (.dat false (.int (w : Nat))), some (.dat false (.int top)), some (.dat false (.int left)), some (.dat false (.tuple (bd.map e))), z7, none, some (.dat false (.tuple (st.map e))), z10, some (.dat false (.list ((Bf.keys l).map e))), some (.dat false (.int (l.length : Nat))), z13, z14, z15, some (.dat true (.list (en.map e))), some (.dat false (dn (fewT (Bf.keys l)))), none, none, none, none, none]) ?_ ?_
        · simp [s10, r10]
          refine lc_w (e : List Cell → D) (fun t => decide (t.length = fewT (Bf.keys l))) (e : List Cell → D) (Bf.keys l) ?_ ?_ ?_ ?_
          · simp
          · omega
          · intro t ht
            refine ⟨_, (by simp; rfl), ?_⟩
            have hlen : bltD .len [e t] = some (false, .int t.length) := by rw [e_list, blt_len_tuple, List.length_map]
            simp [hlen]
            omega
          · simp [hsort, s15, rsF]
        · rintro _ rfl
          have hfl : bltD .sorted [.list (bd.map fun c => e (fl c))] = some (true, .list ((flipB bd).map e)) := by
            have := blt_sorted_e (kind_pair (bd.map fl)) (by decide) (by rw [List.length_map]; omega)
            rw [List.map_map] at this
            exact this
          refine cutS (fun r => r = [s0, some (.dat true (d)), some (.dat false (.int (h : Nat))), some (.dat false (.int (w : Nat))), some (.dat false (.int top)), some (.dat false (.int left)), some (.dat false (.tuple (bd.map e))), z7, none, some (.dat false (.tuple (st.map e))), z10, some (.dat false (.list ((Bf.keys l).map e))), some (.dat false (.int (l.length : Nat))), z13, z14, z15, some (.dat true (.list (en.map e))), some (.dat false (dn (fewT (Bf.keys l)))), some (.dat false (.tuple ((flipB bd).map e))), none, none, none, none]) ?_ ?_
          · simp
            refine lcN_w (e : Cell → D) (fun c => e (fl c)) bd ?_ ?_ ?_ ?_
            · simp
            · omega
            · rintro ⟨a, b⟩ hc
              refine ⟨_, (by rw [e_pair]; simp; rfl), ?_⟩
              refine ⟨rfl, ?_⟩
              simp
              rfl
            · simp [hfl]
          · rintro _ rfl
            have r11 : run prg (n + 19) 11 [.val (.tuple (bd.map e))] = .ok false (.tuple ((flipB bd).map e)) [] := c_turned hb (n + 15)
            have r11s : run prg (n + 19) 11 [.val (.tuple (st.map e))] = .ok false (.tuple ((flipB st).map e)) [] := c_turned hsr (n + 15)
            have r5 : run prg (n + 19) 5 [.val (.tuple (bd.map e)), .val (.tuple (st.map e))] = .ok false (.tuple ((leapsT bd st).map e)) [] := c_leaps hb hst (n + 14)
            have r5f : run prg (n + 19) 5 [.val (.tuple ((flipB bd).map e)), .val (.tuple ((flipB st).map e))] = .ok false (.tuple ((leapsT (flipB bd) (flipB st)).map e)) [] := c_leaps (row_flip hb) (st_flip hst) (n + 14)
            have rsG : run prg (n + 19) 15 [.val (.tuple ((flipB bd).map e)), .val (.tuple ((flipB bd).map e))] = .ok false (.bool true) [] := same_state (ok_state (row_flip hb).len) (by omega)
            refine cutS (fun r => r = [s0, some (.dat true (d)), some (.dat false (.int (h : Nat))), some (.dat false (.int (w : Nat))), some (.dat false (.int top)), some (.dat false (.int left)), some (.dat false (.tuple (bd.map e))), z7, none, some (.dat false (.tuple (st.map e))), z10, some (.dat false (.list ((Bf.keys l).map e))), some (.dat false (.int (l.length : Nat))), z13, z14, z15, some (.dat true (.list (en.map e))), some (.dat false (dn (fewT (Bf.keys l)))), some (.dat false (.tuple ((flipB bd).map e))), none, none, none, none]) ?_ ?_
            · simp [s11, s15, s5, r11, r11s, r5, r5f, rsG, leaps_flip]
            · rintro _ rfl
              exact hs _ _ _
end P14

set_option Elab.async false
set_option linter.all false
set_option maxRecDepth 100000
set_option maxHeartbeats 4000000
namespace P14
open PySem L2 E2 Lb
open Enc (e)
open Pg
def wordsW : List D := [.str (Str.ofString "plan"), .str (Str.ofString "state"), .str (Str.ofString "state"), .str (Str.ofString "state")]
theorem nears {n : Nat} {bd : List Cell} (hb : Row bd) (h50 : ∀ c ∈ bd, c.1 < 50) {v x2 : D} (hv : v ∈ bads) (hx : x2 = .none ∨ ∃ xs, x2 = .list xs) : ∀ y ∈ [.none, .tuple [.tuple [.int 50, .int 50]], x2, v], run prg (n + 19) 5 [.val (.tuple (bd.map e)), .val y] = .exc ⟨1, []⟩ [] := by
  intro y hy
  have hbc := c_cells hb (n + 14)
  simp only [List.mem_cons, List.not_mem_nil, or_false] at hy
  have hnn : run prg (n + 17) 3 [.val .none] = .ok false (.bool false) [] := bad_cells (n + 14) .none (by simp [bads])
  rcases hy with rfl | rfl | rfl | rfl
  · exact leaps_exc (n := n + 14) (look_state hbc hnn)
  · exact leaps_exc (n := n + 14) (look_far hb (fun q => by have := h50 _ q; simp at this) (n + 14))
  · rcases hx with rfl | ⟨xs, rfl⟩
    · exact leaps_exc (n := n + 14) (look_state hbc hnn)
    · exact leaps_exc (n := n + 14) (look_state hbc (list_cells (n + 14) xs))
  · exact leaps_exc (n := n + 14) (look_state hbc (bad_cells (n + 14) _ hv))
/-- statements 19 and 20 -/
theorem words_ok (n : Nat) (s0 : Option Sv) {d : D} {h w : Nat} {top left : Int} {bd st : List Cell} {z7 z10 z13 z14 z15 z16 z17 z18 : Option Sv} {l : Kl} (hd : Dr d) (hb : Row bd) (h50 : ∀ c ∈ bd, c.1 < 50) {P : Pt}
    (hs : ∀ d z20 z21, Dr d → (evSs (prg.gs (run prg (n + 19))) (stm 21 lawB) [s0, some (.dat true (d)), some (.dat false (.int (h : Nat))), some (.dat false (.int (w : Nat))), some (.dat false (.int top)), some (.dat false (.int left)), some (.dat false (.tuple (bd.map e))), z7, none, some (.dat false (.tuple (st.map e))), z10, some (.dat false (.list ((Bf.keys l).map e))), some (.dat false (.int (l.length : Nat))), z13, z14, z15, z16, z17, z18, some (.dat true (.list (wordsW.take 4))), z20, z21, none]).w P) : (evSs (prg.gs (run prg (n + 19))) (stm 19 lawB) [s0, some (.dat true (d)), some (.dat false (.int (h : Nat))), some (.dat false (.int (w : Nat))), some (.dat false (.int top)), some (.dat false (.int left)), some (.dat false (.tuple (bd.map e))), z7, none, some (.dat false (.tuple (st.map e))), z10, some (.dat false (.list ((Bf.keys l).map e))), some (.dat false (.int (l.length : Nat))), z13, z14, z15, z16, z17, z18, none, none, none, none]).w P := by
  have s5 := @sig_at prg 5 _ rfl
  have s7 := @sig_at prg 7 _ rfl
  have s11 := @sig_at prg 11 _ rfl
  have s14 := @sig_at prg 14 _ rfl
  have u22 : ∀ c, (prg.gs c).sub 2 2 = some true := fun _ => rfl
  have u12 : ∀ c, (prg.gs c).sub 1 2 = some false := fun _ => rfl
  have u11 : ∀ c, (prg.gs c).sub 1 1 = some true := fun _ => rfl
  have hr41 : rngD [.int 41] = some ((List.range 41).map dn) := rngD_one (n := 41) (by decide)
  have hr4 : rngD [.int 4] = some ((List.range 4).map dn) := rngD_one (n := 4) (by decide)
  refine cutS (fun r => r = [s0, some (.dat true (d)), some (.dat false (.int (h : Nat))), some (.dat false (.int (w : Nat))), some (.dat false (.int top)), some (.dat false (.int left)), some (.dat false (.tuple (bd.map e))), z7, none, some (.dat false (.tuple (st.map e))), z10, some (.dat false (.list ((Bf.keys l).map e))), some (.dat false (.int (l.length : Nat))), z13, z14, z15, z16, z17, z18, some (.dat true (.list [])), none, none, none]) ?_ ?_
  · simp
  · rintro _ rfl
    refine cutS (Ih fun r => ∃ (d : D) (z20 z21 : Option Sv), Dr d ∧ r = [s0, some (.dat true (d)), some (.dat false (.int (h : Nat))), some (.dat false (.int (w : Nat))), some (.dat false (.int top)), some (.dat false (.int left)), some (.dat false (.tuple (bd.map e))), z7, none, some (.dat false (.tuple (st.map e))), z10, some (.dat false (.list ((Bf.keys l).map e))), some (.dat false (.int (l.length : Nat))), z13, z14, z15, z16, z17, z18, some (.dat true (.list (wordsW.take 4))), z20, z21, none]) ?_ fun r ⟨d, z20, z21, hd, hr⟩ => by subst hr; exact hs d z20 z21 hd
    simp [hr4]
    refine for_w dn (fun rem => Ih fun r => ∃ (done : List Nat) (d : D) (z20 z21 : Option Sv), List.range 4 = done ++ rem ∧ Dr d ∧ r = [s0, some (.dat true (d)), some (.dat false (.int (h : Nat))), some (.dat false (.int (w : Nat))), some (.dat false (.int top)), some (.dat false (.int left)), some (.dat false (.tuple (bd.map e))), z7, none, some (.dat false (.tuple (st.map e))), z10, some (.dat false (.list ((Bf.keys l).map e))), some (.dat false (.int (l.length : Nat))), z13, z14, z15, z16, z17, z18, some (.dat true (.list (wordsW.take done.length))), z20, z21, none]) ?_ ?_ (List.range 4) _ ⟨[], d, none, none, rfl, hd, rfl⟩
    · rintro turn rem _ ⟨done, d, z20, z21, hr, hd, rfl⟩
      obtain ⟨hturn, hrl⟩ := range_split hr
      have hnext : List.range 4 = (done ++ [turn]) ++ rem := by rw [hr]; simp
      refine ⟨_, rfl, ?_⟩
      obtain ⟨v, d1, hv, e1, hd1⟩ := pick_ok (P := prg) (k := 14) (kd := 13) rfl rfl hd (row := bads) (by simp [bads]) (by simp [bads]) (n + 17)
      have e1 : run prg (n + 19) 14 [.rf d, .val (.list [.none, .list [.tuple [.int 0, .int 0]], .tuple [.tuple [.int 0]], .tuple [.tuple [.int 0, .bool true]], .tuple [.tuple [.int 0, .int 51]], .tuple [.tuple [.int 1, .int 0], .tuple [.int 0, .int 0]], .tuple [.tuple [.int 0, .int 0], .tuple [.int 0, .int 0]], .tuple ((List.range 41).map fun k => .tuple [.int 0, dn k]), .tuple [.int 0]])] = .ok false v [d1] := e1
      refine cutS (fun r => r = [s0, some (.dat true (d1)), some (.dat false (.int (h : Nat))), some (.dat false (.int (w : Nat))), some (.dat false (.int top)), some (.dat false (.int left)), some (.dat false (.tuple (bd.map e))), z7, none, some (.dat false (.tuple (st.map e))), z10, some (.dat false (.list ((Bf.keys l).map e))), some (.dat false (.int (l.length : Nat))), z13, z14, z15, z16, z17, z18, some (.dat true (.list (wordsW.take done.length))), some (.dat false (dn turn)), some (.dat false (v)), none]) ?_ ?_
      · simp
        refine lcN_w dn (fun k => .tuple [.int 0, dn k]) (List.range 41) ?_ ?_ ?_ ?_
        · simp [hr41]
        · simp
        · intro k hk
          refine ⟨_, rfl, ?_⟩
          refine ⟨rfl, ?_⟩
          simp
        · simp [s14, e1]
      · rintro _ rfl
        have ht4 : turn < 4 := by omega
        have hlen : done.length = turn := hturn.symm
        have hfin : ∀ (d : D) (z20 z21 : Option Sv), Dr d → Ih (fun r => ∃ (done : List Nat) (d : D) (z20 z21 : Option Sv), List.range 4 = done ++ rem ∧ Dr d ∧ r = [s0, some (.dat true (d)), some (.dat false (.int (h : Nat))), some (.dat false (.int (w : Nat))), some (.dat false (.int top)), some (.dat false (.int left)), some (.dat false (.tuple (bd.map e))), z7, none, some (.dat false (.tuple (st.map e))), z10, some (.dat false (.list ((Bf.keys l).map e))), some (.dat false (.int (l.length : Nat))), z13, z14, z15, z16, z17, z18, some (.dat true (.list (wordsW.take done.length))), z20, z21, none]) [s0, some (.dat true (d)), some (.dat false (.int (h : Nat))), some (.dat false (.int (w : Nat))), some (.dat false (.int top)), some (.dat false (.int left)), some (.dat false (.tuple (bd.map e))), z7, none, some (.dat false (.tuple (st.map e))), z10, some (.dat false (.list ((Bf.keys l).map e))), some (.dat false (.int (l.length : Nat))), z13, z14, z15, z16, z17, z18, some (.dat true (.list (wordsW.take (turn + 1)))), z20, z21, none] := fun d z20 z21 hd => ⟨done ++ [turn], d, z20, z21, hnext, hd, by rw [List.length_append, List.length_singleton, hlen]⟩
        rw [hlen]
        clear hnext hrl hturn hr
        match turn, ht4 with
        | 0, _ =>
          have r5 : run prg (n + 19) 5 [.val v, .val (.tuple [])] = .exc ⟨2, []⟩ [] := leaps_exc (n := n + 14) (look_plan (bad_cells (n + 14) v hv))
          have := hfin d1 (some (.dat false (dn 0))) (some (.dat false v)) hd1
          have w1 : wordsW.take (0 + 1) = [.str (Str.ofString "plan")] := rfl
          rw [w1] at this
          simp [s5, r5, u22, this]
        | 1, _ =>
          have w0 : wordsW.take 1 = [.str (Str.ofString "plan")] := rfl
          have w1 : wordsW.take (1 + 1) = [.str (Str.ofString "plan"), .str (Str.ofString "state")] := rfl
          rw [w0]
          have i0 : ∀ (x : D) (xs : List D), idxD (.tuple (x :: xs)) (.int 0) = some x := fun x xs => by
            have := idxD_tuple (xs := x :: xs) (n := 0)
            simpa using this
          cases bd with
          | nil =>
            obtain ⟨v2, d2, hv2, e2, hd2⟩ := pick_ok (P := prg) (k := 14) (kd := 13) rfl rfl hd1 (row := [.none, .tuple [.tuple [.int 50, .int 50]], .none, v]) (by simp) (by simp) (n + 17)
            have e2 : run prg (n + 19) 14 [.rf d1, .val (.list [.none, .tuple [.tuple [.int 50, .int 50]], .none, v])] = .ok false v2 [d2] := e2
            have r5 := nears (n := n) hb h50 hv (x2 := .none) (.inl rfl) v2 hv2
            have := hfin d2 (some (.dat false (dn 1))) (some (.dat false v)) hd2
            rw [w1] at this
            simp at r5 this
            simp [s5, s14, e2, r5, u12, u11, this]
          | cons c bs =>
            obtain ⟨v2, d2, hv2, e2, hd2⟩ := pick_ok (P := prg) (k := 14) (kd := 13) rfl rfl hd1 (row := [.none, .tuple [.tuple [.int 50, .int 50]], .list [e c], v]) (by simp) (by simp) (n + 17)
            have e2 : run prg (n + 19) 14 [.rf d1, .val (.list [.none, .tuple [.tuple [.int 50, .int 50]], .list [e c], v])] = .ok false v2 [d2] := e2
            have r5 := nears (n := n) hb h50 hv (x2 := .list [e c]) (.inr ⟨_, rfl⟩) v2 hv2
            have := hfin d2 (some (.dat false (dn 1))) (some (.dat false v)) hd2
            rw [w1] at this
            have hpos : (0 : Int) < ((bs.length : Nat) : Int) + 1 := by omega
            simp at r5 this
            simp [s5, s14, e2, r5, u12, u11, this, hpos, i0]
        | 2, _ =>
          have r7 : run prg (n + 19) 7 [.val v] = .exc ⟨1, []⟩ [] := kind_exc (n := n + 15) (bad_cells (n + 15) v hv)
          have := hfin d1 (some (.dat false (dn 2))) (some (.dat false v)) hd1
          have w0 : wordsW.take 2 = [.str (Str.ofString "plan"), .str (Str.ofString "state")] := rfl
          have w1 : wordsW.take (2 + 1) = [.str (Str.ofString "plan"), .str (Str.ofString "state"), .str (Str.ofString "state")] := rfl
          rw [w1] at this
          rw [w0]
          simp [s7, r7, u12, u11, this]
        | 3, _ =>
          have r11 : run prg (n + 19) 11 [.val v] = .exc ⟨1, []⟩ [] := turned_exc (n := n + 15) (bad_cells (n + 15) v hv)
          have := hfin d1 (some (.dat false (dn 3))) (some (.dat false v)) hd1
          have w0 : wordsW.take 3 = [.str (Str.ofString "plan"), .str (Str.ofString "state"), .str (Str.ofString "state")] := rfl
          have w1 : wordsW.take (3 + 1) = [.str (Str.ofString "plan"), .str (Str.ofString "state"), .str (Str.ofString "state"), .str (Str.ofString "state")] := rfl
          rw [w1] at this
          rw [w0]
          simp [s11, r11, u12, u11, this]
    · rintro r ⟨done, d, z20, z21, hr, hd, rfl⟩
      have hdone : done.length = 4 := by
        have := congrArg List.length hr
        simp at this
        omega
      rw [hdone]
      exact ⟨d, z20, z21, hd, rfl⟩
theorem last_ok (n : Nat) (s0 : Option Sv) {d : D} {h w : Nat} {top left : Int} {bd st : List Cell} {z7 z10 z13 z14 z15 z16 z17 z18 z20 z21 : Option Sv} {l : Kl} (hd : Dr d) : (evSs (prg.gs (run prg (n + 19))) (stm 21 lawB) [s0, some (.dat true (d)), some (.dat false (.int (h : Nat))), some (.dat false (.int (w : Nat))), some (.dat false (.int top)), some (.dat false (.int left)), some (.dat false (.tuple (bd.map e))), z7, none, some (.dat false (.tuple (st.map e))), z10, some (.dat false (.list ((Bf.keys l).map e))), some (.dat false (.int (l.length : Nat))), z13, z14, z15, z16, z17, z18, some (.dat true (.list (wordsW.take 4))), z20, z21, none]).w Good1 := by
  have s3 := @sig_at prg 3 _ rfl
  have s14 := @sig_at prg 14 _ rfl
  obtain ⟨v, d1, hv, e1, hd1⟩ := pick_ok (P := prg) (k := 14) (kd := 13) rfl rfl hd (row := [.none, .list [.tuple [.int 0, .int 0]], .tuple [.tuple [.int 0, .int 51]], .tuple [.tuple [.int 1, .int 0], .tuple [.int 0, .int 0]]]) (by simp) (by simp) (n + 17)
  have e1 : run prg (n + 19) 14 [.rf d, .val (.list [.none, .list [.tuple [.int 0, .int 0]], .tuple [.tuple [.int 0, .int 51]], .tuple [.tuple [.int 1, .int 0], .tuple [.int 0, .int 0]]])] = .ok false v [d1] := e1
  have hvb : v ∈ bads := by
    simp only [List.mem_cons, List.not_mem_nil, or_false] at hv
    rcases hv with rfl | rfl | rfl | rfl <;> simp [bads]
  have r3 : run prg (n + 19) 3 [.val v] = .ok false (.bool false) [] := bad_cells (n + 16) v hvb
  have hw : wordsW.take 4 = wordsW := rfl
  have he : eqD (.list [.str (Str.ofString "plan"), .str (Str.ofString "state"), .str (Str.ofString "state"), .str (Str.ofString "state")]) (.list [.str (Str.ofString "plan"), .str (Str.ofString "state"), .str (Str.ofString "state"), .str (Str.ofString "state")]) = some true := by decide +kernel
  rw [hw]
  unfold wordsW
  refine cutS (fun _ => False) ?_ fun _ h => h.elim
  simp [he, s3, s14, e1, r3]
theorem law_n (n : Nat) (ns : List Int) : ∃ o, run prg (n + 20) 18 [.val (.list (ns.map .int))] = .ok o (.bool true) [] := by
  refine ⟨false, ?_⟩
  rw [show n + 20 = (n + 19) + 1 from rfl, run_at (P := prg) (k := 18) (f := f_law_k14 12 14 13 15 16 5 3 9 17 7 6 8 10 11 1 2) rfl]
  refine runF_is rfl rfl ?_
  obtain ⟨hD, e0⟩ := draws_ok (P := prg) (k := 12) (n := n + 18) rfl ns
  have e0 : run prg (n + 19) 12 [.val (.list (ns.map .int))] = .ok true (.list [.list (ns.map .int), .int 0, .int 0, .int 1]) [] := e0
  have s12 := @sig_at prg 12 _ rfl
  generalize hD0 : PyData.list [.list (ns.map .int), .int 0, .int 0, .int 1] = D0 at hD e0
  refine cutS (fun r => r = [some (.dat false (.list (ns.map .int))), some (.dat true (D0)), none, none, none, none, none, none, none, none, none, none, none, none, none, none, none, none, none, none, none, none, none]) ?_ ?_
  · simp [startA, s12, e0]
  · rintro _ rfl
    refine start_ok n _ hD fun d h w top left bd st z7 hd hb hlen h50 hst => ?_
    obtain ⟨l, C⟩ := Ctx.mk' n hb hlen hst
    refine mid_ok n _ hb hst C.hl' C.hB fun z13 z14 => ?_
    refine kinds_ok n _ C fun z10 z15 => ?_
    refine ends_ok' n _ C fun z16 z17 z18 => ?_
    refine words_ok n _ hd hb h50 fun d z20 z21 hd => ?_
    exact last_ok n _ hd
theorem law_true : LawTrue prg 100 18 := fun ns _ => law_n 80 ns
end P14

namespace P14
open PySem L2 E2 Lb
def top (i : Nat) : Stmt := PySem.Challenge.pw_movedtiles_k14_whole_leaps_and_their_kin.main.body.getD i (.Pass ⟨0, 0, 0, 0⟩)
def L : LP := ⟨[
  ⟨"is_whole", f_is_whole, n_is_whole, ["value"], top 6, false⟩,
  ⟨"spread", f_spread, n_spread, ["start", "moves", "most"], top 8, false⟩,
  ⟨"is_cell", f_is_cell 0, n_is_cell, ["value"], top 12, false⟩,
  ⟨"are_cells", f_are_cells 2 0, n_are_cells, ["value"], top 13, false⟩,
  ⟨"look_at_pegs", f_look_at_pegs 3 2 1, n_look_at_pegs, ["board", "state"], top 14, false⟩,
  ⟨"leaps", f_leaps 4, n_leaps, ["board", "state"], top 15, false⟩,
  ⟨"colour", f_colour_2, n_colour_2, ["cell", "side"], top 16, false⟩,
  ⟨"kind_of", f_kind_of 3 6 1, n_kind_of, ["state"], top 17, false⟩,
  ⟨"ends_for", f_ends_for 4 7, n_ends_for, ["board", "state"], top 18, false⟩,
  ⟨"reached", f_reached 4 1 5 1 19, n_reached, ["board", "state"], top 19, true⟩,
  ⟨"fewest_left", f_fewest_left 9, n_fewest_left, ["board", "state"], top 20, false⟩,
  ⟨"turned_board", f_turned_board 3 1, n_turned_board, ["cells"], top 21, false⟩,
  ⟨"_law_draws", f__law_draws, n__law_draws, ["script"], top 23, false⟩,
  ⟨"_law_draw", f__law_draw, n__law_draw, ["draws", "limit"], top 24, false⟩,
  ⟨"_law_pick", f__law_pick 13, n__law_pick, ["draws", "row"], top 25, false⟩,
  ⟨"_law_same", f__law_same_2 15, n__law_same_2, ["actual", "expected"], top 26, false⟩,
  ⟨"_law_leaps", f__law_leaps, n__law_leaps, ["board", "state"], top 27, false⟩,
  ⟨"_law_kind", f__law_kind, n__law_kind, ["state"], top 28, false⟩,
  ⟨"law", f_law_k14 12 14 13 15 16 5 3 9 17 7 6 8 10 11 1 2, n_law_k14, ["script"], top 29, false⟩],
  [("MOST_CELLS", 40), ("MOST_STATES", 20000)],
  ["PuzzleError", "BadState", "BadPlan"],
  [[0], [1, 0], [2, 0]],
  [(lam_reached_0 4 1 5 1 19)]⟩
theorem law_trueL : LawTrue L.pr 100 18 := law_true
theorem ok : L.ds.all L.okD = true := by decide +kernel
theorem bd : BdAll L.ds := ⟨fun _ _ _ _ _ _ us hl => match us, hl with | [_], _ => rfl, fun _ _ _ _ _ _ us hl => match us, hl with | [_, _, _], _ => rfl, fun _ _ _ _ _ _ us hl => match us, hl with | [_], _ => rfl, fun _ _ _ _ _ _ us hl => match us, hl with | [_], _ => rfl, fun _ _ _ _ _ _ us hl => match us, hl with | [_, _], _ => rfl, fun _ _ _ _ _ _ us hl => match us, hl with | [_, _], _ => rfl, fun _ _ _ _ _ _ us hl => match us, hl with | [_, _], _ => rfl, fun _ _ _ _ _ _ us hl => match us, hl with | [_], _ => rfl, fun _ _ _ _ _ _ us hl => match us, hl with | [_, _], _ => rfl, fun _ _ _ _ _ _ us hl => match us, hl with | [_, _], _ => rfl, fun _ _ _ _ _ _ us hl => match us, hl with | [_, _], _ => rfl, fun _ _ _ _ _ _ us hl => match us, hl with | [_], _ => rfl, fun _ _ _ _ _ _ us hl => match us, hl with | [_], _ => rfl, fun _ _ _ _ _ _ us hl => match us, hl with | [_, _], _ => rfl, fun _ _ _ _ _ _ us hl => match us, hl with | [_, _], _ => rfl, fun _ _ _ _ _ _ us hl => match us, hl with | [_, _], _ => rfl, fun _ _ _ _ _ _ us hl => match us, hl with | [_, _], _ => rfl, fun _ _ _ _ _ _ us hl => match us, hl with | [_], _ => rfl, fun _ _ _ _ _ _ us hl => match us, hl with | [_], _ => rfl, trivial⟩
abbrev R : PySem.W.OpenRow := PySem.W.OpenLaw.row PySem.Challenge.rw_movedtiles_k14_whole_leaps_and_their_kin
def loose : List PySem.Str := ["__name__", "PuzzleError", "BadState", "BadPlan", "Refused", "is_whole", "spread", "MOST_CELLS", "MOST_STATES", "is_cell", "are_cells", "look_at_pegs", "leaps", "colour", "kind_of", "ends_for", "reached", "fewest_left", "turned_board", "_law_draws", "_law_draw", "_law_pick", "_law_same", "_law_leaps", "_law_kind"]
abbrev hk : PySem.W.Hook := He.hookX 4 L.fa L.fn [] L.tf L.ex
def ob (s : PySem.W.SharedT) : He.AlX := He.obsX 4 L.fa L.fn [] L.tf L.ex (HandSHeadRun.getT s)
theorem ob_eq (s : PySem.W.SharedT) : ob s = hk.obs s.abs := He.obsX_eq (HandSHeadRun.getT_eq s)
theorem run (w : World) : HandSHeadRun.RunEq R (PySem.W.view R.prog [29]) hk ob 2200 loose w := by
  intro os
  kernel_rfl
end P14
open PySem PySem.W PySem.Calls PyProof.Rows
theorem PySem.Challenge.cw_movedtiles_k14_whole_leaps_and_their_kin_holds : PySem.Challenge.rw_movedtiles_k14_whole_leaps_and_their_kin.Holds := by
  w_on; o_law
  refine HandSHeadRun.head_any (r := OpenLaw.row PySem.Challenge.rw_movedtiles_k14_whole_leaps_and_their_kin) (q := view (OpenLaw.row PySem.Challenge.rw_movedtiles_k14_whole_leaps_and_their_kin).prog [29]) (H := P14.hk) (ob := P14.ob) (M := 2200) (loose := P14.loose) (d := HandSHeadRun.topDef (OpenLaw.row PySem.Challenge.rw_movedtiles_k14_whole_leaps_and_their_kin).prog 29) (kwd := []) P14.ob_eq
    (by kernel_rfl) (fun s => by kernel_rfl) P14.run (by kernel_rfl) (by kernel_rfl) (by kernel_rfl) (by rfl) (by first | assumption | decide +kernel) (by decide +kernel) ⟨rfl, rfl, rfl, rfl, rfl, by decide +kernel⟩ ?hw ?hc
  case hw => w_witness2
  case hc =>
    refine E2.walkL (L := P14.L) (l := PySem.Challenge.rw_movedtiles_k14_whole_leaps_and_their_kin) (n := 100) (x := "script") rfl (by kernel_rfl) ⟨rfl, by decide, by decide⟩ ?F
    intro w mg fa h K KX c G hmg0
    have hmg : mg ("law" : PySem.Str) = some (.ref fa) := by
      have e : (HandSHeadRun.topDef (OpenLaw.row PySem.Challenge.rw_movedtiles_k14_whole_leaps_and_their_kin).prog 29).name = ("law" : PySem.Str) := by kernel_rfl
      rw [← e]
      exact hmg0
    exact E2.lp_law (L := P14.L) (K := ⟨K, w⟩) (k := 18) (f := Lb.f_law_k14 12 14 13 15 16 5 3 9 17 7 6 8 10 11 1 2) rfl KX G hmg c P14.ok P14.bd rfl rfl rfl P14.law_trueL

