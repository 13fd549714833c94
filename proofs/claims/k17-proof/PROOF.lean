import PyProof.Rows.All
import Wide.All
import OpenK.AllK
import Wide.FinOn
import HandS.ForMost
import HandS.ForExc
import HandS.Wide
import HandS.Deep
import HandS.TupAny
import HandS.Style
import HandS.Zip
import HandS.Walk
import KE.SortData
import KE.OsSortAny
import HandS.More
import HandS.IsInst
import HandS.Dict
import KE.KDictPairs
import HandS.WordsExc
import HandS.SortKw
import HandS.ClsMeth
import KE.SortKeyHeap
import HandS.Defaults
import KE.KStateDown
import HandS.Ends
import HandS.Words
import HandS.Head0
import HandS.Head1
import HandS.Head2
import HandS.HeadEnd
import HandS.HeadHook1
import HandS.HeadHook2
import PySem.Challenge.RW_nearwalk_k17_whole_rates_of_gaps
set_option Elab.async false
set_option linter.all false
set_option maxRecDepth 100000
set_option maxHeartbeats 4000000
/-! A small language of my own: its terms, and what they give on plain data. -/
namespace NW
open PySem PySem.Spec PyProof.Rows L2

/-! ### data -/
abbrev D := PyData
/-- a mutable object -/
inductive Cl where
  | lst (xs : List D)
  | dK (kvs : List (Key × D))
  | dT (kvs : List (List Key × D))
  | tp (xs : List D)
  | wd (xs : List D) (y : D)
  | gone
/-- what a name holds: plain data; the mutable object number i -/
inductive Vl where
  | d (x : D)
  | m (i : Nat)
abbrev Mem := List Cl
abbrev En := List (Option Vl)

/-- data of no depth above n, without dicts, with proper texts -/
def flatD : Nat → D → Bool
  | 0, x => (match x with
    | .none => true
    | .bool _ => true
    | .int _ => true
    | .str s => PyData.strOk s
    | _ => false)
  | n + 1, x => (match x with
    | .none => true
    | .bool _ => true
    | .int _ => true
    | .str s => PyData.strOk s
    | .list xs => xs.all (flatD n)
    | .tuple xs => xs.all (flatD n)
    | .dict _ => false)
def dat (M : Mem) : Vl → Option D
  | .d x => some x
  | .m i => (match M[i]? with
    | some (.lst xs) => some (.list xs)
    | _ => none)
def seqOf (M : Mem) (v : Vl) : Option (List D) := match dat M v with
  | some (.list xs) => some xs
  | some (.tuple xs) => some xs
  | _ => none
def big : Nat := 1000000

@[simp] def isNV (v : Vl) : Bool := match v with
  | .d .none => true
  | _ => false
/-! ### terms -/
inductive BOp where
  | add | sub | mul | fdiv | mod | pow
inductive COp where
  | eq | ne | lt | le | gt | ge | mem | nmem
inductive Bi where
  | len | abs | all | any | tuple | list | max | min | sum | sorted | dict | tupC
inductive T where
  | name (i : Nat)
  | tup (ts : List T)
mutual
inductive E where
  | var (i : Nat)
  | int (i : Int)
  | bl (b : Bool)
  | non
  | str (s : String)
  | con (x : String) (v : D)
  | bin (op : BOp) (a b : E)
  | neg (a : E)
  | cmp (op : COp) (a b : E)
  | isN (a : E)
  | notN (a : E)
  | chain (o1 o2 : COp) (a b c : E)
  | not (a : E)
  | and (a b : E)
  | or (a b : E)
  | ife (c a b : E)
  | idx (a i : E)
  | slc (a : E) (lo hi : Eo)
  | rev (a : E)
  | tup (es : Es)
  | lst (es : Es)
  | new (es : Es)
  | newL (e : E)
  | call (k : Nat) (es : Es)
  | bi (b : Bi) (es : Es)
  | isI (a : E) (ty : String)
  | ixOf (a b : E)
  | sortK (k : Nat) (a : E)
  | slcM (a : E) (lo hi : Eo)
  | wdC (a b : E)
  | comp (mu : Bool) (own : List (String × Nat)) (t : T) (it : It) (c : Eo) (e : E)
  | frz (e : E)
inductive Es where
  | nil
  | cons (e : E) (es : Es)
inductive Eo where
  | no
  | so (e : E)
inductive It where
  | seq (e : E)
  | rng1 (e : E)
  | rng2 (a b : E)
  | zip (a b : E)
  | enum (e : E)
end
inductive Mt where
  | append | insert | extend
mutual
inductive S where
  | asg (t : T) (e : E)
  | par (is : List Nat) (es : Es)
  | parC (ts : List T) (es : Es)
  | setI (a i e : E)
  | mth (m : Mt) (a : E) (es : Es)
  | ex (e : E)
  | callS (k : Nat) (es : Es)
  | ife (c : E) (a b : Ss)
  | for (t : T) (it : It) (b : Ss)
  | whil (n : Nat) (c : E) (b : Ss)
  | ret (e : E)
  | retC (k : Nat) (es : Es)
  | asgC (t : T) (k : Nat) (es : Es)
  | raise (x : String)
inductive Ss where
  | nil
  | cons (s : S) (ss : Ss)
end

/-! ### what they give -/
inductive Out where
  | ret (v : Vl)
  | exc (x : String)
/-- a def: how many arguments, what it does -/
structure Fn where
  ar : Nat
  run : List Vl → Mem → Option (Out × Mem)
inductive SO where
  | nx (env : En) (M : Mem)
  | rt (v : Vl) (M : Mem)
  | exc (x : String) (M : Mem)

def mulOk (i j : Int) : Bool := decide (i.natAbs.log2 + j.natAbs.log2 < 1000000)
def divOk (j : Int) : Bool := decide (0 < j) && decide (j.natAbs.log2 < 9000)
def powOk (i j : Int) : Bool := decide (0 ≤ j) && (decide (j ≤ 1000) && decide (i.natAbs < 2 ^ 64))
def evAdd (a b : Vl) (M : Mem) : Option (Vl × Mem) := match dat M a, dat M b with
  | some (.int i), some (.int j) => some (.d (.int (i + j)), M)
  | some (.tuple xs), some (.tuple ys) => if xs.length + ys.length ≤ big then some (.d (.tuple (xs ++ ys)), M) else none
  | some (.list xs), some (.list ys) => if xs.length + ys.length ≤ big then some (.d (.list (xs ++ ys)), M) else none
  | some (.str x), some (.str y) => if x.length + y.length ≤ big then some (.d (.str (x ++ y)), M) else none
  | _, _ => none
def evBin (op : BOp) (a b : Vl) (M : Mem) : Option (Vl × Mem) := match op, a, b with
  | .add, a, b => evAdd a b M
  | .sub, .d (.int i), .d (.int j) => some (.d (.int (i - j)), M)
  | .mul, .d (.int i), .d (.int j) => if mulOk i j then some (.d (.int (i * j)), M) else none
  | .fdiv, .d (.int i), .d (.int j) => if divOk j then some (.d (.int (i / j)), M) else none
  | .mod, .d (.int i), .d (.int j) => if j ≠ 0 then some (.d (.int (i.fmod j)), M) else none
  | .pow, .d (.int i), .d (.int j) => if powOk i j then some (.d (.int (i ^ j.toNat)), M) else none
  | _, _, _ => none
def subS (x y : Str) : Bool := !(Builtin.Str.occurrences y x 0 y.length 1).isEmpty
def memD (x : D) (xs : List D) : Option Bool := if flatD 20 x && xs.all (flatD 20) then some (xs.any fun z => PyData.eqv z x) else none
def evMem (a b : Vl) (M : Mem) : Option Bool := match a, dat M b with
  | .d x, some (.list xs) => memD x xs
  | .d x, some (.tuple xs) => memD x xs
  | .d (.str x), some (.str y) => some (subS x y)
  | _, _ => none
def evEq (a b : Vl) (M : Mem) : Option Bool := (dat M a).bind fun x => (dat M b).bind fun y => if flatD 20 x && flatD 20 y then some (PyData.eqv x y) else none
def evCmp (op : COp) (a b : Vl) (M : Mem) : Option Bool := match op with
  | .eq => evEq a b M
  | .ne => (evEq a b M).map (!·)
  | .lt => (match a, b with
    | .d (.int i), .d (.int j) => some (decide (i < j))
    | .d (.str x), .d (.str y) => some (decide (x.cps.toList < y.cps.toList))
    | _, _ => none)
  | .le => (match a, b with
    | .d (.int i), .d (.int j) => some (decide (i ≤ j))
    | _, _ => none)
  | .gt => (match a, b with
    | .d (.int i), .d (.int j) => some (decide (j < i))
    | _, _ => none)
  | .ge => (match a, b with
    | .d (.int i), .d (.int j) => some (decide (j ≤ i))
    | _, _ => none)
  | .mem => evMem a b M
  | .nmem => (evMem a b M).map (!·)
@[simp] def boolV : Vl → Option Bool
  | .d (.bool b) => some b
  | _ => none
def valD (kvs : List (Key × D)) (k : Key) : Option D := (kvs.find? fun kv => decide (kv.1 = k)).map (·.2)
def dkOf (M : Mem) (v : Vl) : Option (List (Key × D)) := match v with
  | .m i => (match M[i]? with
    | some (.dK kvs) => some kvs
    | _ => none)
  | _ => none
/-- the first part of a pair whose first part is a tuple of our own -/
def wdOf (M : Mem) (v : Vl) : Option (List D) := match v with
  | .m i => (match M[i]? with
    | some (.wd xs _) => some xs
    | _ => none)
  | _ => none
/-- a list; a tuple of our own -/
def dctOf (M : Mem) (v : Vl) : Option (List D) := match v with
  | .d (.list xs) => some xs
  | .m i => (match M[i]? with
    | some (.lst xs) => some xs
    | some (.tp xs) => some xs
    | _ => none)
  | _ => none
def tpOf (M : Mem) (v : Vl) : Option (List D) := match v with
  | .m i => (match M[i]? with
    | some (.tp xs) => some xs
    | _ => none)
  | _ => none
def evIdx (a i : Vl) (M : Mem) : Option (Vl × Mem) := match seqOf M a, i with
  | some xs, .d (.int k) => (atI xs k).map fun x => (.d x, M)
  | none, .d (.int k) => if k = 0 then (wdOf M a).map fun xs => (.m M.length, M ++ [.tp xs]) else none
  | _, .d (.str s) => (dkOf M a).bind fun kvs => (valD kvs (.inr s)).map fun x => (.d x, M)
  | _, _ => none
/-- the pairs (text, value) of a dict to be -/
def kvsOf : List D → Option (List (Key × D))
  | [] => some []
  | .tuple [.str s, v] :: r => (kvsOf r).map ((.inr s, v) :: ·)
  | _ :: _ => none
def cutN {α : Type} (xs : List α) (lo hi : Option Int) : List α := (xs.drop (HT.sIx xs.length 0 lo)).take (HT.sIx xs.length xs.length hi - HT.sIx xs.length 0 lo)
def evSlc (a : Vl) (lo hi : Option Int) (M : Mem) : Option (Vl × Mem) := match dat M a with
  | some (.list xs) => some (.d (.list (cutN xs lo hi)), M)
  | some (.tuple xs) => some (.d (.tuple (cutN xs lo hi)), M)
  | _ => none
def boolsOf : List D → Option (List Bool)
  | [] => some []
  | .bool b :: r => (boolsOf r).map (b :: ·)
  | _ :: _ => none
def intsOf : List D → Option (List Int)
  | [] => some []
  | .int i :: r => (intsOf r).map (i :: ·)
  | _ :: _ => none
/-- data that may be sorted together -/
def sortOk (xs : List D) : Bool := xs.all (flatD 20) && ((xs.all fun x => xs.all fun y => W.alike x y) && ((xs.all fun x => match x with
    | .tuple (_ :: _) => true
    | _ => false) || xs.all fun x => match x with
    | .none => false
    | .tuple _ => false
    | _ => true))
def evBi (b : Bi) (vs : List Vl) (M : Mem) : Option (Vl × Mem) := match b, vs with
  | .len, [a] => (match dat M a with
    | some (.list xs) => some (.d (.int xs.length), M)
    | some (.tuple xs) => some (.d (.int xs.length), M)
    | some (.str x) => if x.length ≤ big then some (.d (.int x.length), M) else none
    | _ => none)
  | .abs, [.d (.int i)] => some (.d (.int (if i < 0 then -i else i)), M)
  | .all, [.d (.list xs)] => (boolsOf xs).map fun bs => (.d (.bool (bs.all id)), M)
  | .any, [.d (.list xs)] => (boolsOf xs).map fun bs => (.d (.bool (bs.any id)), M)
  | .tuple, [a] => (seqOf M a).map fun xs => (.d (.tuple xs), M)
  | .list, [a] => (seqOf M a).map fun xs => (.d (.list xs), M)
  | .max, [.d (.int i), .d (.int j)] => some (.d (.int (if j > i then j else i)), M)
  | .min, [.d (.int i), .d (.int j)] => some (.d (.int (if j < i then j else i)), M)
  | .sum, [.d (.list xs)] => (intsOf xs).map fun ns => (.d (.int ns.sum), M)
  | .sorted, [a] => (seqOf M a).bind fun xs => if sortOk xs then some (.d (.list (xs.mergeSort (W.dataLe false id))), M) else none
  | .tupC, [a] => (match dat M a with
    | some (.list xs) => some (.m M.length, M ++ [.tp xs])
    | _ => none)
  | .dict, [a] => (dctOf M a).bind fun xs => (kvsOf xs).bind fun kvs => if (kvs.map (·.1)).Nodup ∧ kvs.length ≤ big then some (.m M.length, M ++ [.dK kvs]) else none
  | _, _ => none
def tyName : D → String
  | .none => "NoneType"
  | .bool _ => "bool"
  | .int _ => "int"
  | .str _ => "str"
  | .list _ => "list"
  | .tuple _ => "tuple"
  | .dict _ => "dict"
/-- isinstance(x, T), T one of int, bool, str, tuple, list -/
def isTy (x : D) (ty : String) : Bool := tyName x == ty || (tyName x == "bool" && ty == "int")
@[simp] def evFrz (v : Vl) (M : Mem) : Option (Vl × Mem) := match v with
  | .m i => (match M[i]? with
    | some (.lst xs) => some (.d (.list xs), M.set i .gone)
    | some (.tp xs) => some (.d (.tuple xs), M)
    | some (.wd xs y) => some (.d (.tuple [.tuple xs, y]), M)
    | _ => none)
  | .d x => some (.d x, M)

/-! ### targets -/
mutual
@[simp] def evT : T → Vl → En → Option En
  | .name i, v, env => some (env.set i (some v))
  | .tup ts, .d (.tuple xs), env => evTs ts xs env
  | .tup _, _, _ => none
@[simp] def evTs : List T → List D → En → Option En
  | [], [], env => some env
  | t :: ts, x :: xs, env => (evT t (.d x) env).bind fun env1 => evTs ts xs env1
  | [], _ :: _, _ => none
  | _ :: _, [], _ => none
end
@[simp] def wipeE (env : En) : List Nat → En
  | [] => env
  | v :: vs => (wipeE env vs).set v none

/-! ### what is walked -/
inductive Src where
  | fix (xs : List D)
  | dyn (i : Nat)
def rngD (lo : Int) (n : Nat) : List D := (List.range n).map fun (k : Nat) => .int (lo + (k : Int))
def pairD : List D → List D → List D
  | x :: xs, y :: ys => .tuple [x, y] :: pairD xs ys
  | _, _ => []
def signsD (x : Str) : List D := x.cps.toList.map fun c => .str ⟨#[c]⟩
def srcOf (M : Mem) (v : Vl) : Option Src := match v with
  | .d (.list xs) => some (.fix xs)
  | .d (.tuple xs) => some (.fix xs)
  | .d (.str x) => some (.fix (signsD x))
  | .m i => (match M[i]? with
    | some (.lst _) => some (.dyn i)
    | _ => none)
  | _ => none
def rngOf (i j : Int) : Option Src := if -1000000 ≤ i ∧ i ≤ 1000000 ∧ -1000000 ≤ j ∧ j ≤ 1000000 then some (.fix (rngD i (j - i).toNat)) else none
def zipOf (a b : Vl) : Option Src := match a, b with
  | .d (.list xs), .d (.list ys) => some (.fix (pairD xs ys))
  | .d (.tuple xs), .d (.tuple ys) => some (.fix (pairD xs ys))
  | _, _ => none
def enumOf (a : Vl) : Option Src := match a with
  | .d (.list xs) => some (.fix (pairD (rngD 0 xs.length) xs))
  | _ => none
/-- the items put into the list at cell n -/
def addTo (n : Nat) (y : D) (M : Mem) : Option Mem := match M[n]? with
  | some (.lst acc) => if acc.length < big then some (M.set n (.lst (acc ++ [y]))) else none
  | _ => none
def compT (n : Nat) (step : D → Mem → Option (Option D × Mem)) (x : D) (M : Mem) : Option Mem := (step x M).bind fun r => match r.1 with
  | none => some r.2
  | some y => addTo n y r.2
def compL (n : Nat) (step : D → Mem → Option (Option D × Mem)) : List D → Mem → Option Mem
  | [], M => some M
  | x :: r, M => (compT n step x M).bind fun M1 => compL n step r M1
def compD (n : Nat) (step : D → Mem → Option (Option D × Mem)) (i : Nat) : Nat → Nat → Mem → Option Mem
  | 0, _, _ => none
  | f + 1, k, M => (match M[i]? with
    | some (.lst xs) => (match xs[k]? with
      | none => some M
      | some x => (compT n step x M).bind fun M1 => compD n step i f (k + 1) M1)
    | _ => none)
def compS (n : Nat) (step : D → Mem → Option (Option D × Mem)) (s : Src) (M : Mem) : Option Mem := match s with
  | .fix xs => compL n step xs M
  | .dyn i => compD n step i 1000000 0 M
@[simp] def compEnd (mu : Bool) (n : Nat) (M : Mem) : Option (Vl × Mem) := match M[n]? with
  | some (.lst xs) => if mu = true then some (.m n, M.take (n + 1)) else some (.d (.list xs), M.take n)
  | _ => none
def forL (step : D → En → Mem → Option SO) : List D → En → Mem → Option SO
  | [], env, M => some (.nx env M)
  | x :: r, env, M => (step x env M).bind fun o => match o with
    | .nx env1 M1 => forL step r env1 M1
    | o => some o
@[simp] def forS (step : D → En → Mem → Option SO) (s : Src) (env : En) (M : Mem) : Option SO := match s with
  | .fix xs => forL step xs env M
  | .dyn _ => none
def whilL (test : En → Mem → Option (Bool × Mem)) (body : En → Mem → Option SO) : Nat → En → Mem → Option SO
  | 0, _, _ => none
  | f + 1, env, M => (test env M).bind fun r => if r.1 = true then (body env r.2).bind fun o => match o with
      | .nx env1 M1 => whilL test body f env1 M1
      | o => some o
    else some (.nx env r.2)

/-! ### expressions -/
def callF (cs : List Fn) (k : Nat) (vs : List Vl) (M : Mem) : Option (Vl × Mem) := match cs[k]? with
  | some F => if vs.length = F.ar then (match F.run vs M with
    | some (.ret v, M') => some (v, M')
    | _ => none) else none
  | none => none
def callX (cs : List Fn) (k : Nat) (vs : List Vl) (M : Mem) : Option (Out × Mem) := match cs[k]? with
  | some F => if vs.length = F.ar then F.run vs M else none
  | none => none
@[simp] def tstB (r : Option (Vl × Mem)) : Option (Bool × Mem) := r.bind fun r => (boolV r.1).map fun b => (b, r.2)
@[simp] def dataV (r : Option (Vl × Mem)) : Option (D × Mem) := r.bind fun r => match r.1 with
  | .d x => some (x, r.2)
  | _ => none
@[simp] def datasV : List Vl → Option (List D)
  | [] => some []
  | .d x :: r => (datasV r).map (x :: ·)
  | .m _ :: _ => none
@[simp] def evVar (env : En) (i : Nat) (M : Mem) : Option (Vl × Mem) := match env[i]? with
  | some (some v) => some (v, M)
  | _ => none
@[simp] def evNeg (v : Vl) (M : Mem) : Option (Vl × Mem) := match v with
  | .d (.int i) => some (.d (.int (-i)), M)
  | _ => none
def evRev (v : Vl) (M : Mem) : Option (Vl × Mem) := match dat M v with
  | some (.list xs) => some (.d (.list xs.reverse), M)
  | _ => none
@[simp] def evPart (v : Vl) (M : Mem) : Option (Option Int × Mem) := match v with
  | .d (.int i) => some (some i, M)
  | _ => none
@[simp] def evRng1 (v : Vl) (M : Mem) : Option (Src × Mem) := match v with
  | .d (.int j) => (rngOf 0 j).map fun s => (s, M)
  | _ => none
@[simp] def evRng2 (v u : Vl) (M : Mem) : Option (Src × Mem) := match v, u with
  | .d (.int i), .d (.int j) => (rngOf i j).map fun s => (s, M)
  | _, _ => none
def evIx (a b : Vl) (M : Mem) : Option (Vl × Mem) := match a, b with
  | .d (.list xs), .d y => if (flatD 20 y && xs.all (flatD 20)) = true then (xs.findIdx? fun z => PyData.eqv z y).map (fun k : Nat => (Vl.d (.int (k : Int)), M)) else none
  | _, _ => none
/-- the keys of sorted(.., key=f), one call after the other -/
def keysF (F : Fn) : List D → Mem → Option (List D × Mem)
  | [], M => some ([], M)
  | x :: r, M => match F.run [.d x] M with
    | some (.ret (.d k), M1) => (keysF F r M1).map fun q => (k :: q.1, q.2)
    | _ => none
def sortedBy (xs ks : List D) : List D := ((xs.zip ks).mergeSort (PySem.W.dataLe false fun p : D × D => p.2)).map fun p => p.1
def evSortK (cs : List Fn) (k : Nat) (v : Vl) (M : Mem) : Option (Vl × Mem) := match cs[k]?, dat M v with
  | some F, some (.list xs) => if F.ar = 1 then (keysF F xs M).bind fun q => if sortOk q.1 = true then some (.d (.list (sortedBy xs q.1)), q.2) else none else none
  | _, _ => none
def evSlcM (a : Vl) (lo hi : Option Int) (M : Mem) : Option (Vl × Mem) := match dat M a with
  | some (.list xs) => some (.m M.length, M ++ [.lst (cutN xs lo hi)])
  | _ => none
def evWd (a b : Vl) (M : Mem) : Option (Vl × Mem) := match tpOf M a, b with
  | some xs, .d y => some (.m M.length, M ++ [.wd xs y])
  | _, _ => none
mutual
@[simp] def evE (cs : List Fn) : E → En → Mem → Option (Vl × Mem)
  | .var i, env, M => evVar env i M
  | .int i, _, M => some (.d (.int i), M)
  | .bl b, _, M => some (.d (.bool b), M)
  | .non, _, M => some (.d .none, M)
  | .str s, _, M => some (.d (.str (Str.ofString s)), M)
  | .con _ v, _, M => some (.d v, M)
  | .bin op a b, env, M => (evE cs a env M).bind fun r => (evE cs b env r.2).bind fun q => evBin op r.1 q.1 q.2
  | .neg a, env, M => (evE cs a env M).bind fun r => evNeg r.1 r.2
  | .cmp op a b, env, M => (evE cs a env M).bind fun r => (evE cs b env r.2).bind fun q => (evCmp op r.1 q.1 q.2).map fun c => (.d (.bool c), q.2)
  | .isN a, env, M => (evE cs a env M).bind fun r => some (.d (.bool (isNV r.1)), r.2)
  | .notN a, env, M => (evE cs a env M).bind fun r => some (.d (.bool (!isNV r.1)), r.2)
  | .chain o1 o2 a b c, env, M => (evE cs a env M).bind fun r => (evE cs b env r.2).bind fun q => (evCmp o1 r.1 q.1 q.2).bind fun k =>
      if k = true then (evE cs c env q.2).bind fun p => (evCmp o2 q.1 p.1 p.2).map fun k => (.d (.bool k), p.2) else some (.d (.bool false), q.2)
  | .not a, env, M => (tstB (evE cs a env M)).map fun r => (.d (.bool (!r.1)), r.2)
  | .and a b, env, M => (tstB (evE cs a env M)).bind fun r => if r.1 = true then evE cs b env r.2 else some (.d (.bool false), r.2)
  | .or a b, env, M => (tstB (evE cs a env M)).bind fun r => if r.1 = true then some (.d (.bool true), r.2) else evE cs b env r.2
  | .ife c a b, env, M => (tstB (evE cs c env M)).bind fun r => if r.1 = true then evE cs a env r.2 else evE cs b env r.2
  | .idx a i, env, M => (evE cs a env M).bind fun r => (evE cs i env r.2).bind fun q => evIdx r.1 q.1 q.2
  | .slc a lo hi, env, M => (evE cs a env M).bind fun r => (evO cs lo env r.2).bind fun q => (evO cs hi env q.2).bind fun p => evSlc r.1 q.1 p.1 p.2
  | .rev a, env, M => (evE cs a env M).bind fun r => evRev r.1 r.2
  | .tup es, env, M => (evEs cs es env M).bind fun r => (datasV r.1).bind fun xs => if xs.length ≤ big then some (.d (.tuple xs), r.2) else none
  | .lst es, env, M => (evEs cs es env M).bind fun r => (datasV r.1).bind fun xs => if xs.length ≤ big then some (.d (.list xs), r.2) else none
  | .new es, env, M => (evEs cs es env M).bind fun r => (datasV r.1).bind fun xs => if xs.length ≤ big then some (.m r.2.length, r.2 ++ [.lst xs]) else none
  | .newL e, env, M => (evE cs e env M).bind fun r => (seqOf r.2 r.1).map fun xs => (.m r.2.length, r.2 ++ [.lst xs])
  | .call k es, env, M => (evEs cs es env M).bind fun r => callF cs k r.1 r.2
  | .bi b es, env, M => (evEs cs es env M).bind fun r => evBi b r.1 r.2
  | .isI a ty, env, M => (dataV (evE cs a env M)).map fun r => (.d (.bool (isTy r.1 ty)), r.2)
  | .ixOf a b, env, M => (evE cs a env M).bind fun r => (evE cs b env r.2).bind fun q => evIx r.1 q.1 q.2
  | .sortK k a, env, M => (evE cs a env M).bind fun r => evSortK cs k r.1 r.2
  | .slcM a lo hi, env, M => (evE cs a env M).bind fun r => (evO cs lo env r.2).bind fun q => (evO cs hi env q.2).bind fun p => evSlcM r.1 q.1 p.1 p.2
  | .wdC a b, env, M => (evE cs a env M).bind fun r => (evE cs b env r.2).bind fun q => evWd r.1 q.1 q.2
  | .comp mu own t it c e, env, M => (evI cs it env M).bind fun r =>
      (compS r.2.length (fun x M => (evT t (.d x) (wipeE env (own.map (·.2)))).bind fun env1 => (evC cs c env1 M).bind fun q =>
        if q.1 = true then (dataV (evE cs e env1 q.2)).map fun p => (some p.1, p.2) else some (none, q.2)) r.1 (r.2 ++ [.lst []])).bind fun M1 => compEnd mu r.2.length M1
  | .frz e, env, M => (evE cs e env M).bind fun r => evFrz r.1 r.2
@[simp] def evEs (cs : List Fn) : Es → En → Mem → Option (List Vl × Mem)
  | .nil, _, M => some ([], M)
  | .cons e es, env, M => (evE cs e env M).bind fun r => (evEs cs es env r.2).map fun q => (r.1 :: q.1, q.2)
@[simp] def evO (cs : List Fn) : Eo → En → Mem → Option (Option Int × Mem)
  | .no, _, M => some (none, M)
  | .so e, env, M => (evE cs e env M).bind fun r => evPart r.1 r.2
/-- a comprehension's test: none is yes -/
@[simp] def evC (cs : List Fn) : Eo → En → Mem → Option (Bool × Mem)
  | .no, _, M => some (true, M)
  | .so e, env, M => tstB (evE cs e env M)
@[simp] def evI (cs : List Fn) : It → En → Mem → Option (Src × Mem)
  | .seq e, env, M => (evE cs e env M).bind fun r => (srcOf r.2 r.1).map fun s => (s, r.2)
  | .rng1 e, env, M => (evE cs e env M).bind fun r => evRng1 r.1 r.2
  | .rng2 a b, env, M => (evE cs a env M).bind fun r => (evE cs b env r.2).bind fun q => evRng2 r.1 q.1 q.2
  | .zip a b, env, M => (evE cs a env M).bind fun r => (evE cs b env r.2).bind fun q => (zipOf r.1 q.1).map fun s => (s, q.2)
  | .enum e, env, M => (evE cs e env M).bind fun r => (enumOf r.1).map fun s => (s, r.2)
end

/-! ### statements -/
@[simp] def evPar : List Nat → List Vl → En → Option En
  | [], [], env => some env
  | i :: is, v :: vs, env => evPar is vs (env.set i (some v))
  | [], _ :: _, _ => none
  | _ :: _, [], _ => none
@[simp] def evPs : List T → List Vl → En → Option En
  | [], [], env => some env
  | t :: ts, v :: vs, env => (evT t v env).bind fun env1 => evPs ts vs env1
  | [], _ :: _, _ => none
  | _ :: _, [], _ => none
def evSet (a i : Vl) (y : D) (M : Mem) : Option Mem := match a, i with
  | .m n, .d (.int k) => (match M[n]? with
    | some (.lst xs) => (ixN xs.length k).map fun j => M.set n (.lst (xs.set j y))
    | _ => none)
  | _, _ => none
def insAt (xs : List D) (k : Nat) (y : D) : List D := xs.take k ++ y :: xs.drop k
/-- what a method makes of its list -/
def mtL (m : Mt) (vs : List Vl) (xs : List D) : Option (List D) := match m, vs with
  | .append, [.d y] => if xs.length < big then some (xs ++ [y]) else none
  | .insert, [.d (.int k), .d y] => if 0 ≤ k ∧ k.toNat ≤ xs.length ∧ xs.length < big then some (insAt xs k.toNat y) else none
  | .extend, [.d (.list ys)] => if xs.length + ys.length ≤ big then some (xs ++ ys) else none
  | _, _ => none
def evMt (m : Mt) (a : Vl) (vs : List Vl) (M : Mem) : Option Mem := match a with
  | .m n => (match M[n]? with
    | some (.lst xs) => (mtL m vs xs).map fun ys => M.set n (.lst ys)
    | _ => none)
  | _ => none
@[simp] def isCell (a : Vl) (M : Mem) : Bool := match a with
  | .m n => (match M[n]? with
    | some (.lst _) => true
    | _ => false)
  | _ => false
@[simp] def retOf (o : Out) (M : Mem) : SO := match o with
  | .ret v => .rt v M
  | .exc x => .exc x M
@[simp] def asgOf (t : T) (env : En) (o : Out) (M : Mem) : Option SO := match o with
  | .ret v => (evT t v env).map fun env1 => .nx env1 M
  | .exc x => some (.exc x M)
@[simp] def dropOf (env : En) (o : Out) (M : Mem) : SO := match o with
  | .ret _ => .nx env M
  | .exc x => .exc x M
mutual
@[simp] def evS (cs : List Fn) : S → En → Mem → Option SO
  | .asg t e, env, M => (evE cs e env M).bind fun r => (evT t r.1 env).map fun env1 => .nx env1 r.2
  | .par is es, env, M => (evEs cs es env M).bind fun r => (evPar is r.1 env).map fun env1 => .nx env1 r.2
  | .parC ts es, env, M => (evEs cs es env M).bind fun r => (evPs ts r.1 env).map fun env1 => .nx env1 r.2
  | .setI a i e, env, M => (dataV (evE cs e env M)).bind fun r => (evE cs a env r.2).bind fun q => (evE cs i env q.2).bind fun p => (evSet q.1 p.1 r.1 p.2).map fun M1 => .nx env M1
  | .mth m a es, env, M => (evE cs a env M).bind fun r => if isCell r.1 r.2 = true then (evEs cs es env r.2).bind fun q => (evMt m r.1 q.1 q.2).map fun M1 => .nx env M1 else none
  | .ex e, env, M => (evE cs e env M).map fun r => .nx env r.2
  | .callS k es, env, M => (evEs cs es env M).bind fun r => (callX cs k r.1 r.2).map fun q => dropOf env q.1 q.2
  | .ife c a b, env, M => (tstB (evE cs c env M)).bind fun r => if r.1 = true then evSs cs a env r.2 else evSs cs b env r.2
  | .for t it b, env, M => (evI cs it env M).bind fun r => forS (fun x env M => (evT t (.d x) env).bind fun env1 => evSs cs b env1 M) r.1 env r.2
  | .whil n c b, env, M => whilL (fun env M => tstB (evE cs c env M)) (fun env M => evSs cs b env M) n env M
  | .ret e, env, M => (evE cs e env M).map fun r => .rt r.1 r.2
  | .retC k es, env, M => (evEs cs es env M).bind fun r => (callX cs k r.1 r.2).map fun q => retOf q.1 q.2
  | .asgC t k es, env, M => (evEs cs es env M).bind fun r => (callX cs k r.1 r.2).bind fun q => asgOf t env q.1 q.2
  | .raise x, _, M => some (.exc x M)
@[simp] def evSs (cs : List Fn) : Ss → En → Mem → Option SO
  | .nil, env, M => some (.nx env M)
  | .cons s ss, env, M => (evS cs s env M).bind fun o => match o with
    | .nx env1 M1 => evSs cs ss env1 M1
    | o => some o
end

/-! ### defs -/
/-- the turns of a while that I count -/
def fuel : Nat := 2 ^ 9000
structure Df where
  N : List String
  np : Nat
  cn : List String
  body : Ss
/-- the end of a def: what it hands back, the objects that stood before -/
@[simp] def finish (n : Nat) (o : SO) : Option (Out × Mem) := match o with
  | .nx _ M => some (.ret (.d .none), M.take n)
  | .rt (.d x) M => some (.ret (.d x), M.take n)
  | .rt (.m j) M => if j < n then some (.ret (.m j), M.take n) else (match M[j]? with
    | some c => some (.ret (.m n), M.take n ++ [c])
    | none => none)
  | .exc x M => some (.exc x, M.take n)
@[simp] def enter (d : Df) (as : List Vl) : En := as.map some ++ List.replicate (d.N.length - as.length) none
def fnOf (cs : List Fn) (d : Df) : Fn := ⟨d.np, fun as M => if as.length = d.np then (evSs cs d.body (enter d as) M).bind (finish M.length) else none⟩
end NW

set_option Elab.async false
set_option linter.all false
set_option maxRecDepth 100000
set_option maxHeartbeats 4000000
/-! How plain data lies on the abstract heap; readings by what a term gives. -/
namespace L2
open PySem PySem.Spec PyProof.Rows NW

/-! ### data on a heap -/
theorem SqT.same {K : PySem.W.Frag} {H H' : Hp} {a : Addr} {xs : List V} (e : Same H H') (h : SqT K H a xs) : SqT K H' a xs := by
  rcases h with (h | ⟨o, h⟩) | h
  · exact .inl (.inl (e _ _ h))
  · exact .inl (.inr ⟨o, e _ _ h⟩)
  · exact .inr h
mutual
theorem Dp.same {K : PySem.W.Frag} {H H' : Hp} (e : Same H H') : ∀ (d : D) (v : V), Dp K H v d → Dp K H' v d
  | .none, _, h => by cases h; exact .non
  | .bool b, _, h => by cases h; exact .bl b
  | .int i, _, h => by cases h; exact .int i
  | .str x, _, h => by cases h; exact .str x
  | .list ds, _, h => by
    cases h with
    | lst hs ha => exact .lst (Same.seq e hs) (DpAll.same e ds _ ha)
  | .tuple ds, _, h => by
    cases h with
    | tup hs ha => exact .tup (SqT.same e hs) (DpAll.same e ds _ ha)
  | .dict _, _, h => by cases h
theorem DpAll.same {K : PySem.W.Frag} {H H' : Hp} (e : Same H H') : ∀ (ds : List D) (vs : List V), DpAll K H vs ds → DpAll K H' vs ds
  | [], _, h => by cases h; exact .nil
  | d :: ds, _, h => by
    cases h with
    | cons h1 h2 => exact .cons (Dp.same e d _ h1) (DpAll.same e ds _ h2)
end
section
variable {K : PySem.W.Frag} {H : Hp}
theorem DpAll.length : ∀ {vs : List V} {ds : List D}, DpAll K H vs ds → vs.length = ds.length
  | _, _, .nil => rfl
  | _, _, .cons _ t => by rw [List.length_cons, List.length_cons, DpAll.length t]
theorem DpAll.get : ∀ {vs : List V} {ds : List D} {i : Nat} {d : D}, DpAll K H vs ds → ds[i]? = some d → ∃ v, vs[i]? = some v ∧ Dp K H v d
  | _, _, _, _, .nil, h => by simp at h
  | _, _, 0, _, .cons p _, h => by
    simp only [List.getElem?_cons_zero, Option.some.injEq] at h
    subst h
    exact ⟨_, rfl, p⟩
  | _, _, i + 1, _, .cons _ t, h => by
    rw [List.getElem?_cons_succ] at h
    obtain ⟨v, e, p⟩ := DpAll.get t h
    exact ⟨v, by rw [List.getElem?_cons_succ]; exact e, p⟩
theorem DpAll.getV : ∀ {vs : List V} {ds : List D} {i : Nat} {v : V}, DpAll K H vs ds → vs[i]? = some v → ∃ d, ds[i]? = some d ∧ Dp K H v d
  | _, _, _, _, .nil, h => by simp at h
  | _, _, 0, _, .cons p _, h => by
    simp only [List.getElem?_cons_zero, Option.some.injEq] at h
    subst h
    exact ⟨_, rfl, p⟩
  | _, _, i + 1, _, .cons _ t, h => by
    rw [List.getElem?_cons_succ] at h
    obtain ⟨v, e, p⟩ := DpAll.getV t h
    exact ⟨v, by rw [List.getElem?_cons_succ]; exact e, p⟩
theorem DpAll.append : ∀ {vs ws : List V} {ds es : List D}, DpAll K H vs ds → DpAll K H ws es → DpAll K H (vs ++ ws) (ds ++ es)
  | _, _, _, _, .nil, s => s
  | _, _, _, _, .cons p t, s => .cons p (DpAll.append t s)
theorem DpAll.take : ∀ {vs : List V} {ds : List D} (n : Nat), DpAll K H vs ds → DpAll K H (vs.take n) (ds.take n)
  | _, _, 0, _ => by rw [List.take_zero, List.take_zero]; exact .nil
  | _, _, _ + 1, .nil => by rw [List.take_nil, List.take_nil]; exact .nil
  | _, _, n + 1, .cons p t => .cons p (DpAll.take n t)
theorem DpAll.drop : ∀ {vs : List V} {ds : List D} (n : Nat), DpAll K H vs ds → DpAll K H (vs.drop n) (ds.drop n)
  | _, _, 0, h => h
  | _, _, _ + 1, .nil => by rw [List.drop_nil, List.drop_nil]; exact .nil
  | _, _, n + 1, .cons _ t => DpAll.drop n t
theorem DpAll.set {v : V} {d : D} (p : Dp K H v d) : ∀ {vs : List V} {ds : List D} (n : Nat), DpAll K H vs ds → DpAll K H (vs.set n v) (ds.set n d)
  | _, _, _, .nil => .nil
  | _, _, 0, .cons _ t => .cons p t
  | _, _, n + 1, .cons q t => .cons q (DpAll.set p n t)
theorem DpAll.reverse {vs : List V} {ds : List D} (h : DpAll K H vs ds) : DpAll K H vs.reverse ds.reverse := by
  induction ds generalizing vs with
  | nil => cases h; exact .nil
  | cons d ds ih =>
    cases h with
    | cons p t =>
      rw [List.reverse_cons, List.reverse_cons]
      exact (ih t).append (.cons p .nil)
theorem DpAll.cut {vs : List V} {ds : List D} (h : DpAll K H vs ds) (lo hi : Option Int) : DpAll K H (cutV vs lo hi) (cutN ds lo hi) := by
  unfold cutV cutN
  rw [h.length]
  exact (h.drop _).take _
theorem DpAll.one {v : V} {d : D} (p : Dp K H v d) : DpAll K H [v] [d] := .cons p .nil
theorem DpAll.inv1 {vs : List V} {d : D} (h : DpAll K H vs [d]) : ∃ v, vs = [v] ∧ Dp K H v d := by
  cases h with
  | cons p t => cases t; exact ⟨_, rfl, p⟩
theorem Dp.int_inv {v : V} {i : Int} (h : Dp K H v (.int i)) : v = .int i := by cases h; rfl
theorem Dp.bool_inv {v : V} {b : Bool} (h : Dp K H v (.bool b)) : v = .bl b := by cases h; rfl
theorem Dp.str_inv {v : V} {x : Str} (h : Dp K H v (.str x)) : v = .str x := by cases h; rfl
theorem Dp.none_inv {v : V} (h : Dp K H v .none) : v = .non := by cases h; rfl
theorem Dp.list_inv {v : V} {ds : List D} (h : Dp K H v (.list ds)) : ∃ a xs, v = .ref a ∧ SqL K H a xs ∧ DpAll K H xs ds := by
  cases h with
  | lst hs ha => exact ⟨_, _, rfl, hs, ha⟩
theorem Dp.tuple_inv {v : V} {ds : List D} (h : Dp K H v (.tuple ds)) : ∃ a xs, v = .ref a ∧ SqT K H a xs ∧ DpAll K H xs ds := by
  cases h with
  | tup hs ha => exact ⟨_, _, rfl, hs, ha⟩
end

end L2
namespace NW
open PySem PySem.Spec PyProof.Rows L2

/-! ### the state: what stands still, where the mutable objects are, what they hold -/
structure W3 where
  B : Hp
  ad : Nat → Addr
  M : Mem
def live : Cl → Bool
  | .gone => false
  | .tp _ => false
  | .wd _ _ => false
  | _ => true
/-- a tuple whose one object is known: it has no dict -/
def ExT (B : Hp) (a : Addr) (vs : List V) : Prop := ∃ o : Obj, B a = some (.frz o (.tup vs)) ∧ o.cls = .type "tuple" ∧ o.dict = none
theorem ExT.same {B B' : Hp} {a : Addr} {vs : List V} (e : Same B B') (h : ExT B a vs) : ExT B' a vs := by
  obtain ⟨o, h1, h2⟩ := h
  exact ⟨o, e _ _ h1, h2⟩
def CellOk (K : PySem.W.Frag) (B H : Hp) (a : Addr) : Cl → Prop
  | .lst xs => B a = none ∧ ∃ vs, H a = some (.lst vs) ∧ DpAll K B vs xs
  | .dK kvs => B a = none ∧ ∃ ws, H a = some (.dK ws) ∧ Paired (fun p q => p.1 = q.1 ∧ Dp K B p.2 q.2) ws kvs
  | .dT kvs => B a = none ∧ ∃ ws, H a = some (.dT ws) ∧ Paired (fun p q => p.1 = q.1 ∧ Dp K B p.2 q.2) ws kvs
  | .tp xs => ∃ vs, ExT B a vs ∧ DpAll K B vs xs
  | .wd xs y => ∃ p q vs, SqT K B a [.ref p, q] ∧ ExT B p vs ∧ DpAll K B vs xs ∧ Dp K B q y
  | .gone => True
theorem cell_still {K : PySem.W.Frag} {B B' H H' : Hp} {a : Addr} (e : Same B B') : ∀ {c : Cl}, live c = false → CellOk K B H a c → CellOk K B' H' a c
  | .tp xs, _, h => by
    obtain ⟨vs, h1, h2⟩ := h
    exact ⟨vs, h1.same e, DpAll.same e _ _ h2⟩
  | .wd xs y, _, h => by
    obtain ⟨p, q, vs, h1, h2, h3, h4⟩ := h
    exact ⟨p, q, vs, SqT.same e h1, h2.same e, DpAll.same e _ _ h3, Dp.same e _ _ h4⟩
  | .gone, _, _ => trivial
  | .lst _, h, _ => by cases h
  | .dK _, h, _ => by cases h
  | .dT _, h, _ => by cases h
structure Ok (K : PySem.W.Frag) (S : W3) (H : Hp) : Prop where
  same : Same S.B H
  cell : ∀ (i : Nat) (c : Cl), S.M[i]? = some c → CellOk K S.B H (S.ad i) c
  inj : ∀ (i j : Nat) (c c' : Cl), S.M[i]? = some c → S.M[j]? = some c' → live c = true → live c' = true → S.ad i = S.ad j → i = j
structure Le (S S' : W3) : Prop where
  same : Same S.B S'.B
  len : S.M.length ≤ S'.M.length
  ad : ∀ i, i < S.M.length → S'.ad i = S.ad i
theorem Le.refl (S : W3) : Le S S := ⟨Same.refl _, Nat.le_refl _, fun _ _ => rfl⟩
theorem Le.trans {S S1 S2 : W3} (a : Le S S1) (b : Le S1 S2) : Le S S2 :=
  ⟨a.same.trans b.same, Nat.le_trans a.len b.len, fun i h => (b.ad i (Nat.lt_of_lt_of_le h a.len)).trans (a.ad i h)⟩
def RV (K : PySem.W.Frag) (S : W3) (v : V) : Vl → Prop
  | .d x => Dp K S.B v x
  | .m i => i < S.M.length ∧ v = .ref (S.ad i)
theorem RV.le {K : PySem.W.Frag} {S S' : W3} (l : Le S S') {v : V} {w : Vl} (h : RV K S v w) : RV K S' v w := by
  cases w with
  | d x => exact Dp.same l.same x v h
  | m i =>
    obtain ⟨h1, h2⟩ : i < S.M.length ∧ v = .ref (S.ad i) := h
    exact ⟨Nat.lt_of_lt_of_le h1 l.len, by rw [l.ad i h1]; exact h2⟩
abbrev RVs (K : PySem.W.Frag) (S : W3) : List V → List Vl → Prop := Paired (RV K S)
theorem RVs.le {K : PySem.W.Frag} {S S' : W3} (l : Le S S') : ∀ {vs : List V} {ws : List Vl}, RVs K S vs ws → RVs K S' vs ws
  | _, _, .nil => .nil
  | _, _, .cons p t => .cons (p.le l) (RVs.le l t)
structure EnvOk (K : PySem.W.Frag) (S : W3) (σ : L2.St) (env : En) : Prop where
  len : env.length = σ.length
  at_ : ∀ (i : Nat) (w : Vl), env[i]? = some (some w) → ∃ v, σ[i]? = some (some v) ∧ RV K S v w
theorem EnvOk.le {K : PySem.W.Frag} {S S' : W3} (l : Le S S') {σ : L2.St} {env : En} (h : EnvOk K S σ env) : EnvOk K S' σ env :=
  ⟨h.len, fun i w e => let ⟨v, e1, r⟩ := h.at_ i w e; ⟨v, e1, r.le l⟩⟩
theorem EnvOk.set {K : PySem.W.Frag} {S : W3} {σ : L2.St} {env : En} (h : EnvOk K S σ env) {i : Nat} {v : V} {w : Vl} (r : RV K S v w) : EnvOk K S (σ.set i (some v)) (env.set i (some w)) := by
  refine ⟨by rw [List.length_set, List.length_set]; exact h.len, fun j u e => ?_⟩
  by_cases hj : i = j
  · subst hj
    by_cases hl : i < env.length
    · rw [List.getElem?_set_self hl] at e
      have e2 : w = u := Option.some.inj (Option.some.inj e)
      subst e2
      exact ⟨v, List.getElem?_set_self (by rw [← h.len]; exact hl), r⟩
    · rw [List.getElem?_eq_none (by rw [List.length_set]; omega)] at e
      cases e
  · rw [List.getElem?_set_ne hj] at e
    obtain ⟨u', e1, r1⟩ := h.at_ j u e
    exact ⟨u', by rw [List.getElem?_set_ne hj]; exact e1, r1⟩
theorem EnvOk.wipe {K : PySem.W.Frag} {S : W3} {σ : L2.St} {env : En} (h : EnvOk K S σ env) : ∀ vs : List Nat, EnvOk K S (L2.wipe σ vs) (wipeE env vs)
  | [] => h
  | v :: vs => by
    have ih := EnvOk.wipe h vs
    show EnvOk K S ((L2.wipe σ vs).set v none) ((wipeE env vs).set v none)
    refine ⟨by rw [List.length_set, List.length_set]; exact ih.len, fun j u e => ?_⟩
    by_cases hj : v = j
    · subst hj
      by_cases hl : v < (wipeE env vs).length
      · rw [List.getElem?_set_self hl] at e
        cases e
      · rw [List.getElem?_eq_none (by rw [List.length_set]; omega)] at e
        cases e
    · rw [List.getElem?_set_ne hj] at e
      obtain ⟨u', e1, r1⟩ := ih.at_ j u e
      exact ⟨u', by rw [List.getElem?_set_ne hj]; exact e1, r1⟩
theorem wipe_set {σ : L2.St} {i : Nat} {v : V} : ∀ {vs : List Nat}, i ∈ vs → L2.wipe (σ.set i (some v)) vs = L2.wipe σ vs
  | [], h => by simp at h
  | w :: vs, h => by
    show (L2.wipe (σ.set i (some v)) vs).set w none = (L2.wipe σ vs).set w none
    by_cases hi : i ∈ vs
    · rw [wipe_set hi]
    · have hw : i = w := by
        rcases List.mem_cons.mp h with e | e
        · exact e
        · exact absurd e hi
      subst hw
      have out : ∀ (us : List Nat), i ∉ us → ∀ τ : L2.St, L2.wipe (τ.set i (some v)) us = (L2.wipe τ us).set i (some v) := by
        intro us
        induction us with
        | nil => intro _ τ; rfl
        | cons u us ih =>
          intro hu τ
          have h1 : i ≠ u := fun e => hu (by rw [e]; exact List.mem_cons_self)
          show (L2.wipe (τ.set i (some v)) us).set u none = ((L2.wipe τ us).set u none).set i (some v)
          rw [ih (fun e => hu (List.mem_cons_of_mem _ e)) τ, List.set_comm _ _ h1]
      rw [out vs hi σ, List.set_set]

section
variable {K : PySem.W.Frag} {S : W3} {H : Hp}
/-- a list's cell, read -/
theorem Ok.lst (k : Ok K S H) {i : Nat} {xs : List D} (e : S.M[i]? = some (.lst xs)) : ∃ vs, H (S.ad i) = some (.lst vs) ∧ DpAll K S.B vs xs ∧ S.B (S.ad i) = none := by
  obtain ⟨h1, vs, h2, h3⟩ := k.cell i _ e
  exact ⟨vs, h2, h3, h1⟩
/-- what a value is, read off the whole heap -/
theorem Ok.dat (k : Ok K S H) {v : V} {w : Vl} {x : D} (r : RV K S v w) (e : dat S.M w = some x) : Dp K H v x := by
  cases w with
  | d y =>
    have e1 : y = x := Option.some.inj e
    subst e1
    exact Dp.same k.same _ _ r
  | m i =>
    obtain ⟨h1, rfl⟩ : i < S.M.length ∧ v = .ref (S.ad i) := r
    have e1 : (match S.M[i]? with | some (.lst xs) => some (.list xs) | _ => none) = some x := e
    split at e1
    · rename_i xs q
      have e2 : PyData.list xs = x := Option.some.inj e1
      subst e2
      obtain ⟨vs, h2, h3, h4⟩ := k.lst q
      exact .lst (.of h2) (DpAll.same k.same _ _ h3)
    · cases e1
/-- a new object that stands still -/
theorem Ok.fresh (k : Ok K S H) {p : Addr} {o : HO} (hp : H p = none) : Ok K ⟨upd S.B p o, S.ad, S.M⟩ (upd H p o) := by
  have hB : S.B p = none := k.same.free hp
  refine ⟨fun b u e => ?_, fun i c e => ?_, k.inj⟩
  · by_cases hb : b = p
    · subst hb
      rw [show (⟨upd S.B b o, S.ad, S.M⟩ : W3).B = upd S.B b o from rfl, upd_same] at e
      rw [upd_same]
      exact e
    · rw [show (⟨upd S.B p o, S.ad, S.M⟩ : W3).B = upd S.B p o from rfl, upd_ne hb] at e
      rw [upd_ne hb]
      exact k.same b u e
  · have c0 := k.cell i c e
    have sm : Same S.B (upd S.B p o) := fun b u e => by rw [upd_ne (ne_of_none e hB)]; exact e
    cases c with
    | lst xs =>
      obtain ⟨h1, vs, h2, h3⟩ := c0
      have ne : S.ad i ≠ p := ne_of_none h2 hp
      exact ⟨by show upd S.B p o (S.ad i) = none; rw [upd_ne ne]; exact h1, vs, by show upd H p o (S.ad i) = _; rw [upd_ne ne]; exact h2, DpAll.same sm _ _ h3⟩
    | dK kvs =>
      obtain ⟨h1, vs, h2, h3⟩ := c0
      have ne : S.ad i ≠ p := ne_of_none h2 hp
      exact ⟨by show upd S.B p o (S.ad i) = none; rw [upd_ne ne]; exact h1, vs, by show upd H p o (S.ad i) = _; rw [upd_ne ne]; exact h2, Paired.mapP h3 fun _ _ z => ⟨z.1, Dp.same sm _ _ z.2⟩⟩
    | dT kvs =>
      obtain ⟨h1, vs, h2, h3⟩ := c0
      have ne : S.ad i ≠ p := ne_of_none h2 hp
      exact ⟨by show upd S.B p o (S.ad i) = none; rw [upd_ne ne]; exact h1, vs, by show upd H p o (S.ad i) = _; rw [upd_ne ne]; exact h2, Paired.mapP h3 fun _ _ z => ⟨z.1, Dp.same sm _ _ z.2⟩⟩
    | tp xs => exact cell_still sm rfl c0
    | wd xs y => exact cell_still sm rfl c0
    | gone => trivial
theorem Ok.leFresh (k : Ok K S H) {p : Addr} {o : HO} (hp : H p = none) : Le S ⟨upd S.B p o, S.ad, S.M⟩ :=
  ⟨fun b u e => by
    show upd S.B p o b = some u
    rw [upd_ne (ne_of_none e (k.same.free hp))]
    exact e, Nat.le_refl _, fun _ _ => rfl⟩
/-- a new object nobody speaks of -/
theorem Ok.more (k : Ok K S H) {p : Addr} {o : HO} (hp : H p = none) : Ok K S (upd H p o) := by
  refine ⟨fun b u e => by rw [upd_ne (ne_of_none (k.same b u e) hp)]; exact k.same b u e, fun i c e => ?_, k.inj⟩
  have c0 := k.cell i c e
  cases c with
  | lst xs =>
    obtain ⟨h1, vs, h2, h3⟩ := c0
    exact ⟨h1, vs, by rw [upd_ne (ne_of_none h2 hp)]; exact h2, h3⟩
  | dK kvs =>
    obtain ⟨h1, vs, h2, h3⟩ := c0
    exact ⟨h1, vs, by rw [upd_ne (ne_of_none h2 hp)]; exact h2, h3⟩
  | dT kvs =>
    obtain ⟨h1, vs, h2, h3⟩ := c0
    exact ⟨h1, vs, by rw [upd_ne (ne_of_none h2 hp)]; exact h2, h3⟩
  | tp xs => exact cell_still (Same.refl _) rfl c0
  | wd xs y => exact cell_still (Same.refl _) rfl c0
  | gone => trivial
/-- a cell is changed -/
theorem Ok.write (k : Ok K S H) {i : Nat} {c c' : Cl} {o : HO} (hi : S.M[i]? = some c) (lv : live c = true) (hB : S.B (S.ad i) = none) (hc : CellOk K S.B (upd H (S.ad i) o) (S.ad i) c') : Ok K ⟨S.B, S.ad, S.M.set i c'⟩ (upd H (S.ad i) o) := by
  have hil : i < S.M.length := (List.getElem?_eq_some_iff.mp hi).1
  have other : ∀ (j : Nat) (d : Cl), i ≠ j → S.M[j]? = some d → CellOk K S.B (upd H (S.ad i) o) (S.ad j) d := fun j d hj e => by
    have c0 := k.cell j d e
    have ne : live d = true → S.ad j ≠ S.ad i := fun ld z => hj (k.inj i j c d hi e lv ld z.symm)
    cases d with
    | lst xs =>
      obtain ⟨h1, vs, h2, h3⟩ := c0
      exact ⟨h1, vs, by rw [upd_ne (ne rfl)]; exact h2, h3⟩
    | dK kvs =>
      obtain ⟨h1, vs, h2, h3⟩ := c0
      exact ⟨h1, vs, by rw [upd_ne (ne rfl)]; exact h2, h3⟩
    | dT kvs =>
      obtain ⟨h1, vs, h2, h3⟩ := c0
      exact ⟨h1, vs, by rw [upd_ne (ne rfl)]; exact h2, h3⟩
    | tp xs => exact cell_still (Same.refl _) rfl c0
    | wd xs y => exact cell_still (Same.refl _) rfl c0
    | gone => trivial
  refine ⟨fun b u e => ?_, fun j d e => ?_, fun j l d d' e e' h h' z => ?_⟩
  · have nb : b ≠ S.ad i := fun q => by rw [q] at e; rw [show (⟨S.B, S.ad, S.M.set i c'⟩ : W3).B = S.B from rfl, hB] at e; cases e
    rw [upd_ne nb]
    exact k.same b u e
  · have e : (S.M.set i c')[j]? = some d := e
    by_cases hj : i = j
    · subst hj
      rw [List.getElem?_set_self hil] at e
      have e2 : c' = d := Option.some.inj e
      subst e2
      exact hc
    · rw [List.getElem?_set_ne hj] at e
      exact other j d hj e
  · have e : (S.M.set i c')[j]? = some d := e
    have e' : (S.M.set i c')[l]? = some d' := e'
    have z : S.ad j = S.ad l := z
    by_cases hj : i = j
    · by_cases hl : i = l
      · rw [← hj, ← hl]
      · rw [List.getElem?_set_ne hl] at e'
        exact k.inj j l c d' (by rw [← hj]; exact hi) e' lv h' z
    · rw [List.getElem?_set_ne hj] at e
      by_cases hl : i = l
      · exact k.inj j l d c e (by rw [← hl]; exact hi) h lv z
      · rw [List.getElem?_set_ne hl] at e'
        exact k.inj j l d d' e e' h h' z
theorem leSet {S : W3} {i : Nat} {c' : Cl} : Le S ⟨S.B, S.ad, S.M.set i c'⟩ := ⟨Same.refl _, by show _ ≤ (S.M.set i c').length; rw [List.length_set]; exact Nat.le_refl _, fun _ _ => rfl⟩
/-- one more thing that stands still -/
theorem Ok.app (k : Ok K S H) {a : Addr} {c : Cl} (lc : live c = false) (hc : CellOk K S.B H a c) :
    Ok K ⟨S.B, fun i => if i = S.M.length then a else S.ad i, S.M ++ [c]⟩ H ∧ Le S ⟨S.B, fun i => if i = S.M.length then a else S.ad i, S.M ++ [c]⟩ := by
  have old : ∀ (j : Nat) (d : Cl), (S.M ++ [c])[j]? = some d → (S.M[j]? = some d ∧ (if j = S.M.length then a else S.ad j) = S.ad j) ∨ (d = c ∧ (if j = S.M.length then a else S.ad j) = a) := fun j d e => by
    by_cases hj : j < S.M.length
    · rw [List.getElem?_append_left hj] at e
      exact .inl ⟨e, if_neg (Nat.ne_of_lt hj)⟩
    · rw [List.getElem?_append_right (by omega)] at e
      have hj2 : j - S.M.length = 0 := by
        have := (List.getElem?_eq_some_iff.mp e).1
        simp only [List.length_singleton] at this
        omega
      rw [hj2] at e
      have hj3 : j = S.M.length := by omega
      exact .inr ⟨(Option.some.inj e).symm, if_pos hj3⟩
  refine ⟨⟨k.same, fun j d e => ?_, fun j l d d' e e' h1 h2 z => ?_⟩, Same.refl _, ?_, fun i hi => if_neg (Nat.ne_of_lt hi)⟩
  · show CellOk K S.B H (if j = S.M.length then a else S.ad j) d
    rcases old j d e with ⟨e1, q⟩ | ⟨e1, q⟩
    · rw [q]
      exact k.cell j d e1
    · rw [q, e1]
      exact hc
  · have z : (if j = S.M.length then a else S.ad j) = (if l = S.M.length then a else S.ad l) := z
    rcases old j d e with ⟨e1, q⟩ | ⟨e1, q⟩
    · rcases old l d' e' with ⟨e2, q2⟩ | ⟨e2, q2⟩
      · rw [q, q2] at z
        exact k.inj j l d d' e1 e2 h1 h2 z
      · rw [e2, lc] at h2
        cases h2
    · rw [e1, lc] at h1
      cases h1
  · show _ ≤ (S.M ++ [c]).length
    rw [List.length_append]
    exact Nat.le_add_right _ _
/-- a new cell -/
theorem Ok.newC (k : Ok K S H) {p : Addr} {o : HO} {c : Cl} (hp : H p = none) (h : CellOk K S.B (upd H p o) p c) :
    Ok K ⟨S.B, fun i => if i = S.M.length then p else S.ad i, S.M ++ [c]⟩ (upd H p o) ∧ Le S ⟨S.B, fun i => if i = S.M.length then p else S.ad i, S.M ++ [c]⟩ := by
  have k1 := k.more (o := o) hp
  have old : ∀ (j : Nat) (d : Cl), (S.M ++ [c])[j]? = some d → (j < S.M.length ∧ S.M[j]? = some d ∧ (if j = S.M.length then p else S.ad j) = S.ad j) ∨ (j = S.M.length ∧ d = c ∧ (if j = S.M.length then p else S.ad j) = p) := fun j d e => by
    by_cases hj : j < S.M.length
    · rw [List.getElem?_append_left hj] at e
      exact .inl ⟨hj, e, if_neg (Nat.ne_of_lt hj)⟩
    · rw [List.getElem?_append_right (by omega)] at e
      have hj2 : j - S.M.length = 0 := by
        have := (List.getElem?_eq_some_iff.mp e).1
        simp only [List.length_singleton] at this
        omega
      rw [hj2] at e
      have hj3 : j = S.M.length := by omega
      exact .inr ⟨hj3, (Option.some.inj e).symm, if_pos hj3⟩
  have apart : ∀ (j : Nat) (d : Cl), S.M[j]? = some d → live d = true → S.ad j ≠ p := fun j d e ld z => by
    have c0 := k.cell j d e
    rw [z] at c0
    cases d with
    | lst ys => obtain ⟨_, _, h2, _⟩ := c0; rw [hp] at h2; cases h2
    | dK kvs => obtain ⟨_, _, h2, _⟩ := c0; rw [hp] at h2; cases h2
    | dT kvs => obtain ⟨_, _, h2, _⟩ := c0; rw [hp] at h2; cases h2
    | tp xs => cases ld
    | wd xs y => cases ld
    | gone => cases ld
  refine ⟨⟨k1.same, fun j d e => ?_, fun j l d d' e e' h1 h2 z => ?_⟩, Same.refl _, ?_, fun i hi => if_neg (Nat.ne_of_lt hi)⟩
  · show CellOk K S.B (upd H p o) (if j = S.M.length then p else S.ad j) d
    rcases old j d e with ⟨_, e1, q⟩ | ⟨_, e1, q⟩
    · rw [q]
      exact k1.cell j d e1
    · rw [q, e1]
      exact h
  · have z : (if j = S.M.length then p else S.ad j) = (if l = S.M.length then p else S.ad l) := z
    rcases old j d e with ⟨hj, e1, q⟩ | ⟨hj, e1, q⟩
    · rcases old l d' e' with ⟨hl, e2, q2⟩ | ⟨hl, e2, q2⟩
      · rw [q, q2] at z
        exact k.inj j l d d' e1 e2 h1 h2 z
      · rw [q, q2] at z
        exact absurd z (apart j d e1 h1)
    · rcases old l d' e' with ⟨hl, e2, q2⟩ | ⟨hl, e2, q2⟩
      · rw [q, q2] at z
        exact absurd z.symm (apart l d' e2 h2)
      · rw [hj, hl]
  · show _ ≤ (S.M ++ [c]).length
    rw [List.length_append]
    exact Nat.le_add_right _ _
theorem Ok.newCell (k : Ok K S H) {p : Addr} {vs : List V} {xs : List D} (hp : H p = none) (h : DpAll K S.B vs xs) :
    Ok K ⟨S.B, fun i => if i = S.M.length then p else S.ad i, S.M ++ [.lst xs]⟩ (upd H p (.lst vs)) ∧ Le S ⟨S.B, fun i => if i = S.M.length then p else S.ad i, S.M ++ [.lst xs]⟩ :=
  k.newC hp ⟨k.same.free hp, vs, upd_same, h⟩
/-- a cell comes to stand still -/
theorem Ok.freeze (k : Ok K S H) {i : Nat} {xs : List D} (hi : S.M[i]? = some (.lst xs)) :
    ∃ S' : W3, S'.M = S.M.set i .gone ∧ Le S S' ∧ Ok K S' H ∧ Dp K S'.B (.ref (S.ad i)) (.list xs) := by
  obtain ⟨vs, h2, h3, h1⟩ := k.lst hi
  have sm : Same S.B (upd S.B (S.ad i) (.lst vs)) := fun b u e => by rw [upd_ne (ne_of_none e h1)]; exact e
  have hil : i < S.M.length := (List.getElem?_eq_some_iff.mp hi).1
  refine ⟨⟨upd S.B (S.ad i) (.lst vs), S.ad, S.M.set i .gone⟩, rfl, ⟨sm, by show _ ≤ (S.M.set i .gone).length; rw [List.length_set]; exact Nat.le_refl _, fun _ _ => rfl⟩, ⟨fun b u e => ?_, fun j d e => ?_, fun j l d d' e e' h h' z => ?_⟩, .lst (.of upd_same) (DpAll.same sm _ _ h3)⟩
  · by_cases hb : b = S.ad i
    · subst hb
      have e : upd S.B (S.ad i) (.lst vs) (S.ad i) = some u := e
      rw [upd_same] at e
      rw [h2]
      exact e
    · have e : upd S.B (S.ad i) (.lst vs) b = some u := e
      rw [upd_ne hb] at e
      exact k.same b u e
  · have e : (S.M.set i .gone)[j]? = some d := e
    by_cases hj : i = j
    · subst hj
      rw [List.getElem?_set_self hil] at e
      have e2 : Cl.gone = d := Option.some.inj e
      subst e2
      trivial
    · rw [List.getElem?_set_ne hj] at e
      have c0 := k.cell j d e
      have ne : live d = true → S.ad j ≠ S.ad i := fun ld z => hj (k.inj i j _ d hi e rfl ld z.symm)
      show CellOk K (upd S.B (S.ad i) (.lst vs)) H (S.ad j) d
      cases d with
      | lst ys =>
        obtain ⟨q1, us, q2, q3⟩ := c0
        exact ⟨by rw [upd_ne (ne rfl)]; exact q1, us, q2, DpAll.same sm _ _ q3⟩
      | dK kvs =>
        obtain ⟨q1, us, q2, q3⟩ := c0
        exact ⟨by rw [upd_ne (ne rfl)]; exact q1, us, q2, Paired.mapP q3 fun _ _ z => ⟨z.1, Dp.same sm _ _ z.2⟩⟩
      | dT kvs =>
        obtain ⟨q1, us, q2, q3⟩ := c0
        exact ⟨by rw [upd_ne (ne rfl)]; exact q1, us, q2, Paired.mapP q3 fun _ _ z => ⟨z.1, Dp.same sm _ _ z.2⟩⟩
      | tp xs => exact cell_still sm rfl c0
      | wd xs y => exact cell_still sm rfl c0
      | gone => trivial
  · have e : (S.M.set i .gone)[j]? = some d := e
    have e' : (S.M.set i .gone)[l]? = some d' := e'
    by_cases hj : i = j
    · subst hj
      rw [List.getElem?_set_self hil] at e
      have e2 : Cl.gone = d := Option.some.inj e
      subst e2
      cases h
    · by_cases hl : i = l
      · subst hl
        rw [List.getElem?_set_self hil] at e'
        have e2 : Cl.gone = d' := Option.some.inj e'
        subst e2
        cases h'
      · rw [List.getElem?_set_ne hj] at e
        rw [List.getElem?_set_ne hl] at e'
        exact k.inj j l d d' e e' h h' z
/-- cells are forgotten -/
theorem Ok.take (k : Ok K S H) (n : Nat) : Ok K ⟨S.B, S.ad, S.M.take n⟩ H := by
  have at_ : ∀ (j : Nat) (d : Cl), (S.M.take n)[j]? = some d → S.M[j]? = some d := fun j d e => by
    by_cases hj : j < n
    · rw [List.getElem?_take_of_lt hj] at e
      exact e
    · rw [List.getElem?_eq_none (by rw [List.length_take]; omega)] at e
      cases e
  exact ⟨k.same, fun j d e => k.cell j d (at_ j d e), fun j l d d' e e' => k.inj j l d d' (at_ j d e) (at_ l d' e')⟩
theorem Le.take {S S' : W3} (l : Le S S') : Le S ⟨S'.B, S'.ad, S'.M.take S.M.length⟩ :=
  ⟨l.same, by show _ ≤ (S'.M.take S.M.length).length; rw [List.length_take]; exact Nat.le_min.mpr ⟨Nat.le_refl _, l.len⟩, l.ad⟩
end

/-! ### readings -/
def Post (K : PySem.W.Frag) (S : W3) (M' : Mem) (w : Vl) (Q : VK) : Prop := ∀ (v : V) (H' : Hp) (S' : W3), Le S S' → S'.M = M' → Ok K S' H' → RV K S' v w → Q v H'
def tV (K : PySem.W.Frag) (f : En → Mem → Option (Vl × Mem)) : TE := fun σ H Q => ∃ (S : W3) (env : En) (w : Vl) (M' : Mem), Ok K S H ∧ EnvOk K S σ env ∧ f env S.M = some (w, M') ∧ Post K S M' w Q
def PostB (K : PySem.W.Frag) (S : W3) (M' : Mem) (b : Bool) (Q : Bool → Hp → Prop) : Prop := ∀ (H' : Hp) (S' : W3), Le S S' → S'.M = M' → Ok K S' H' → Q b H'
def tT (K : PySem.W.Frag) (f : En → Mem → Option (Bool × Mem)) : TT := fun σ H Q => ∃ (S : W3) (env : En) (b : Bool) (M' : Mem), Ok K S H ∧ EnvOk K S σ env ∧ f env S.M = some (b, M') ∧ PostB K S M' b Q
def PostA (K : PySem.W.Frag) (S : W3) (M' : Mem) (ws : List Vl) (Q : List V → Hp → Prop) : Prop := ∀ (vs : List V) (H' : Hp) (S' : W3), Le S S' → S'.M = M' → Ok K S' H' → RVs K S' vs ws → Q vs H'
def tA (K : PySem.W.Frag) (f : En → Mem → Option (List Vl × Mem)) : TA := fun σ H Q => ∃ (S : W3) (env : En) (ws : List Vl) (M' : Mem), Ok K S H ∧ EnvOk K S σ env ∧ f env S.M = some (ws, M') ∧ PostA K S M' ws Q
section
variable {K : PySem.W.Frag} {S S1 : W3} {H : Hp} {σ : L2.St} {env : En} {Q : VK}
theorem Post.le {M' : Mem} {w : Vl} (l : Le S S1) (p : Post K S M' w Q) : Post K S1 M' w Q := fun v H' S' l' => p v H' S' (l.trans l')
theorem Post.here {w : Vl} {v : V} (p : Post K S S.M w Q) (k : Ok K S H) (r : RV K S v w) : Q v H := p v H S (Le.refl S) rfl k r
theorem Post.newT {xs : List V} {ds : List D} (p : Post K S S.M (.d (.tuple ds)) Q) (k : Ok K S H) (h : DpAll K S.B xs ds) : ∀ q, H q = none → Q (.ref q) (upd H q (.tup xs)) := fun q hq =>
  p _ _ _ (k.leFresh hq) rfl (k.fresh hq) (.tup (.of upd_same) (DpAll.same (k.leFresh hq).same _ _ h))
theorem Post.newL {xs : List V} {ds : List D} (p : Post K S S.M (.d (.list ds)) Q) (k : Ok K S H) (h : DpAll K S.B xs ds) : ∀ q, H q = none → Q (.ref q) (upd H q (.lst xs)) := fun q hq =>
  p _ _ _ (k.leFresh hq) rfl (k.fresh hq) (.lst (.of upd_same) (DpAll.same (k.leFresh hq).same _ _ h))
theorem Post.newM {xs : List V} {ds : List D} (p : Post K S (S.M ++ [.lst ds]) (.m S.M.length) Q) (k : Ok K S H) (h : DpAll K S.B xs ds) : ∀ q, H q = none → Q (.ref q) (upd H q (.lst xs)) := fun q hq => by
  obtain ⟨k1, l1⟩ := k.newCell hq h
  refine p _ _ _ l1 rfl k1 ⟨?_, ?_⟩
  · show S.M.length < (S.M ++ [Cl.lst ds]).length
    rw [List.length_append]
    exact Nat.lt_succ_self _
  · show V.ref q = V.ref (if S.M.length = S.M.length then q else S.ad S.M.length)
    rw [if_pos rfl]
theorem Post.newC {o : HO} {c : Cl} (p : Post K S (S.M ++ [c]) (.m S.M.length) Q) (k : Ok K S H) {q : Addr} (hq : H q = none) (h : CellOk K S.B (upd H q o) q c) : Q (.ref q) (upd H q o) := by
  obtain ⟨k1, l1⟩ := k.newC hq h
  refine p _ _ _ l1 rfl k1 ⟨?_, ?_⟩
  · show S.M.length < (S.M ++ [c]).length
    rw [List.length_append]
    exact Nat.lt_succ_self _
  · show V.ref q = V.ref (if S.M.length = S.M.length then q else S.ad S.M.length)
    rw [if_pos rfl]
theorem Post.app {c : Cl} (p : Post K S (S.M ++ [c]) (.m S.M.length) Q) (k : Ok K S H) {a : Addr} (lc : live c = false) (h : CellOk K S.B H a c) : Q (.ref a) H := by
  obtain ⟨k1, l1⟩ := k.app lc h
  refine p _ _ _ l1 rfl k1 ⟨?_, ?_⟩
  · show S.M.length < (S.M ++ [c]).length
    rw [List.length_append]
    exact Nat.lt_succ_self _
  · show V.ref a = V.ref (if S.M.length = S.M.length then a else S.ad S.M.length)
    rw [if_pos rfl]
theorem tV.mono {f : En → Mem → Option (Vl × Mem)} {Q' : VK} (h : tV K f σ H Q) (hq : ∀ v H', Q v H' → Q' v H') : tV K f σ H Q' := by
  obtain ⟨S, env, w, M', k, ev, e, p⟩ := h
  exact ⟨S, env, w, M', k, ev, e, fun v H' S' l em k' r => hq _ _ (p v H' S' l em k' r)⟩
/-- one value, then more -/
theorem tV.un {f : En → Mem → Option (Vl × Mem)} {g : Vl → Mem → Option (Vl × Mem)} (h : tV K (fun env M => (f env M).bind fun r => g r.1 r.2) σ H Q) {R : V → Hp → Prop}
    (hR : ∀ (S : W3) (x : V) (H' : Hp) (a w : Vl) (M' : Mem), Ok K S H' → RV K S x a → g a S.M = some (w, M') → Post K S M' w Q → R x H') : tV K f σ H R := by
  obtain ⟨S, env, w, M', k, ev, e, p⟩ := h
  obtain ⟨⟨a, M1⟩, e1, e2⟩ := Option.bind_eq_some_iff.mp e
  exact ⟨S, env, a, M1, k, ev, e1, fun v H' S' l em k' r => hR S' v H' a w M' k' r (by rw [em]; exact e2) (p.le l)⟩
/-- two values, then more -/
theorem tV.bin {fa fb : En → Mem → Option (Vl × Mem)} {g : Vl → Vl → Mem → Option (Vl × Mem)} (h : tV K (fun env M => (fa env M).bind fun r => (fb env r.2).bind fun q => g r.1 q.1 q.2) σ H Q) {R : V → V → Hp → Prop}
    (hR : ∀ (S : W3) (x y : V) (H' : Hp) (a b w : Vl) (M' : Mem), Ok K S H' → RV K S x a → RV K S y b → g a b S.M = some (w, M') → Post K S M' w Q → R x y H') : tV K fa σ H fun x H1 => tV K fb σ H1 fun y H2 => R x y H2 := by
  obtain ⟨S, env, w, M', k, ev, e, p⟩ := h
  obtain ⟨⟨a, M1⟩, e1, e2⟩ := Option.bind_eq_some_iff.mp e
  obtain ⟨⟨b, M2⟩, e3, e4⟩ := Option.bind_eq_some_iff.mp e2
  refine ⟨S, env, a, M1, k, ev, e1, fun x H1 S1 l1 em1 k1 r1 => ⟨S1, env, b, M2, k1, ev.le l1, by rw [em1]; exact e3, fun y H2 S2 l2 em2 k2 r2 => ?_⟩⟩
  exact hR S2 x y H2 a b w M' k2 (r1.le l2) r2 (by rw [em2]; exact e4) (p.le (l1.trans l2))
end
theorem PE.imp {X : Cx} {e : Expr} {t t' : TE} (h : PE X e t) (hi : ∀ σ H Q, t' σ H Q → t σ H Q) : PE X e t' := ⟨fun pins s σ H Q I q => h.run pins s σ H Q I (hi σ H Q q)⟩
theorem PT.imp {X : Cx} {e : Expr} {t t' : TT} (h : PT X e t) (hi : ∀ σ H Q, t' σ H Q → t σ H Q) : PT X e t' := ⟨fun pins s σ H Q I q => h.run pins s σ H Q I (hi σ H Q q)⟩
theorem PW.imp {X : Cx} {e : Expr} {t t' : TT} (h : PW X e t) (hi : ∀ σ H Q, t' σ H Q → t σ H Q) : PW X e t' := ⟨fun wh pins s σ H Q I q => h.run wh pins s σ H Q I (hi σ H Q q)⟩
theorem PA.imp {X : Cx} {e : List Expr} {t t' : TA} (h : PA X e t) (hi : ∀ σ H Q, t' σ H Q → t σ H Q) : PA X e t' := ⟨fun pos pins s σ H Q I q => h.run pos pins s σ H Q I (hi σ H Q q)⟩
theorem PS.imp {X : Cx} {e : Stmt} {t t' : TS} (h : PS X e t) (hi : ∀ D σ H, t' D σ H → t D σ H) : PS X e t' := ⟨fun pins s σ H D I q => h.run pins s σ H D I (hi D σ H q)⟩
theorem PSs.imp {X : Cx} {e : List Stmt} {t t' : TS} (h : PSs X e t) (hi : ∀ D σ H, t' D σ H → t D σ H) : PSs X e t' := ⟨fun pins s σ H D I q => h.run pins s σ H D I (hi D σ H q)⟩
end NW

set_option Elab.async false
set_option linter.all false
set_option maxRecDepth 100000
set_option maxHeartbeats 4000000
/-! The operators: what a rule of the layer asks follows from what my evaluator says. -/
namespace NW
open PySem PySem.Spec PyProof.Rows L2

theorem big_line {n : Nat} (h : n ≤ big) : n ≤ sizeLine := by rw [sizeLine_eq]; unfold big at h; omega
theorem big_lt {n : Nat} (h : n < big) : n < sizeLine := by rw [sizeLine_eq]; unfold big at h; omega

/-! ### flat data may be compared -/
theorem canAll_of {p : D → Bool} : ∀ {xs : List D}, (∀ x ∈ xs, x.canLay0 = true) → PyData.canLayAll0 xs = true
  | [], _ => by simp only [PyData.canLayAll0]
  | x :: xs, h => by
    simp only [PyData.canLayAll0, h x List.mem_cons_self, canAll_of (p := p) fun y hy => h y (List.mem_cons_of_mem _ hy), Bool.and_self]
theorem depAll_of {n : Nat} : ∀ {xs : List D}, (∀ x ∈ xs, x.depth ≤ n) → PyData.depthAll xs ≤ n
  | [], _ => by simp only [PyData.depthAll]; exact Nat.zero_le _
  | x :: xs, h => by
    have h1 := h x List.mem_cons_self
    have h2 := depAll_of (n := n) fun y hy => h y (List.mem_cons_of_mem _ hy)
    simp only [PyData.depthAll]
    exact Nat.max_le.mpr ⟨h1, h2⟩
theorem flat_ok : ∀ (n : Nat) (d : D), flatD n d = true → d.canLay0 = true ∧ d.depth ≤ n
  | 0, d, h => by
    cases d with
    | none => exact ⟨by simp only [PyData.canLay0], by simp only [PyData.depth]; exact Nat.le_refl _⟩
    | bool b => exact ⟨by simp only [PyData.canLay0], by simp only [PyData.depth]; exact Nat.le_refl _⟩
    | int i => exact ⟨by simp only [PyData.canLay0], by simp only [PyData.depth]; exact Nat.le_refl _⟩
    | str s => exact ⟨by simp only [PyData.canLay0]; exact h, by simp only [PyData.depth]; exact Nat.le_refl _⟩
    | list xs => cases h
    | tuple xs => cases h
    | dict xs => cases h
  | n + 1, d, h => by
    cases d with
    | none => exact ⟨by simp only [PyData.canLay0], by simp only [PyData.depth]; exact Nat.zero_le _⟩
    | bool b => exact ⟨by simp only [PyData.canLay0], by simp only [PyData.depth]; exact Nat.zero_le _⟩
    | int i => exact ⟨by simp only [PyData.canLay0], by simp only [PyData.depth]; exact Nat.zero_le _⟩
    | str s => exact ⟨by simp only [PyData.canLay0]; exact h, by simp only [PyData.depth]; exact Nat.zero_le _⟩
    | list xs =>
      have h1 : xs.all (flatD n) = true := h
      have h2 := fun x hx => flat_ok n x (List.all_eq_true.mp h1 x hx)
      exact ⟨by simp only [PyData.canLay0]; exact canAll_of (p := flatD n) fun x hx => (h2 x hx).1, by simp only [PyData.depth]; exact Nat.succ_le_succ (depAll_of fun x hx => (h2 x hx).2)⟩
    | tuple xs =>
      have h1 : xs.all (flatD n) = true := h
      have h2 := fun x hx => flat_ok n x (List.all_eq_true.mp h1 x hx)
      exact ⟨by simp only [PyData.canLay0]; exact canAll_of (p := flatD n) fun x hx => (h2 x hx).1, by simp only [PyData.depth]; exact Nat.succ_le_succ (depAll_of fun x hx => (h2 x hx).2)⟩
    | dict xs => cases h
theorem flat_shaped {d : D} (h : flatD 20 d = true) : SeqAt.shaped d = true := by
  obtain ⟨h1, h2⟩ := flat_ok 20 d h
  unfold SeqAt.shaped
  rw [h1, decide_eq_true (by omega)]
  rfl
theorem flat_all {xs : List D} (h : xs.all (flatD 20) = true) : SeqAt.shaped (.list xs) = true ∧ SeqAt.shaped (.tuple xs) = true := by
  have h2 := fun x hx => flat_ok 20 x (List.all_eq_true.mp h x hx)
  have h3 : PyData.canLayAll0 xs = true := canAll_of (p := flatD 20) fun x hx => (h2 x hx).1
  have h4 : PyData.depthAll xs ≤ 20 := depAll_of fun x hx => (h2 x hx).2
  have h5 : PyData.depthAll xs + 1 ≤ 64 := Nat.le_trans (Nat.succ_le_succ h4) (by decide)
  constructor
  · unfold SeqAt.shaped
    simp only [PyData.canLay0, PyData.depth, h3, Bool.true_and]
    exact decide_eq_true h5
  · unfold SeqAt.shaped
    simp only [PyData.canLay0, PyData.depth, h3, Bool.true_and]
    exact decide_eq_true h5

section
variable {X : Cx} {a b : Expr} {fa fb : En → Mem → Option (Vl × Mem)} {pos : Pos}

/-! ### + - * // % ** -/
def rCatL (K : PySem.W.Frag) : R2 := fun x y H Q => ∃ l b xs zs, x = .ref l ∧ y = .ref b ∧ SqL K H l xs ∧ SqL K H b zs ∧ xs.length + zs.length ≤ sizeLine ∧ ∀ p, H p = none → Q (.ref p) (upd H p (.lst (xs ++ zs)))
theorem op_catL : OpR X (binaryOp .Add) (rCatL X.K) := by
  intro pins s σ H x y v u Q I rx ry h
  obtain ⟨l, b, xs, zs, rfl, rfl, hH, hB, hz, q⟩ := h
  cases rx
  cases ry
  obtain ⟨its, r, ⟨⟨c1, d1, da1, s1⟩, n1, e1, hc1, hd1, hx1⟩, _⟩ := I.list hH
  obtain ⟨its2, r2, ⟨⟨c2, d2, da2, s2⟩, n2, e2, hc2, hd2, hx2⟩, _⟩ := I.list hB
  have hl := r.length
  have hl2 := r2.length
  simp only at hc1 hd1 hx1 hc2 hd2 hx2
  subst hc1 hd1 hx1 hc2 hd2 hx2
  refine concat_meets ⟨_, e1, rfl⟩ ⟨_, e2, rfl⟩ noFill_list_add seq_list_add PySem.F.slot_list_add PySem.F.entry_list_add (PySem.F.args_list_add_2 _ _) (list_addW l b its.toArray its2.toArray n1 n2 none none s1 s2 (by simpa using (by omega : its.length + its2.length ≤ sizeLine))) ⟨e1, e2, ?_⟩
  have ea : its.toArray ++ its2.toArray = (its ++ its2).toArray := by simp
  rw [ea]
  exact ⟨.ref _, _, I.lnew (t' := s.toks) (r.append r2) (by rw [List.length_append]; omega), rfl, q _ I.fresh⟩
def opS : BOp → Operator
  | .add => .Add
  | .sub => .Sub
  | .mul => .Mult
  | .fdiv => .FloorDiv
  | .mod => .Mod
  | .pow => .Pow
theorem dat_tup {M : Mem} {a : Vl} {xs : List D} (h : dat M a = some (.tuple xs)) : a = .d (.tuple xs) := by
  cases a with
  | d x => exact congrArg Vl.d (Option.some.inj h)
  | m i =>
    have e : (match M[i]? with | some (.lst xs) => some (.list xs) | _ => none) = some (PyData.tuple xs) := h
    split at e <;> cases e
theorem Ok.list {K : PySem.W.Frag} {S : W3} {H : Hp} (k : Ok K S H) {v : V} {a : Vl} {xs : List D} (r : RV K S v a) (e : NW.dat S.M a = some (PyData.list xs)) : ∃ p vs, v = .ref p ∧ SqL K H p vs ∧ DpAll K S.B vs xs := by
  cases a with
  | d y =>
    have e1 : y = .list xs := Option.some.inj e
    subst e1
    obtain ⟨p, vs, h1, h2, h3⟩ := Dp.list_inv r
    exact ⟨p, vs, h1, Same.seq k.same h2, h3⟩
  | m i =>
    obtain ⟨h1, rfl⟩ : i < S.M.length ∧ v = .ref (S.ad i) := r
    have e1 : (match S.M[i]? with | some (.lst xs) => some (.list xs) | _ => none) = some (PyData.list xs) := e
    split at e1
    · rename_i ys q
      cases e1
      obtain ⟨vs, h2, h3, h4⟩ := k.lst q
      exact ⟨_, vs, rfl, .of h2, h3⟩
    · cases e1
theorem pe_bin {op : BOp} (ha : PE X a (tV X.K fa)) (hb : PE X b (tV X.K fb)) : PE X (.BinOp a (opS op) b pos) (tV X.K fun env M => (fa env M).bind fun r => (fb env r.2).bind fun q => evBin op r.1 q.1 q.2) := by
  cases op with
  | add =>
    refine PE.imp (pe_op (op_add.or (op_catA.or (op_catL.or op_add_str))) ha hb) fun σ H Q h => tV.bin h fun S x y H' a b w M' k r1 r2 e p => ?_
    have e0 : evAdd a b S.M = some (w, M') := e
    unfold evAdd at e0
    split at e0
    · rename_i i j q1 q2
      have h1 := k.dat r1 q1
      have h2 := k.dat r2 q2
      obtain ⟨rfl, rfl⟩ : Vl.d (.int (i + j)) = w ∧ S.M = M' := by simpa using e0
      exact .inl ⟨i, j, Dp.int_inv h1, Dp.int_inv h2, p.here k (.int _)⟩
    · rename_i xs ys q1 q2
      split at e0
      · rename_i hz
        obtain ⟨rfl, rfl⟩ : Vl.d (.tuple (xs ++ ys)) = w ∧ S.M = M' := by simpa using e0
        have ea := dat_tup q1
        have eb := dat_tup q2
        subst ea eb
        obtain ⟨p1, vs, rfl, s1, d1⟩ := Dp.tuple_inv r1
        obtain ⟨p2, ws, rfl, s2, d2⟩ := Dp.tuple_inv r2
        refine .inr (.inl ⟨p1, p2, vs, ws, rfl, rfl, SqT.same k.same s1, SqT.same k.same s2, by rw [d1.length, d2.length]; exact big_line hz, fun h0 => ?_, fun _ h0 => ?_, fun _ _ => p.newT k (d1.append d2)⟩)
        · subst h0
          cases d1
          exact p.here k r2
        · subst h0
          cases d2
          rw [List.append_nil] at p
          exact p.here k r1
      · cases e0
    · rename_i xs ys q1 q2
      split at e0
      · rename_i hz
        obtain ⟨rfl, rfl⟩ : Vl.d (.list (xs ++ ys)) = w ∧ S.M = M' := by simpa using e0
        obtain ⟨p1, vs, rfl, s1, d1⟩ := k.list r1 q1
        obtain ⟨p2, ws, rfl, s2, d2⟩ := k.list r2 q2
        exact .inr (.inr (.inl ⟨p1, p2, vs, ws, rfl, rfl, s1, s2, by rw [d1.length, d2.length]; exact big_line hz, p.newL k (d1.append d2)⟩))
      · cases e0
    · rename_i z z' q1 q2
      split at e0
      · rename_i hz
        have h1 := k.dat r1 q1
        have h2 := k.dat r2 q2
        obtain ⟨rfl, rfl⟩ : Vl.d (.str (z ++ z')) = w ∧ S.M = M' := by simpa using e0
        exact .inr (.inr (.inr ⟨z, z', Dp.str_inv h1, Dp.str_inv h2, big_line hz, p.here k (.str _)⟩))
      · cases e0
    · cases e0
  | sub =>
    refine PE.imp (pe_op op_sub ha hb) fun σ H Q h => tV.bin h fun S x y H' a b w M' k r1 r2 e p => ?_
    rcases a with (_ | _ | i | _ | _ | _ | _) | _ <;> rcases b with (_ | _ | j | _ | _ | _ | _) | _ <;> first | cases e | skip
    exact ⟨i, j, Dp.int_inv r1, Dp.int_inv r2, p.here k (.int _)⟩
  | mul =>
    refine PE.imp (pe_op op_mulW ha hb) fun σ H Q h => tV.bin h fun S x y H' a b w M' k r1 r2 e p => ?_
    rcases a with (_ | _ | i | _ | _ | _ | _) | _ <;> rcases b with (_ | _ | j | _ | _ | _ | _) | _ <;> first | cases e | skip
    have e1 : (if mulOk i j then some (Vl.d (.int (i * j)), S.M) else none) = some (w, M') := e
    split at e1
    · rename_i hz
      obtain ⟨rfl, rfl⟩ : Vl.d (.int (i * j)) = w ∧ S.M = M' := by simpa using e1
      exact ⟨i, j, Dp.int_inv r1, Dp.int_inv r2, (of_decide_eq_true hz : i.natAbs.log2 + j.natAbs.log2 < 1000000), p.here k (.int _)⟩
    · cases e1
  | fdiv =>
    refine PE.imp (pe_op op_fdivW ha hb) fun σ H Q h => tV.bin h fun S x y H' a b w M' k r1 r2 e p => ?_
    rcases a with (_ | _ | i | _ | _ | _ | _) | _ <;> rcases b with (_ | _ | j | _ | _ | _ | _) | _ <;> first | cases e | skip
    have e1 : (if divOk j then some (Vl.d (.int (i / j)), S.M) else none) = some (w, M') := e
    split at e1
    · rename_i hz
      obtain ⟨rfl, rfl⟩ : Vl.d (.int (i / j)) = w ∧ S.M = M' := by simpa using e1
      obtain ⟨h1, h2⟩ := Bool.and_eq_true_iff.mp hz
      exact ⟨i, j, Dp.int_inv r1, Dp.int_inv r2, ⟨of_decide_eq_true h1, of_decide_eq_true h2⟩, p.here k (.int _)⟩
    · cases e1
  | mod =>
    refine PE.imp (pe_op op_modN ha hb) fun σ H Q h => tV.bin h fun S x y H' a b w M' k r1 r2 e p => ?_
    rcases a with (_ | _ | i | _ | _ | _ | _) | _ <;> rcases b with (_ | _ | j | _ | _ | _ | _) | _ <;> first | cases e | skip
    have e1 : (if j ≠ 0 then some (Vl.d (.int (i.fmod j)), S.M) else none) = some (w, M') := e
    split at e1
    · rename_i hz
      obtain ⟨rfl, rfl⟩ : Vl.d (.int (i.fmod j)) = w ∧ S.M = M' := by simpa using e1
      exact ⟨i, j, Dp.int_inv r1, Dp.int_inv r2, hz, p.here k (.int _)⟩
    · cases e1
  | pow =>
    refine PE.imp (pe_op op_pow ha hb) fun σ H Q h => tV.bin h fun S x y H' a b w M' k r1 r2 e p => ?_
    rcases a with (_ | _ | i | _ | _ | _ | _) | _ <;> rcases b with (_ | _ | j | _ | _ | _ | _) | _ <;> first | cases e | skip
    have e1 : (if powOk i j then some (Vl.d (.int (i ^ j.toNat)), S.M) else none) = some (w, M') := e
    split at e1
    · rename_i hz
      obtain ⟨rfl, rfl⟩ : Vl.d (.int (i ^ j.toNat)) = w ∧ S.M = M' := by simpa using e1
      obtain ⟨h1, h2⟩ := Bool.and_eq_true_iff.mp hz
      obtain ⟨h2, h3⟩ := Bool.and_eq_true_iff.mp h2
      have h4 := of_decide_eq_true h2
      exact ⟨i, j, Dp.int_inv r1, Dp.int_inv r2, ⟨of_decide_eq_true h1, by omega, of_decide_eq_true h3⟩, p.here k (.int _)⟩
    · cases e1
theorem pe_neg (ha : PE X a (tV X.K fa)) : PE X (.UnaryOp .USub a pos) (tV X.K fun env M => (fa env M).bind fun r => evNeg r.1 r.2) := by
  refine PE.imp (pe_un un_neg ha) fun σ H Q h => tV.un (g := evNeg) h fun S x H' a w M' k r1 e p => ?_
  rcases a with (_ | _ | i | _ | _ | _ | _) | _ <;> first | cases e | skip
  exact ⟨i, Dp.int_inv r1, p.here k (.int _)⟩

/-! ### comparisons -/
def opC : COp → CmpOp
  | .eq => .Eq
  | .ne => .NotEq
  | .lt => .Lt
  | .le => .LtE
  | .gt => .Gt
  | .ge => .GtE
  | .mem => .In
  | .nmem => .NotIn
/-- the reading of a comparison by my evaluator -/
def rC (K : PySem.W.Frag) (op : COp) : R2 := fun x y H Q => ∃ (S : W3) (a b : Vl) (c : Bool), Ok K S H ∧ RV K S x a ∧ RV K S y b ∧ evCmp op a b S.M = some c ∧ Q (.bl c) H
theorem op_inT (hu : X.A.units + 65 < cLine) : OpR X (compareOp .In) (fun x y H Q => ∃ d ds, Dp X.K H x d ∧ Dp X.K H y (.tuple ds) ∧ SeqAt.shaped d = true ∧ SeqAt.shaped (.tuple ds) = true ∧ Q (.bl (ds.any fun z => PyData.eqv z d)) H) := by
  intro pins s σ H x y v u Q I rx ry h
  obtain ⟨d, ds, hd, he, sd, se, q⟩ := h
  obtain ⟨as, r1⟩ := Dp.reads I d x v hd rx
  obtain ⟨bs, r2⟩ := Dp.reads I (.tuple ds) y u he ry
  exact SeqAt.in_tuple_reads r2 r1 (SeqAt.canLay_of_shaped se) (SeqAt.canLay_of_shaped sd) (room_in_shaped sd hu) ⟨.bl _, H, I, rfl, q⟩
theorem op_notInT (hu : X.A.units + 65 < cLine) : OpR X (compareOp .NotIn) (fun x y H Q => ∃ d ds, Dp X.K H x d ∧ Dp X.K H y (.tuple ds) ∧ SeqAt.shaped d = true ∧ SeqAt.shaped (.tuple ds) = true ∧ Q (.bl (!ds.any fun z => PyData.eqv z d)) H) := by
  intro pins s σ H x y v u Q I rx ry h
  obtain ⟨d, ds, hd, he, sd, se, q⟩ := h
  obtain ⟨as, r1⟩ := Dp.reads I d x v hd rx
  obtain ⟨bs, r2⟩ := Dp.reads I (.tuple ds) y u he ry
  exact SeqAt.notIn_tuple_reads r2 r1 (SeqAt.canLay_of_shaped se) (SeqAt.canLay_of_shaped sd) (room_in_shaped sd hu) ⟨.bl _, H, I, rfl, q⟩
theorem OpR.imp {f : Value → Value → Sem Value} {r r' : R2} (h : OpR X f r) (hi : ∀ x y H Q, r' x y H Q → r x y H Q) : OpR X f r' := fun pins s σ H x y v u Q I rx ry q => h pins s σ H x y v u Q I rx ry (hi x y H Q q)
theorem memD_inv {x : D} {xs : List D} {c : Bool} (h : memD x xs = some c) : flatD 20 x = true ∧ xs.all (flatD 20) = true ∧ (xs.any fun z => PyData.eqv z x) = c := by
  unfold memD at h
  split at h
  · rename_i q
    obtain ⟨h1, h2⟩ := Bool.and_eq_true_iff.mp q
    exact ⟨h1, h2, Option.some.inj h⟩
  · cases h
theorem evEq_inv {a b : Vl} {M : Mem} {c : Bool} (h : evEq a b M = some c) : ∃ x y, dat M a = some x ∧ dat M b = some y ∧ SeqAt.shaped x = true ∧ SeqAt.shaped y = true ∧ PyData.eqv x y = c := by
  unfold evEq at h
  obtain ⟨x, h1, h2⟩ := Option.bind_eq_some_iff.mp h
  obtain ⟨y, h3, h4⟩ := Option.bind_eq_some_iff.mp h2
  split at h4
  · rename_i q
    obtain ⟨q1, q2⟩ := Bool.and_eq_true_iff.mp q
    exact ⟨x, y, h1, h3, flat_shaped q1, flat_shaped q2, Option.some.inj h4⟩
  · cases h4
/-- what an «in» is, by its right side -/
theorem evMem_inv {a b : Vl} {M : Mem} {c : Bool} (h : evMem a b M = some c) : (∃ x xs, a = .d x ∧ dat M b = some (.list xs) ∧ memD x xs = some c) ∨ (∃ x xs, a = .d x ∧ dat M b = some (.tuple xs) ∧ memD x xs = some c) ∨
    (∃ x y, a = .d (.str x) ∧ b = .d (.str y) ∧ subS x y = c) := by
  unfold evMem at h
  split at h
  · rename_i x xs e
    exact .inl ⟨x, xs, rfl, e, h⟩
  · rename_i x xs e
    exact .inr (.inl ⟨x, xs, rfl, e, h⟩)
  · rename_i x y e
    refine .inr (.inr ⟨x, y, rfl, ?_, Option.some.inj h⟩)
    cases b with
    | d z =>
      have e1 : z = .str y := Option.some.inj e
      rw [e1]
    | m i =>
      have e1 : (match M[i]? with | some (.lst xs) => some (PyData.list xs) | _ => none) = some (.str y) := e
      split at e1 <;> cases e1
  · cases h
theorem op_cmp {op : COp} (hu : X.A.units + 65 < cLine) : OpR X (compareOp (opC op)) (rC X.K op) := by
  cases op with
  | eq =>
    refine OpR.imp (op_eqD (by omega)) fun x y H Q ⟨S, a, b, c, k, r1, r2, e, q⟩ => ?_
    obtain ⟨d1, d2, h1, h2, h3, h4, rfl⟩ := evEq_inv e
    exact ⟨d1, d2, k.dat r1 h1, k.dat r2 h2, h3, h4, q⟩
  | ne =>
    refine OpR.imp (op_neD (by omega)) fun x y H Q ⟨S, a, b, c, k, r1, r2, e, q⟩ => ?_
    obtain ⟨c', e', rfl⟩ := Option.map_eq_some_iff.mp (show (evEq a b S.M).map (!·) = some c from e)
    obtain ⟨d1, d2, h1, h2, h3, h4, rfl⟩ := evEq_inv e'
    exact ⟨d1, d2, k.dat r1 h1, k.dat r2 h2, h3, h4, q⟩
  | lt =>
    refine OpR.imp (op_lt.or op_lt_str) fun x y H Q ⟨S, a, b, c, k, r1, r2, e, q⟩ => ?_
    rcases a with (_ | _ | i | z | _ | _ | _) | _ <;> rcases b with (_ | _ | j | z' | _ | _ | _) | _ <;> first | cases e | skip
    · exact .inl ⟨i, j, Dp.int_inv r1, Dp.int_inv r2, q⟩
    · exact .inr ⟨z, z', Dp.str_inv r1, Dp.str_inv r2, q⟩
  | le =>
    refine OpR.imp op_le fun x y H Q ⟨S, a, b, c, k, r1, r2, e, q⟩ => ?_
    rcases a with (_ | _ | i | z | _ | _ | _) | _ <;> rcases b with (_ | _ | j | z' | _ | _ | _) | _ <;> first | cases e | skip
    exact ⟨i, j, Dp.int_inv r1, Dp.int_inv r2, q⟩
  | gt =>
    refine OpR.imp op_gt fun x y H Q ⟨S, a, b, c, k, r1, r2, e, q⟩ => ?_
    rcases a with (_ | _ | i | z | _ | _ | _) | _ <;> rcases b with (_ | _ | j | z' | _ | _ | _) | _ <;> first | cases e | skip
    exact ⟨i, j, Dp.int_inv r1, Dp.int_inv r2, q⟩
  | ge =>
    refine OpR.imp op_ge fun x y H Q ⟨S, a, b, c, k, r1, r2, e, q⟩ => ?_
    rcases a with (_ | _ | i | z | _ | _ | _) | _ <;> rcases b with (_ | _ | j | z' | _ | _ | _) | _ <;> first | cases e | skip
    exact ⟨i, j, Dp.int_inv r1, Dp.int_inv r2, q⟩
  | mem =>
    refine OpR.imp ((op_inD hu).or ((op_inT hu).or op_in_str)) fun x y H Q ⟨S, a, b, c, k, r1, r2, e, q⟩ => ?_
    rcases evMem_inv (show evMem a b S.M = some c from e) with ⟨d, ds, rfl, e1, e2⟩ | ⟨d, ds, rfl, e1, e2⟩ | ⟨z, z', rfl, rfl, rfl⟩
    · obtain ⟨f1, f2, rfl⟩ := memD_inv e2
      exact .inl ⟨d, ds, k.dat r1 rfl, k.dat r2 e1, flat_shaped f1, (flat_all f2).1, q⟩
    · obtain ⟨f1, f2, rfl⟩ := memD_inv e2
      exact .inr (.inl ⟨d, ds, k.dat r1 rfl, k.dat r2 e1, flat_shaped f1, (flat_all f2).2, q⟩)
    · exact .inr (.inr ⟨z, z', Dp.str_inv r1, Dp.str_inv r2, q⟩)
  | nmem =>
    refine OpR.imp ((op_notInD hu).or ((op_notInT hu).or op_notIn_str)) fun x y H Q ⟨S, a, b, c, k, r1, r2, e, q⟩ => ?_
    obtain ⟨c', e', rfl⟩ := Option.map_eq_some_iff.mp (show (evMem a b S.M).map (!·) = some c from e)
    rcases evMem_inv e' with ⟨d, ds, rfl, e1, e2⟩ | ⟨d, ds, rfl, e1, e2⟩ | ⟨z, z', rfl, rfl, rfl⟩
    · obtain ⟨f1, f2, rfl⟩ := memD_inv e2
      exact .inl ⟨d, ds, k.dat r1 rfl, k.dat r2 e1, flat_shaped f1, (flat_all f2).1, q⟩
    · obtain ⟨f1, f2, rfl⟩ := memD_inv e2
      exact .inr (.inl ⟨d, ds, k.dat r1 rfl, k.dat r2 e1, flat_shaped f1, (flat_all f2).2, q⟩)
    · exact .inr (.inr ⟨z, z', Dp.str_inv r1, Dp.str_inv r2, q⟩)
end
end NW

set_option Elab.async false
set_option linter.all false
set_option maxRecDepth 100000
set_option maxHeartbeats 4000000
/-! Expressions, one by one: the layer's rule for a construct, read by my evaluator. -/
namespace NW
open PySem PySem.Spec PyProof.Rows L2

/-! ### shapes of the syntax that the rules ask for -/
def notStar : Expr → Bool
  | .Starred .. => false
  | _ => true
theorem star_cons {e : Expr} {es : List Expr} {env : Env} (h : notStar e = true) : starEach (e :: es) env = (false, eval e env) :: starEach es env := by
  cases e <;> first | rfl | cases h
theorem star_plain {pos : Pos} {env : Env} : ∀ {es : List Expr}, es.all notStar = true → (backTo pos (starEach es env)).any (·.1) = false
  | [], _ => rfl
  | e :: es, h => by
    rw [List.all_cons] at h
    obtain ⟨h1, h2⟩ := Bool.and_eq_true_iff.mp h
    rw [star_cons h1]
    have ih := star_plain (pos := pos) (env := env) h2
    show (false || (backTo pos (starEach es env)).any (·.1)) = false
    rw [ih]
    rfl
def plainT : Expr → Bool
  | .UnaryOp .Not _ _ => false
  | .BoolOp .. => false
  | .IfExp .. => false
  | .Compare .. => false
  | _ => true
theorem isTrue_plainT {e : Expr} {env : Env} (h : plainT e = true) : ∀ whole, isTrue e env whole = (do let v ← whole; standAt e.pos; holding [v] (truthy v)) := by
  intro whole
  cases e with
  | UnaryOp op x p => cases op <;> first | rfl | cases h
  | BoolOp op vs p => cases h
  | IfExp a b c p => cases h
  | Compare a ops cs p => cases h
  | _ => rfl
def notSlice : Expr → Bool
  | .Slice .. => false
  | _ => true
theorem plainIx_of {e : Expr} (h : notSlice e = true) : PlainIx e := by
  intro o i
  cases e <;> first | rfl | cases h

section
variable {X : Cx} {a b c : Expr} {fa fb fc : En → Mem → Option (Vl × Mem)} {pos : Pos}

/-! ### names, constants -/
theorem pe_varN {i : Nat} (h : PE X a (tVar i)) : PE X a (tV X.K fun env M => evVar env i M) := by
  refine PE.imp h fun σ H Q ⟨S, env, w, M', k, ev, e, p⟩ => ?_
  simp only [evVar] at e
  split at e
  · rename_i v q
    obtain ⟨rfl, rfl⟩ : v = w ∧ S.M = M' := by simpa using e
    obtain ⟨x, e1, r⟩ := ev.at_ i v q
    exact ⟨x, e1, p.here k r⟩
  · cases e
theorem pe_cst {v : V} {x : D} (h : PE X a (tC v)) (hx : ∀ B, Dp X.K B v x) : PE X a (tV X.K fun _ M => some (.d x, M)) := by
  refine PE.imp h fun σ H Q ⟨S, env, w, M', k, ev, e, p⟩ => ?_
  obtain ⟨rfl, rfl⟩ : Vl.d x = w ∧ S.M = M' := by simpa using e
  exact p.here k (hx S.B)

/-! ### comparisons as values, as tests; is None; chains -/
theorem cmp_rd {op : COp} {σ : L2.St} {H : Hp} {Q : VK} (h : tV X.K (fun env M => (fa env M).bind fun r => (fb env r.2).bind fun q => (evCmp op r.1 q.1 q.2).map fun c => (.d (.bool c), q.2)) σ H Q) :
    tV X.K fa σ H fun x H1 => tV X.K fb σ H1 fun y H2 => rC X.K op x y H2 Q :=
  tV.bin (g := fun v u M => (evCmp op v u M).map fun c => (.d (.bool c), M)) h fun S x y H' a b w M' k r1 r2 e p => by
    obtain ⟨c, e1, e2⟩ := Option.map_eq_some_iff.mp e
    obtain ⟨rfl, rfl⟩ : Vl.d (.bool c) = w ∧ S.M = M' := by simpa using e2
    exact ⟨S, a, b, c, k, r1, r2, e1, p.here k (.bl c)⟩
/-- a test from a value that is a bool -/
theorem tT_of {f : En → Mem → Option (Vl × Mem)} {σ : L2.St} {H : Hp} {Q : Bool → Hp → Prop} (h : tT X.K (fun env M => tstB (f env M)) σ H Q) : tV X.K f σ H fun x H1 => ∃ k, x = .bl k ∧ Q k H1 := by
  obtain ⟨S, env, b, M', k, ev, e, p⟩ := h
  obtain ⟨⟨w, M1⟩, e1, e2⟩ := Option.bind_eq_some_iff.mp (show (f env S.M).bind (fun r => (boolV r.1).map fun b => (b, r.2)) = some (b, M') from e)
  obtain ⟨b', e3, e4⟩ := Option.map_eq_some_iff.mp e2
  obtain ⟨rfl, rfl⟩ : b' = b ∧ M1 = M' := by simpa using e4
  have ew : w = .d (.bool b') := by
    cases w with
    | m i => cases e3
    | d x =>
      cases x with
      | bool bb =>
        have : bb = b' := Option.some.inj e3
        rw [this]
      | _ => cases e3
  subst ew
  exact ⟨S, env, .d (.bool b'), M1, k, ev, e1, fun v H' S' l em k' r => ⟨b', Dp.bool_inv r, p H' S' l em k'⟩⟩
theorem pe_cmpN {op : COp} (hu : X.A.units + 65 < cLine) (ha : PE X a (tV X.K fa)) (hb : PE X b (tV X.K fb)) (hm : behindInMarks (opC op) b = false) :
    PE X (.Compare a [opC op] [b] pos) (tV X.K fun env M => (fa env M).bind fun r => (fb env r.2).bind fun q => (evCmp op r.1 q.1 q.2).map fun c => (.d (.bool c), q.2)) :=
  PE.imp (pe_cmpR (op_cmp hu) ha hb hm) fun σ H Q h => cmp_rd h
theorem pt_cmpN {op : COp} (hu : X.A.units + 65 < cLine) (ha : PE X a (tV X.K fa)) (hb : PE X b (tV X.K fb)) (hm : behindInMarks (opC op) b = false) :
    PT X (.Compare a [opC op] [b] pos) (tT X.K fun env M => tstB ((fa env M).bind fun r => (fb env r.2).bind fun q => (evCmp op r.1 q.1 q.2).map fun c => (.d (.bool c), q.2))) :=
  PT.imp (pt_cmpR (op_cmp hu) ha hb hm) fun σ H Q h => cmp_rd (tT_of h)
/-- x is None, x is not None -/
theorem isN_iff {K : PySem.W.Frag} {S : W3} {x : V} {a : Vl} (r : RV K S x a) : decide (x = .non) = isNV a := by
  rcases a with (_ | _ | _ | _ | _ | _ | _) | i
  · cases r; rfl
  · cases r; rfl
  · cases r; rfl
  · cases r; rfl
  · cases r; rfl
  · cases r; rfl
  · cases r
  · obtain ⟨_, rfl⟩ : i < S.M.length ∧ x = .ref (S.ad i) := r
    rfl
theorem pe_isN {j : Nat} {p2 : Pos} (ha : PE X a (tV X.K fa)) : PE X (.Compare a [.Is] [.Constant .none j p2] pos) (tV X.K fun env M => (fa env M).bind fun r => some (.d (.bool (isNV r.1)), r.2)) := by
  refine PE.imp (pe_cmpR op_isN ha pe_non (nomark _)) fun σ H Q h => ?_
  refine tV.un (g := fun v M => some (.d (.bool (isNV v)), M)) h fun S x H' a w M' k r e p => ?_
  obtain ⟨rfl, rfl⟩ : Vl.d (.bool (isNV a)) = w ∧ S.M = M' := by simpa using e
  refine ⟨rfl, ?_⟩
  rw [isN_iff r]
  exact p.here k (.bl _)
theorem pt_isN {j : Nat} {p2 : Pos} (ha : PE X a (tV X.K fa)) : PT X (.Compare a [.Is] [.Constant .none j p2] pos) (tT X.K fun env M => tstB ((fa env M).bind fun r => some (.d (.bool (isNV r.1)), r.2))) := by
  refine PT.imp (pt_cmpR op_isN ha pe_non (nomark _)) fun σ H Q h => ?_
  refine tV.un (g := fun v M => some (.d (.bool (isNV v)), M)) (tT_of h) fun S x H' a w M' k r e p => ?_
  obtain ⟨rfl, rfl⟩ : Vl.d (.bool (isNV a)) = w ∧ S.M = M' := by simpa using e
  refine ⟨rfl, ?_⟩
  rw [isN_iff r]
  exact p.here k (.bl _)
theorem pe_notN {j : Nat} {p2 : Pos} (ha : PE X a (tV X.K fa)) : PE X (.Compare a [.IsNot] [.Constant .none j p2] pos) (tV X.K fun env M => (fa env M).bind fun r => some (.d (.bool (!isNV r.1)), r.2)) := by
  refine PE.imp (pe_cmpR op_notN ha pe_non (nomark _)) fun σ H Q h => ?_
  refine tV.un (g := fun v M => some (.d (.bool (!isNV v)), M)) h fun S x H' a w M' k r e p => ?_
  obtain ⟨rfl, rfl⟩ : Vl.d (.bool (!isNV a)) = w ∧ S.M = M' := by simpa using e
  refine ⟨rfl, ?_⟩
  rw [isN_iff r]
  exact p.here k (.bl _)
theorem pt_notN {j : Nat} {p2 : Pos} (ha : PE X a (tV X.K fa)) : PT X (.Compare a [.IsNot] [.Constant .none j p2] pos) (tT X.K fun env M => tstB ((fa env M).bind fun r => some (.d (.bool (!isNV r.1)), r.2))) := by
  refine PT.imp (pt_cmpR op_notN ha pe_non (nomark _)) fun σ H Q h => ?_
  refine tV.un (g := fun v M => some (.d (.bool (!isNV v)), M)) (tT_of h) fun S x H' a w M' k r e p => ?_
  obtain ⟨rfl, rfl⟩ : Vl.d (.bool (!isNV a)) = w ∧ S.M = M' := by simpa using e
  refine ⟨rfl, ?_⟩
  rw [isN_iff r]
  exact p.here k (.bl _)
theorem chain_rd {o1 o2 : COp} {σ : L2.St} {H : Hp} {Q : VK} (h : tV X.K (fun env M => (fa env M).bind fun r => (fb env r.2).bind fun q => (evCmp o1 r.1 q.1 q.2).bind fun k =>
      if k = true then (fc env q.2).bind fun p => (evCmp o2 q.1 p.1 p.2).map fun k => (.d (.bool k), p.2) else some (.d (.bool false), q.2)) σ H Q) :
    tChain (rC X.K o1) (rC X.K o2) (tV X.K fa) (tV X.K fb) (tV X.K fc) σ H Q := by
  obtain ⟨S, env, w, M', k, ev, e, p⟩ := h
  obtain ⟨⟨a, M1⟩, e1, e2⟩ := Option.bind_eq_some_iff.mp e
  obtain ⟨⟨b, M2⟩, e3, e4⟩ := Option.bind_eq_some_iff.mp e2
  obtain ⟨c, e5, e6⟩ := Option.bind_eq_some_iff.mp e4
  refine ⟨S, env, a, M1, k, ev, e1, fun x H1 S1 l1 em1 k1 r1 => ⟨S1, env, b, M2, k1, ev.le l1, by rw [em1]; exact e3, fun y H2 S2 l2 em2 k2 r2 => ?_⟩⟩
  refine ⟨S2, a, b, c, k2, r1.le l2, r2, by rw [em2]; exact e5, c, rfl, ?_⟩
  cases c with
  | true =>
    rw [if_pos rfl] at e6 ⊢
    obtain ⟨⟨d, M3⟩, e7, e8⟩ := Option.bind_eq_some_iff.mp e6
    obtain ⟨c2, e9, e10⟩ := Option.map_eq_some_iff.mp e8
    obtain ⟨rfl, rfl⟩ : Vl.d (.bool c2) = w ∧ M3 = M' := by simpa using e10
    refine ⟨S2, env, d, M3, k2, ev.le (l1.trans l2), by rw [em2]; exact e7, fun z H3 S3 l3 em3 k3 r3 => ?_⟩
    exact ⟨S3, b, d, c2, k3, r2.le l3, r3, by rw [em3]; exact e9, p _ _ S3 ((l1.trans l2).trans l3) em3 k3 (.bl _)⟩
  | false =>
    rw [if_neg Bool.false_ne_true] at e6 ⊢
    obtain ⟨rfl, rfl⟩ : Vl.d (.bool false) = w ∧ M2 = M' := by simpa using e6
    exact p _ _ S2 (l1.trans l2) em2 k2 (.bl _)
theorem pe_chainN {o1 o2 : COp} (hu : X.A.units + 65 < cLine) (ha : PE X a (tV X.K fa)) (hb : PE X b (tV X.K fb)) (hc : PE X c (tV X.K fc)) (hm : behindInMarks (opC o2) c = false) :
    PE X (.Compare a [opC o1, opC o2] [b, c] pos) (tV X.K fun env M => (fa env M).bind fun r => (fb env r.2).bind fun q => (evCmp o1 r.1 q.1 q.2).bind fun k =>
      if k = true then (fc env q.2).bind fun p => (evCmp o2 q.1 p.1 p.2).map fun k => (.d (.bool k), p.2) else some (.d (.bool false), q.2)) :=
  PE.imp (pe_chain (op_cmp hu) (op_cmp hu) ha hb hc hm) fun σ H Q h => chain_rd h
theorem pt_chainN {o1 o2 : COp} (hu : X.A.units + 65 < cLine) (ha : PE X a (tV X.K fa)) (hb : PE X b (tV X.K fb)) (hc : PE X c (tV X.K fc)) (hm : behindInMarks (opC o2) c = false) :
    PT X (.Compare a [opC o1, opC o2] [b, c] pos) (tT X.K fun env M => tstB ((fa env M).bind fun r => (fb env r.2).bind fun q => (evCmp o1 r.1 q.1 q.2).bind fun k =>
      if k = true then (fc env q.2).bind fun p => (evCmp o2 q.1 p.1 p.2).map fun k => (.d (.bool k), p.2) else some (.d (.bool false), q.2))) :=
  PT.imp (pt_chain (op_cmp hu) (op_cmp hu) ha hb hc hm) fun σ H Q h => chain_rd (tT_of h)

/-! ### and, or, not, if -/
theorem tB_rd {σ : L2.St} {H : Hp} {Q : VK} {g : Bool → En → Mem → Option (Vl × Mem)} (h : tV X.K (fun env M => (tstB (fa env M)).bind fun r => g r.1 env r.2) σ H Q) : tV X.K fa σ H fun x H1 => ∃ c, x = .bl c ∧ tV X.K (g c) σ H1 Q := by
  obtain ⟨S, env, w, M', k, ev, e, p⟩ := h
  obtain ⟨⟨b, M1⟩, e1, e2⟩ := Option.bind_eq_some_iff.mp e
  exact tT_of ⟨S, env, b, M1, k, ev, e1, fun H1 S1 l1 em1 k1 => ⟨S1, env, w, M', k1, ev.le l1, by rw [em1]; exact e2, p.le l1⟩⟩
theorem tTT_rd {σ : L2.St} {H : Hp} {Q : Bool → Hp → Prop} {fe : En → Mem → Option (Bool × Mem)} {g : Bool → En → Mem → Option (Bool × Mem)} (h : tT X.K (fun env M => (fe env M).bind fun r => g r.1 env r.2) σ H Q) : tT X.K fe σ H fun c H1 => tT X.K (g c) σ H1 Q := by
  obtain ⟨S, env, w, M', k, ev, e, p⟩ := h
  obtain ⟨⟨b, M1⟩, e1, e2⟩ := Option.bind_eq_some_iff.mp e
  exact ⟨S, env, b, M1, k, ev, e1, fun H1 S1 l1 em1 k1 => ⟨S1, env, w, M', k1, ev.le l1, by rw [em1]; exact e2, fun H' S' l' => p H' S' (l1.trans l')⟩⟩
theorem tVT_rd {σ : L2.St} {H : Hp} {Q : VK} {fe : En → Mem → Option (Bool × Mem)} {g : Bool → En → Mem → Option (Vl × Mem)} (h : tV X.K (fun env M => (fe env M).bind fun r => g r.1 env r.2) σ H Q) : tT X.K fe σ H fun c H1 => tV X.K (g c) σ H1 Q := by
  obtain ⟨S, env, w, M', k, ev, e, p⟩ := h
  obtain ⟨⟨b, M1⟩, e1, e2⟩ := Option.bind_eq_some_iff.mp e
  exact ⟨S, env, b, M1, k, ev, e1, fun H1 S1 l1 em1 k1 => ⟨S1, env, w, M', k1, ev.le l1, by rw [em1]; exact e2, p.le l1⟩⟩
theorem tC_rd {x : D} {v : V} (hx : ∀ B, Dp X.K B v x) {σ : L2.St} {H : Hp} {Q : VK} (h : tV X.K (fun _ M => some (.d x, M)) σ H Q) : Q v H := by
  obtain ⟨S, env, w, M', k, ev, e, p⟩ := h
  obtain ⟨rfl, rfl⟩ : Vl.d x = w ∧ S.M = M' := by simpa using e
  exact p.here k (hx _)
theorem tTC_rd {x : Bool} {σ : L2.St} {H : Hp} {Q : Bool → Hp → Prop} (h : tT X.K (fun _ M => some (x, M)) σ H Q) : Q x H := by
  obtain ⟨S, env, w, M', k, ev, e, p⟩ := h
  obtain ⟨rfl, rfl⟩ : x = w ∧ S.M = M' := by simpa using e
  exact p H S (Le.refl _) rfl k
theorem pe_notV (ha : PE X a (tV X.K fa)) : PE X (.UnaryOp .Not a pos) (tV X.K fun env M => (tstB (fa env M)).map fun r => (.d (.bool (!r.1)), r.2)) := by
  refine PE.imp (pe_not ha) fun σ H Q h => ?_
  have h2 : tV X.K (fun env M => (tstB (fa env M)).bind fun r => (fun b (_ : En) M => some (Vl.d (.bool (!b)), M)) r.1 env r.2) σ H Q := by
    simpa only [Option.map_eq_bind, Function.comp_def] using h
  exact tV.mono (tB_rd h2) fun v H' ⟨c, e, q⟩ => ⟨c, e, tC_rd (fun B => .bl _) q⟩
theorem pt_notT (ha : PT X a (tT X.K fun env M => tstB (fa env M))) : PT X (.UnaryOp .Not a pos) (tT X.K fun env M => tstB ((tstB (fa env M)).map fun r => (.d (.bool (!r.1)), r.2))) := by
  refine PT.imp (pt_not ha) fun σ H Q h => ?_
  obtain ⟨S, env, b, M', k, ev, e, p⟩ := h
  obtain ⟨⟨w, M1⟩, e1, e2⟩ := Option.bind_eq_some_iff.mp e
  obtain ⟨⟨b1, M2⟩, e3, e4⟩ := Option.map_eq_some_iff.mp e1
  obtain ⟨rfl, rfl⟩ : Vl.d (.bool (!b1)) = w ∧ M2 = M1 := by simpa using e4
  obtain ⟨rfl, rfl⟩ : (!b1) = b ∧ M2 = M' := by simpa [boolV] using e2
  exact ⟨S, env, b1, M2, k, ev, e3, p⟩
def evAnd (fa fb : En → Mem → Option (Vl × Mem)) : En → Mem → Option (Vl × Mem) := fun env M => (tstB (fa env M)).bind fun r => if r.1 = true then fb env r.2 else some (.d (.bool false), r.2)
def evOr (fa fb : En → Mem → Option (Vl × Mem)) : En → Mem → Option (Vl × Mem) := fun env M => (tstB (fa env M)).bind fun r => if r.1 = true then some (.d (.bool true), r.2) else fb env r.2
theorem and_rd {σ : L2.St} {H : Hp} {Q : VK} (h : tV X.K (evAnd fa fb) σ H Q) : tAndV (tV X.K fa) (tV X.K fb) σ H Q := by
  have h2 := tB_rd (g := fun b env M => if b = true then fb env M else some (.d (.bool false), M)) h
  refine tV.mono h2 fun v H' ⟨c, e, q⟩ => ⟨c, e, ?_⟩
  cases c with
  | true =>
    rw [if_pos rfl]
    simpa using q
  | false =>
    rw [if_neg Bool.false_ne_true]
    exact tC_rd (fun B => .bl _) (by simpa using q)
theorem or_rd {σ : L2.St} {H : Hp} {Q : VK} (h : tV X.K (evOr fa fb) σ H Q) : tOrV (tV X.K fa) (tV X.K fb) σ H Q := by
  have h2 := tB_rd (g := fun b env M => if b = true then some (.d (.bool true), M) else fb env M) h
  refine tV.mono h2 fun v H' ⟨c, e, q⟩ => ⟨c, e, ?_⟩
  cases c with
  | true =>
    rw [if_pos rfl]
    exact tC_rd (fun B => .bl _) (by simpa using q)
  | false =>
    rw [if_neg Bool.false_ne_true]
    simpa using q
theorem andT_rd {σ : L2.St} {H : Hp} {Q : Bool → Hp → Prop} (h : tT X.K (fun env M => tstB (evAnd fa fb env M)) σ H Q) : tAnd (tT X.K fun env M => tstB (fa env M)) (tT X.K fun env M => tstB (fb env M)) σ H Q := by
  have h1 : tT X.K (fun env M => (tstB (fa env M)).bind fun r => (fun b env M => if b = true then tstB (fb env M) else some (false, M)) r.1 env r.2) σ H Q := by
    obtain ⟨S, env, b, M', k, ev, e, p⟩ := h
    refine ⟨S, env, b, M', k, ev, ?_, p⟩
    have e' : tstB ((tstB (fa env S.M)).bind fun r => if r.1 = true then fb env r.2 else some (.d (.bool false), r.2)) = some (b, M') := e
    show ((tstB (fa env S.M)).bind fun r => if r.1 = true then tstB (fb env r.2) else some (false, r.2)) = some (b, M')
    cases q : tstB (fa env S.M) with
    | none => rw [q] at e'; cases e'
    | some r =>
      rw [q] at e'
      obtain ⟨c, M1⟩ := r
      cases c with
      | true => exact e'
      | false => exact e'
  have h2 := tTT_rd (fe := fun env M => tstB (fa env M)) (g := fun b env M => if b = true then tstB (fb env M) else some (false, M)) h1
  obtain ⟨S, env, b, M', k, ev, e, p⟩ := h2
  refine ⟨S, env, b, M', k, ev, e, fun H' S' l em k' => ?_⟩
  have q := p H' S' l em k'
  cases b with
  | true =>
    show if true = true then _ else _
    rw [if_pos rfl]
    simpa using q
  | false =>
    show if false = true then _ else _
    rw [if_neg Bool.false_ne_true]
    exact tTC_rd (by simpa using q)
theorem orT_rd {σ : L2.St} {H : Hp} {Q : Bool → Hp → Prop} (h : tT X.K (fun env M => tstB (evOr fa fb env M)) σ H Q) : tOr (tT X.K fun env M => tstB (fa env M)) (tT X.K fun env M => tstB (fb env M)) σ H Q := by
  have h1 : tT X.K (fun env M => (tstB (fa env M)).bind fun r => (fun b env M => if b = true then some (true, M) else tstB (fb env M)) r.1 env r.2) σ H Q := by
    obtain ⟨S, env, b, M', k, ev, e, p⟩ := h
    refine ⟨S, env, b, M', k, ev, ?_, p⟩
    have e' : tstB ((tstB (fa env S.M)).bind fun r => if r.1 = true then some (.d (.bool true), r.2) else fb env r.2) = some (b, M') := e
    show ((tstB (fa env S.M)).bind fun r => if r.1 = true then some (true, r.2) else tstB (fb env r.2)) = some (b, M')
    cases q : tstB (fa env S.M) with
    | none => rw [q] at e'; cases e'
    | some r =>
      rw [q] at e'
      obtain ⟨c, M1⟩ := r
      cases c with
      | true => exact e'
      | false => exact e'
  have h2 := tTT_rd (fe := fun env M => tstB (fa env M)) (g := fun b env M => if b = true then some (true, M) else tstB (fb env M)) h1
  obtain ⟨S, env, b, M', k, ev, e, p⟩ := h2
  refine ⟨S, env, b, M', k, ev, e, fun H' S' l em k' => ?_⟩
  have q := p H' S' l em k'
  cases b with
  | true =>
    show if true = true then _ else _
    rw [if_pos rfl]
    exact tTC_rd (by simpa using q)
  | false =>
    show if false = true then _ else _
    rw [if_neg Bool.false_ne_true]
    simpa using q
theorem pe_ifN (hc : PT X c (tT X.K fun env M => tstB (fc env M))) (ha : PE X a (tV X.K fa)) (hb : PE X b (tV X.K fb)) :
    PE X (.IfExp c a b pos) (tV X.K fun env M => (tstB (fc env M)).bind fun r => if r.1 = true then fa env r.2 else fb env r.2) := by
  refine PE.imp (pe_ifExp hc ha hb) fun σ H Q h => ?_
  have h2 := tVT_rd (g := fun b env M => if b = true then fa env M else fb env M) h
  obtain ⟨S, env, b, M', k, ev, e, p⟩ := h2
  refine ⟨S, env, b, M', k, ev, e, fun H' S' l em k' => ?_⟩
  have q := p H' S' l em k'
  cases b with
  | true =>
    show if true = true then tV X.K fa σ H' Q else tV X.K fb σ H' Q
    rw [if_pos rfl]
    simpa using q
  | false =>
    show if false = true then tV X.K fa σ H' Q else tV X.K fb σ H' Q
    rw [if_neg Bool.false_ne_true]
    simpa using q

/-! ### subscripts -/
theorem Ok.lstV {K : PySem.W.Frag} {S : W3} {H : Hp} (k : Ok K S H) {v : V} {w : Vl} {xs : List D} (r : RV K S v w) (e : NW.dat S.M w = some (.list xs)) :
    ∃ p vs, v = .ref p ∧ SqL K H p vs ∧ DpAll K S.B vs xs := by
  cases w with
  | d x =>
    have e1 : x = .list xs := Option.some.inj e
    subst e1
    obtain ⟨p, vs, rfl, s, d⟩ := Dp.list_inv r
    exact ⟨p, vs, rfl, Same.seq k.same s, d⟩
  | m i =>
    obtain ⟨h1, rfl⟩ : i < S.M.length ∧ v = .ref (S.ad i) := r
    have e1 : (match S.M[i]? with | some (.lst xs) => some (PyData.list xs) | _ => none) = some (.list xs) := e
    split at e1
    · rename_i zs q2
      have e4 : zs = xs := by
        have := Option.some.inj e1
        injection this
      subst e4
      obtain ⟨vs, h2, h3, _⟩ := k.lst q2
      exact ⟨_, vs, rfl, .of h2, h3⟩
    · cases e1
theorem Ok.tupV {K : PySem.W.Frag} {S : W3} {H : Hp} (k : Ok K S H) {v : V} {w : Vl} {xs : List D} (r : RV K S v w) (e : NW.dat S.M w = some (.tuple xs)) :
    w = .d (.tuple xs) ∧ ∃ p vs, v = .ref p ∧ SqT K H p vs ∧ DpAll K S.B vs xs := by
  cases w with
  | d x =>
    have e1 : x = .tuple xs := Option.some.inj e
    subst e1
    obtain ⟨p, vs, rfl, s, d⟩ := Dp.tuple_inv r
    exact ⟨rfl, p, vs, rfl, SqT.same k.same s, d⟩
  | m i =>
    have e1 : (match S.M[i]? with | some (.lst xs) => some (PyData.list xs) | _ => none) = some (.tuple xs) := e
    split at e1 <;> cases e1
theorem seqOf_inv {M : Mem} {w : Vl} {xs : List D} (e : seqOf M w = some xs) : NW.dat M w = some (.list xs) ∨ NW.dat M w = some (.tuple xs) := by
  unfold seqOf at e
  split at e
  · rename_i ys q
    have : ys = xs := Option.some.inj e
    subst this
    exact .inl q
  · rename_i ys q
    have : ys = xs := Option.some.inj e
    subst this
    exact .inr q
  · cases e
theorem Ok.seq {K : PySem.W.Frag} {S : W3} {H : Hp} (k : Ok K S H) {v : V} {w : Vl} {xs : List D} (r : RV K S v w) (e : seqOf S.M w = some xs) :
    ∃ p vs, v = .ref p ∧ DpAll K S.B vs xs ∧ (SqL K H p vs ∨ SqT K H p vs) := by
  rcases seqOf_inv e with e | e
  · obtain ⟨p, vs, e1, s, d⟩ := k.lstV r e
    exact ⟨p, vs, e1, d, .inl s⟩
  · obtain ⟨_, p, vs, e1, s, d⟩ := k.tupV r e
    exact ⟨p, vs, e1, d, .inr s⟩
theorem atI_dp {K : PySem.W.Frag} {B : Hp} {vs : List V} {xs : List D} {i : Int} {x : D} (h : DpAll K B vs xs) (e : atI xs i = some x) : ∃ v, atI vs i = some v ∧ Dp K B v x := by
  unfold atI at e ⊢
  rw [h.length]
  obtain ⟨j, e1, e2⟩ := Option.bind_eq_some_iff.mp e
  obtain ⟨v, e3, d⟩ := h.get e2
  exact ⟨v, by rw [e1]; exact e3, d⟩
def rIxK : R2 := fun x y H Q => ∃ p z v kvs, x = .ref p ∧ y = .str z ∧ H p = some (.dK kvs) ∧ valV kvs (.inr z) = some v ∧ Q v H
/-- d[name], d a dict of our own -/
theorem ix_dk (hu : X.A.units + 1 < cLine) : IxR X rIxK := by
  intro value slice pins s σ H x y v u Q I rx ry h hs
  obtain ⟨p, z, r, kvs, rfl, rfl, e, l, q⟩ := h
  obtain rfl : v = Value.ref p := rx
  have g : DGet H p (kV (.inr z)) (some r) := .inl ⟨kvs, .inr z, .inl e, rfl, l.symm⟩
  exact tail_any (dict_typeIs I g) PySem.F.slot_dict_getitem.lookup (d_getItem hu I g ry fun w' s' I' rw' => ⟨r, H, I', rw', q⟩) hs
theorem valD_dp {K : PySem.W.Frag} {B : Hp} {k : Key} : ∀ {ws : List (Key × V)} {kvs : List (Key × D)} {x : D}, Paired (fun p q => p.1 = q.1 ∧ Dp K B p.2 q.2) ws kvs → valD kvs k = some x → ∃ v, valV ws k = some v ∧ Dp K B v x
  | _, _, _, .nil, e => by cases e
  | _, _, x, .cons (a := p) (b := q) h t, e => by
    by_cases hk : q.1 = k
    · have e1 : q.2 = x := by simpa [valD, List.find?_cons, hk] using e
      subst e1
      exact ⟨p.2, valV_pos (h.1.trans hk), h.2⟩
    · obtain ⟨v, e1, d⟩ := valD_dp t (show valD _ k = some x by simpa [valD, List.find?_cons, hk] using e)
      exact ⟨v, by rw [valV_neg (fun z => hk (h.1.symm.trans z))]; exact e1, d⟩
theorem pe_idxN (hu : X.A.units + 1 < cLine) (ha : PE X a (tV X.K fa)) (hb : PE X b (tV X.K fb)) (hs : notSlice b = true) : PE X (.Subscript a b pos) (tV X.K fun env M => (fa env M).bind fun r => (fb env r.2).bind fun q => evIdx r.1 q.1 q.2) := by
  refine PE.imp (pe_ix ((ix_list.or ix_tup).or (ix_dk hu)) ha hb (plainIx_of hs)) fun σ H Q h => tV.bin h fun S x y H' a b w M' k r1 r2 e p => ?_
  unfold evIdx at e
  split at e
  · rename_i xs i q
    obtain ⟨z, e1, e2⟩ := Option.map_eq_some_iff.mp e
    obtain ⟨rfl, rfl⟩ : Vl.d z = w ∧ S.M = M' := by simpa using e2
    obtain ⟨pa, vs, rfl, d, s⟩ := k.seq r1 q
    obtain ⟨v, e3, dv⟩ := atI_dp d e1
    rcases s with s | s
    · exact .inl (.inl ⟨pa, vs, i, v, rfl, Dp.int_inv r2, s, e3, p.here k dv⟩)
    · exact .inl (.inr ⟨pa, vs, i, v, rfl, Dp.int_inv r2, s, e3, p.here k dv⟩)
  · rename_i i q
    split at e
    · rename_i h0
      subst h0
      obtain ⟨xs, e1, e2⟩ := Option.map_eq_some_iff.mp e
      obtain ⟨rfl, rfl⟩ : Vl.m S.M.length = w ∧ S.M ++ [Cl.tp xs] = M' := by simpa using e2
      unfold wdOf at e1
      split at e1
      · rename_i i
        split at e1
        · rename_i xs' y' hc
          cases e1
          obtain ⟨_, rfl⟩ : i < S.M.length ∧ x = .ref (S.ad i) := r1
          obtain ⟨pp, qq, vs, h2, h3, h4, _⟩ := k.cell i _ hc
          exact .inl (.inr ⟨_, [.ref pp, qq], 0, .ref pp, rfl, Dp.int_inv r2, SqT.same k.same h2, rfl, p.app k rfl ⟨vs, h3, h4⟩⟩)
        · cases e1
      · cases e1
    · cases e
  · rename_i z _ _
    obtain ⟨kvs, e1, e2⟩ := Option.bind_eq_some_iff.mp e
    obtain ⟨y, e3, e4⟩ := Option.map_eq_some_iff.mp e2
    obtain ⟨rfl, rfl⟩ : Vl.d y = w ∧ S.M = M' := by simpa using e4
    unfold dkOf at e1
    split at e1
    · rename_i i
      split at e1
      · rename_i kvs' hc
        cases e1
        obtain ⟨_, rfl⟩ : i < S.M.length ∧ x = .ref (S.ad i) := r1
        obtain ⟨_, ws, h2, h3⟩ := k.cell i _ hc
        obtain ⟨v, e5, dv⟩ := valD_dp h3 e3
        exact .inr ⟨_, _, v, ws, rfl, Dp.str_inv r2, h2, e5, p.here k dv⟩
      · cases e1
    · cases e1
  · cases e
/-- a part of a slice -/
def PostO (K : PySem.W.Frag) (S : W3) (M' : Mem) (o : Option Int) (Q : Option Int → Hp → Prop) : Prop := ∀ (H' : Hp) (S' : W3), Le S S' → S'.M = M' → Ok K S' H' → Q o H'
def tO (K : PySem.W.Frag) (f : En → Mem → Option (Option Int × Mem)) : TO := fun σ H Q => ∃ (S : W3) (env : En) (o : Option Int) (M' : Mem), Ok K S H ∧ EnvOk K S σ env ∧ f env S.M = some (o, M') ∧ PostO K S M' o Q
theorem PO.imp {e : Option Expr} {t t' : TO} (h : PO X e t) (hi : ∀ σ H Q, t' σ H Q → t σ H Q) : PO X e t' := ⟨fun pins s σ H Q I q => h.run pins s σ H Q I (hi σ H Q q)⟩
theorem po_noN : PO X none (tO X.K fun _ M => some (none, M)) := by
  refine PO.imp po_none fun σ H Q ⟨S, env, o, M', k, ev, e, p⟩ => ?_
  obtain ⟨rfl, rfl⟩ : none = o ∧ S.M = M' := by simpa using e
  exact p H S (Le.refl _) rfl k
theorem po_soN (ha : PE X a (tV X.K fa)) : PO X (some a) (tO X.K fun env M => (fa env M).bind fun r => evPart r.1 r.2) := by
  refine PO.imp (po_some ha) fun σ H Q ⟨S, env, o, M', k, ev, e, p⟩ => ?_
  obtain ⟨⟨w, M1⟩, e1, e2⟩ := Option.bind_eq_some_iff.mp e
  rcases w with (_ | _ | i | _ | _ | _ | _) | _ <;> first | cases e2 | skip
  exact ⟨S, env, _, _, k, ev, e1, fun v H' S' l em k' r => ⟨i, Dp.int_inv r, p H' S' l em k'⟩⟩
theorem pe_slcN {lo hi : Option Expr} {fl fh : En → Mem → Option (Option Int × Mem)} {p2 : Pos} (ha : PE X a (tV X.K fa)) (hl : PO X lo (tO X.K fl)) (hh : PO X hi (tO X.K fh)) :
    PE X (.Subscript a (.Slice lo hi none p2) pos) (tV X.K fun env M => (fa env M).bind fun r => (fl env r.2).bind fun q => (fh env q.2).bind fun p => evSlc r.1 q.1 p.1 p.2) := by
  refine PE.imp (pe_slice (sl_list.or sl_tupA) ha hl hh) fun σ H Q ⟨S, env, w, M', k, ev, e, p⟩ => ?_
  obtain ⟨⟨a, M1⟩, e1, e2⟩ := Option.bind_eq_some_iff.mp e
  obtain ⟨⟨o1, M2⟩, e3, e4⟩ := Option.bind_eq_some_iff.mp e2
  obtain ⟨⟨o2, M3⟩, e5, e6⟩ := Option.bind_eq_some_iff.mp e4
  refine ⟨S, env, a, M1, k, ev, e1, fun x H1 S1 l1 em1 k1 r1 => ⟨S1, env, o1, M2, k1, ev.le l1, by rw [em1]; exact e3, fun H2 S2 l2 em2 k2 => ⟨S2, env, o2, M3, k2, ev.le (l1.trans l2), by rw [em2]; exact e5, fun H3 S3 l3 em3 k3 => ?_⟩⟩⟩
  have r3 := r1.le (l2.trans l3)
  have p3 := p.le ((l1.trans l2).trans l3)
  have e7 : evSlc a o1 o2 S3.M = some (w, M') := by rw [em3]; exact e6
  unfold evSlc at e7
  split at e7
  · rename_i xs q
    obtain ⟨rfl, rfl⟩ : Vl.d (.list (cutN xs o1 o2)) = w ∧ S3.M = M' := by simpa using e7
    obtain ⟨pa, vs, rfl, s, d⟩ := k3.lstV r3 q
    exact .inl ⟨pa, vs, rfl, s, p3.newL k3 (d.cut o1 o2)⟩
  · rename_i xs q
    obtain ⟨rfl, rfl⟩ : Vl.d (.tuple (cutN xs o1 o2)) = w ∧ S3.M = M' := by simpa using e7
    obtain ⟨ew, pa, vs, rfl, s, d⟩ := k3.tupV r3 q
    subst ew
    refine .inr ⟨pa, vs, rfl, s, fun hw => ?_, fun _ => p3.newT k3 (d.cut o1 o2)⟩
    have hc : cutN xs o1 o2 = xs := by
      unfold cutN
      rw [← d.length, hw.1, hw.2, List.drop_zero, Nat.sub_zero, d.length, List.take_length]
    rw [hc] at p3
    exact p3.here k3 r3
  · cases e7
theorem pe_slcMN {lo hi : Option Expr} {fl fh : En → Mem → Option (Option Int × Mem)} {p2 : Pos} (ha : PE X a (tV X.K fa)) (hl : PO X lo (tO X.K fl)) (hh : PO X hi (tO X.K fh)) :
    PE X (.Subscript a (.Slice lo hi none p2) pos) (tV X.K fun env M => (fa env M).bind fun r => (fl env r.2).bind fun q => (fh env q.2).bind fun p => evSlcM r.1 q.1 p.1 p.2) := by
  refine PE.imp (pe_slice (sl_list.or sl_tupA) ha hl hh) fun σ H Q ⟨S, env, w, M', k, ev, e, p⟩ => ?_
  obtain ⟨⟨a, M1⟩, e1, e2⟩ := Option.bind_eq_some_iff.mp e
  obtain ⟨⟨o1, M2⟩, e3, e4⟩ := Option.bind_eq_some_iff.mp e2
  obtain ⟨⟨o2, M3⟩, e5, e6⟩ := Option.bind_eq_some_iff.mp e4
  refine ⟨S, env, a, M1, k, ev, e1, fun x H1 S1 l1 em1 k1 r1 => ⟨S1, env, o1, M2, k1, ev.le l1, by rw [em1]; exact e3, fun H2 S2 l2 em2 k2 => ⟨S2, env, o2, M3, k2, ev.le (l1.trans l2), by rw [em2]; exact e5, fun H3 S3 l3 em3 k3 => ?_⟩⟩⟩
  have r3 := r1.le (l2.trans l3)
  have p3 := p.le ((l1.trans l2).trans l3)
  have e7 : evSlcM a o1 o2 S3.M = some (w, M') := by rw [em3]; exact e6
  unfold evSlcM at e7
  split at e7
  · rename_i xs q
    obtain ⟨rfl, rfl⟩ : Vl.m S3.M.length = w ∧ S3.M ++ [Cl.lst (cutN xs o1 o2)] = M' := by simpa using e7
    obtain ⟨pa, vs, rfl, s, d⟩ := k3.lstV r3 q
    exact .inl ⟨pa, vs, rfl, s, p3.newM k3 (d.cut o1 o2)⟩
  · cases e7
end
end NW

set_option Elab.async false
set_option linter.all false
set_option maxRecDepth 100000
set_option maxHeartbeats 4000000
/-! Displays, calls of defs and of built-ins. -/
namespace NW
open PySem PySem.Spec PyProof.Rows L2

/-! ### sorted of a tuple -/
section
variable {prog : Program} {w : World} {A : Around} {E : Value → Shared → Prop} {s : Shared}
theorem collect_tup {l : Addr} {vs : List Value} {Q : List Value → Shared → Prop} (hl : IsTup s.heap l vs.toArray)
    (h : Q vs { s with heap := (s.heap.push (seqObj "list" #[] 0)).update s.heap.objs.size (Obj.mapSeq (· ++ vs.toArray)) }) (hsz : vs.length ≤ sizeLine) :
    wpAny (model prog w) A (collect (.ref l)) Q E s := by
  obtain ⟨o, ho, hc, n, hd⟩ := id hl
  unfold collect
  refine wpAny_bind (wpAny_runValue (codeAny_builtin entry_proto_collect' ?_))
  show wpAny _ _ (do again (.builtin "list.__iadd__" ⟨[← newList [], .ref l], []⟩)) _ _ s
  refine wpAny_bind (wpAny_newList (wpAny_pure ⟨Code.quiet_builtin _ (by decide +kernel), codeAny_builtin entry_list_iadd' ?_⟩))
  show wpAny _ _ (Builtin.List.listExtendWith (.ref s.heap.objs.size) (.ref l) (.ref s.heap.objs.size)) _ _ { s with heap := s.heap.push (seqObj "list" #[] 0) }
  unfold Builtin.List.listExtendWith
  have ho' : (s.heap.push (seqObj "list" #[] 0)).get? l = some o := Heap.get?_push_of_some _ ho
  refine wpAny_bind (wpAny_typeOf (T := "tuple") ⟨o, ho', hc⟩ ?_)
  have ht : (Value.type "tuple" == Value.type "tuple") = true := by rfl
  rw [if_pos (by rw [ht]; simp)]
  refine wpAny_bind (listItems_at ho' hd ?_)
  refine wpAny_bind (listItems_at (xs := #[]) (n := 0) (Heap.get?_push_size _ rfl) rfl ?_)
  rw [if_neg (by simp)]
  refine wpAny_bind (listUpdate_at (xs := #[]) (n := 0) (Heap.get?_push_size _ rfl) rfl ?_ (Nat.zero_le _) (by show (#[] ++ vs.toArray).size ≤ sizeLine + 1; simp only [Array.size_append, List.size_toArray, List.length_nil]; omega))
  refine wpAny_pure ?_
  show wpAny (model prog w) A (do
      let o ← load s.heap.objs.size
      match o.data with
      | .seq xs _ => pure xs.toList
      | _ => unsupported "internal:collect") Q E { s with heap := (s.heap.push (seqObj "list" #[] 0)).update s.heap.objs.size (Obj.mapSeq (· ++ vs.toArray)) }
  refine wpAny_bind (wpAny_load (get?_update_seq (Heap.get?_push_size _ rfl) _) ?_)
  show wpAny _ _ (pure ((#[] : Array Value) ++ vs.toArray).toList) Q E _
  rw [show ((#[] : Array Value) ++ vs.toArray).toList = vs by simp]
  exact wpAny_pure h
end
end NW
namespace PySem.W
open PySem PySem.Calls PyProof.Rows
section
variable {prog : Program} {w : World} {A : Around} {E : Value → Shared → Prop} {s : Shared} {β : Type} {vs : List Value} {bs : List β} {enc : β → PyData} {R : Value → β → Prop}
theorem sorted_of_sortT {l : Addr} {vs : List Value} {Q : Value → Shared → Prop} (hl : IsTup s.heap l vs.toArray) (hL : vs.length ≤ sizeLine)
    (body : ∀ E' : Value → Shared → Prop, wpAny (model prog w) A.in1.in1 (Builtin.«list.sort» ⟨[.ref (s.heap.objs.size + 1)], []⟩) (fun f s' => f = .done (.ret .none) ∧ Q (.ref (s.heap.objs.size + 1)) s') E' { s with heap := copyHeap s.heap vs }) :
    wpAny (model prog w) A (call (.builtin "sorted") [.ref l] []) Q E s := by
  refine call_function_entry_kw kind_sorted plain_sorted entry_sorted (args_sorted1 _) ?_
  unfold Builtin.«sorted»
  refine wpAny_bind (m := checkCount "sorted" 1 1 _) (wpAny_pure ?_)
  refine wpAny_bind (NW.collect_tup hl ?_ hL)
  refine wpAny_bind (wpAny_newList ?_ hL)
  have hsz : ((s.heap.push (seqObj "list" #[] 0)).update s.heap.objs.size (Obj.mapSeq (· ++ vs.toArray))).objs.size = s.heap.objs.size + 1 := by
    rw [Heap.size_update, size_push']
  show wpAny _ _ _ _ _ { s with heap := copyHeap s.heap vs }
  rw [hsz]
  refine wpAny_bind (wpAny_holding (wpAny_call_entry_kw slot_list_sort ⟨_, copyHeap_at s.heap vs, rfl⟩ entry_list_sort ?body (args_list_sort _)))
  case body =>
    show wpAny (model prog w) A.in1.in1 (Builtin.«list.sort» ⟨[.ref (s.heap.objs.size + 1)], []⟩) _ _ _
    refine wpAny_mono (body _) (fun f s' hf => ?_) fun _ _ e => e
    obtain ⟨rfl, hq⟩ := hf
    exact ⟨_, rfl, wpAny_pure ⟨_, rfl, hq⟩⟩
theorem sorted_dataT {l : Addr} {Q : Value → Shared → Prop} (hl : IsTup s.heap l vs.toArray) (e : EachIs R vs bs) (er : EachIs (fun v b => ∃ as, Reads s.heap v (enc b) as) vs bs) (hal : AllAlike (bs.map enc)) (hk : Sortable (bs.map enc)) (hL : bs.length ≤ sizeLine)
    (hu : ∀ b, b ∈ bs → A.units + 2 + (enc b).depth < cLine) (h : ∀ out, out.length = bs.length → EachIs R out (bs.mergeSort (dataLe false enc)) → Q (.ref (s.heap.objs.size + 1)) { s with heap := sortedAll s.heap vs (List.toArray out) }) :
    wpAny (model prog w) A (call (.builtin "sorted") [.ref l]) Q E s := by
  have er' : EachIs (fun v b => ∃ as, Reads (sortingHeap (copyHeap s.heap vs) (s.heap.objs.size + 1) vs) v (enc b) as) vs bs := er.mono fun _ _ ⟨as, r⟩ => ⟨as, PyProof.Rows.Reads.keeps (fun _ _ => sorting_copy_old) r⟩
  have S := SortsAt.data (A := A.in1.in1) (prog := prog) (w := w) (s := { s with heap := sortingHeap (copyHeap s.heap vs) (s.heap.objs.size + 1) vs }) (each_map (R := fun v d => ∃ as, Reads (sortingHeap (copyHeap s.heap vs) (s.heap.objs.size + 1) vs) v d as) enc er') hal hk (bound_map hu)
  exact sorted_of_sortT hl (by rw [e.length]; exact hL) fun _ => list_sort_vals (s := { s with heap := copyHeap s.heap vs }) (copyHeap_at s.heap vs) S (by rw [e.length]; exact hL)
    ⟨rfl, h _ (by rw [sortVals_length false rfl]; exact e.length) (sortVals_data false e er' hal)⟩
end
end PySem.W
namespace NW
open PySem PySem.Spec PyProof.Rows L2

/-! ### argument lists, displays -/
section
variable {X : Cx} {a : Expr} {es : List Expr} {fa : En → Mem → Option (Vl × Mem)} {fs : En → Mem → Option (List Vl × Mem)} {pos : Pos}
theorem pa_nilN : PA X [] (tA X.K fun _ M => some ([], M)) := by
  refine PA.imp pa_nil fun σ H Q ⟨S, env, ws, M', k, ev, e, p⟩ => ?_
  obtain ⟨rfl, rfl⟩ : [] = ws ∧ S.M = M' := by simpa using e
  exact p [] H S (Le.refl _) rfl k .nil
theorem pa_consN (ha : PE X a (tV X.K fa)) (hs : notStar a = true) (h : PA X es (tA X.K fs)) : PA X (a :: es) (tA X.K fun env M => (fa env M).bind fun r => (fs env r.2).map fun q => (r.1 :: q.1, q.2)) := by
  refine PA.imp (pa_cons ha h (star_cons hs)) fun σ H Q ⟨S, env, ws, M', k, ev, e, p⟩ => ?_
  obtain ⟨⟨w, M1⟩, e1, e2⟩ := Option.bind_eq_some_iff.mp e
  obtain ⟨⟨us, M2⟩, e3, e4⟩ := Option.map_eq_some_iff.mp e2
  obtain ⟨rfl, rfl⟩ : w :: us = ws ∧ M2 = M' := by simpa using e4
  exact ⟨S, env, w, M1, k, ev, e1, fun x H1 S1 l1 em1 k1 r1 => ⟨S1, env, us, M2, k1, ev.le l1, by rw [em1]; exact e3, fun xs H2 S2 l2 em2 k2 r2 => p _ H2 S2 (l1.trans l2) em2 k2 (.cons (r1.le l2) r2)⟩⟩
theorem datas_dp {K : PySem.W.Frag} {S : W3} : ∀ {ws : List Vl} {vs : List V} {xs : List D}, RVs K S vs ws → datasV ws = some xs → DpAll K S.B vs xs ∧ xs.length = ws.length
  | [], _, xs, .nil, e => by
    have : [] = xs := Option.some.inj e
    subst this
    exact ⟨.nil, rfl⟩
  | .d x :: ws, _, xs, .cons r t, e => by
    obtain ⟨ys, e1, e2⟩ := Option.map_eq_some_iff.mp (show (datasV ws).map (x :: ·) = some xs from e)
    obtain ⟨h1, h2⟩ := datas_dp t e1
    subst e2
    exact ⟨.cons r h1, by rw [List.length_cons, List.length_cons, h2]⟩
  | .m i :: ws, _, xs, _, e => by cases e
theorem pe_tupN {x1 : Nat} (h : PA X es (tA X.K fs)) : PE X (.Tuple es x1 pos) (tV X.K fun env M => (fs env M).bind fun r => (datasV r.1).bind fun xs => if xs.length ≤ big then some (.d (.tuple xs), r.2) else none) := by
  refine PE.imp (pe_tup h) fun σ H Q ⟨S, env, w, M', k, ev, e, p⟩ => ?_
  obtain ⟨⟨ws, M1⟩, e1, e2⟩ := Option.bind_eq_some_iff.mp e
  obtain ⟨xs, e3, e4⟩ := Option.bind_eq_some_iff.mp e2
  split at e4
  · rename_i hz
    obtain ⟨rfl, rfl⟩ : Vl.d (.tuple xs) = w ∧ M1 = M' := by simpa using e4
    refine ⟨S, env, ws, M1, k, ev, e1, fun vs H1 S1 l1 em1 k1 r1 => ?_⟩
    obtain ⟨d, hl⟩ := datas_dp r1 e3
    exact ⟨by rw [d.length]; exact big_line hz, (em1 ▸ p.le l1 : Post X.K S1 S1.M _ Q).newT k1 d⟩
  · cases e4
theorem pe_lstN (h : PA X es (tA X.K fs)) : PE X (.List es pos) (tV X.K fun env M => (fs env M).bind fun r => (datasV r.1).bind fun xs => if xs.length ≤ big then some (.d (.list xs), r.2) else none) := by
  refine PE.imp (pe_lst h) fun σ H Q ⟨S, env, w, M', k, ev, e, p⟩ => ?_
  obtain ⟨⟨ws, M1⟩, e1, e2⟩ := Option.bind_eq_some_iff.mp e
  obtain ⟨xs, e3, e4⟩ := Option.bind_eq_some_iff.mp e2
  split at e4
  · rename_i hz
    obtain ⟨rfl, rfl⟩ : Vl.d (.list xs) = w ∧ M1 = M' := by simpa using e4
    refine ⟨S, env, ws, M1, k, ev, e1, fun vs H1 S1 l1 em1 k1 r1 => ?_⟩
    obtain ⟨d, hl⟩ := datas_dp r1 e3
    exact ⟨by rw [d.length]; exact big_line hz, (em1 ▸ p.le l1 : Post X.K S1 S1.M _ Q).newL k1 d⟩
  · cases e4
theorem pe_newN (h : PA X es (tA X.K fs)) : PE X (.List es pos) (tV X.K fun env M => (fs env M).bind fun r => (datasV r.1).bind fun xs => if xs.length ≤ big then some (.m r.2.length, r.2 ++ [.lst xs]) else none) := by
  refine PE.imp (pe_lst h) fun σ H Q ⟨S, env, w, M', k, ev, e, p⟩ => ?_
  obtain ⟨⟨ws, M1⟩, e1, e2⟩ := Option.bind_eq_some_iff.mp e
  obtain ⟨xs, e3, e4⟩ := Option.bind_eq_some_iff.mp e2
  split at e4
  · rename_i hz
    obtain ⟨rfl, rfl⟩ : Vl.m M1.length = w ∧ M1 ++ [Cl.lst xs] = M' := by simpa using e4
    refine ⟨S, env, ws, M1, k, ev, e1, fun vs H1 S1 l1 em1 k1 r1 => ?_⟩
    obtain ⟨d, hl⟩ := datas_dp r1 e3
    exact ⟨by rw [d.length]; exact big_line hz, (em1 ▸ p.le l1 : Post X.K S1 (S1.M ++ [.lst xs]) (.m S1.M.length) Q).newM k1 d⟩
  · cases e4

/-! ### built-ins -/
def biV : Bi → Value
  | .len => .builtin "len"
  | .abs => .builtin "abs"
  | .all => .builtin "all"
  | .any => .builtin "any"
  | .tuple => .type "tuple"
  | .list => .type "list"
  | .max => .builtin "max"
  | .min => .builtin "min"
  | .sum => .builtin "sum"
  | .sorted => .builtin "sorted"
  | .dict => .type "dict"
  | .tupC => .type "tuple"
def biN : Bi → String
  | .len => "len"
  | .abs => "abs"
  | .all => "all"
  | .any => "any"
  | .tuple => "tuple"
  | .list => "list"
  | .max => "max"
  | .min => "min"
  | .sum => "sum"
  | .sorted => "sorted"
  | .dict => "dict"
  | .tupC => "tuple"
def rBi (K : PySem.W.Frag) (b : Bi) : List V → Hp → VK → Prop := fun vs H Q => ∃ (S : W3) (ws : List Vl) (w : Vl) (M' : Mem), Ok K S H ∧ RVs K S vs ws ∧ evBi b ws S.M = some (w, M') ∧ Post K S M' w Q
theorem CallR.imp {f : Value} {r r' : List V → Hp → VK → Prop} (h : CallR X f r) (hi : ∀ vs H Q, r' vs H Q → r vs H Q) : CallR X f r' := fun pins s σ H xs us Q I rs q => h pins s σ H xs us Q I rs (hi xs H Q q)
theorem RVs.one {K : PySem.W.Frag} {S : W3} {vs : List V} {w : Vl} (h : RVs K S vs [w]) : ∃ v, vs = [v] ∧ RV K S v w := by
  cases h with
  | cons p t => cases t; exact ⟨_, rfl, p⟩
theorem RVs.two {K : PySem.W.Frag} {S : W3} {vs : List V} {w u : Vl} (h : RVs K S vs [w, u]) : ∃ v v', vs = [v, v'] ∧ RV K S v w ∧ RV K S v' u := by
  cases h with
  | cons p t =>
    obtain ⟨v', e, r⟩ := RVs.one t
    subst e
    exact ⟨_, v', rfl, p, r⟩
theorem bools_dp {K : PySem.W.Frag} {H : Hp} : ∀ {xs : List D} {vs : List V} {bs : List Bool}, DpAll K H vs xs → boolsOf xs = some bs → vs = bs.map V.bl
  | [], _, bs, .nil, e => by
    have : [] = bs := Option.some.inj e
    subst this
    rfl
  | .bool b :: xs, _, bs, .cons p t, e => by
    obtain ⟨ys, e1, e2⟩ := Option.map_eq_some_iff.mp (show (boolsOf xs).map (b :: ·) = some bs from e)
    subst e2
    rw [bools_dp t e1, Dp.bool_inv p]
    rfl
  | .none :: xs, _, bs, _, e => by cases e
  | .int _ :: xs, _, bs, _, e => by cases e
  | .str _ :: xs, _, bs, _, e => by cases e
  | .list _ :: xs, _, bs, _, e => by cases e
  | .tuple _ :: xs, _, bs, _, e => by cases e
  | .dict _ :: xs, _, bs, _, e => by cases e
theorem ints_dp {K : PySem.W.Frag} {H : Hp} : ∀ {xs : List D} {vs : List V} {bs : List Int}, DpAll K H vs xs → intsOf xs = some bs → vs = bs.map V.int
  | [], _, bs, .nil, e => by
    have : [] = bs := Option.some.inj e
    subst this
    rfl
  | .int b :: xs, _, bs, .cons p t, e => by
    obtain ⟨ys, e1, e2⟩ := Option.map_eq_some_iff.mp (show (intsOf xs).map (b :: ·) = some bs from e)
    subst e2
    rw [ints_dp t e1, Dp.int_inv p]
    rfl
  | .none :: xs, _, bs, _, e => by cases e
  | .bool _ :: xs, _, bs, _, e => by cases e
  | .str _ :: xs, _, bs, _, e => by cases e
  | .list _ :: xs, _, bs, _, e => by cases e
  | .tuple _ :: xs, _, bs, _, e => by cases e
  | .dict _ :: xs, _, bs, _, e => by cases e
end
section
variable {X : Cx}
/-- values that read as data, item by item -/
theorem each_of {pins : List (Addr × Obj)} {σ : L2.St} {B H : Hp} {s : Shared} (I : L2.Inv X pins σ H s) (sm : Same B H) : ∀ {xs : List D} {vs : List V} {us : List Value}, DpAll X.K B vs xs → Vals vs us →
    PySem.W.EachIs (fun u x => (∃ v, RelV v u ∧ Dp X.K B v x) ∧ ∃ as, PySem.Reads s.heap u x as) us xs
  | [], _, _, .nil, .nil => .nil
  | x :: xs, _, _, .cons p t, .cons r t' => .cons ⟨⟨_, r, p⟩, Dp.reads I x _ _ (Dp.same sm _ _ p) r⟩ (each_of I sm t t')
theorem vals_of_each {K : PySem.W.Frag} {H : Hp} : ∀ {us : List Value} {xs : List D}, PySem.W.EachIs (fun u x => ∃ v, RelV v u ∧ Dp K H v x) us xs → ∃ vs, Vals vs us ∧ DpAll K H vs xs
  | _, _, .nil => ⟨[], .nil, .nil⟩
  | _, _, .cons ⟨v, r, p⟩ t => by
    obtain ⟨vs, h1, h2⟩ := vals_of_each t
    exact ⟨v :: vs, .cons r h1, .cons p h2⟩
theorem sortOk_inv {xs : List D} (h : sortOk xs = true) : (∀ x ∈ xs, flatD 20 x = true) ∧ PySem.W.AllAlike (xs.map id) ∧ PySem.W.Sortable (xs.map id) := by
  obtain ⟨h1, h2⟩ := Bool.and_eq_true_iff.mp h
  obtain ⟨h3, h4⟩ := Bool.and_eq_true_iff.mp h2
  rw [List.map_id]
  refine ⟨List.all_eq_true.mp h1, fun d hd d' hd' => List.all_eq_true.mp (List.all_eq_true.mp h3 d hd) d' hd', ?_⟩
  rcases Bool.or_eq_true_iff.mp h4 with h5 | h5
  · refine .inl fun d hd => ?_
    have q := List.all_eq_true.mp h5 d hd
    cases d with
    | tuple ys =>
      cases ys with
      | nil => cases q
      | cons y r => exact ⟨y, r, rfl⟩
    | _ => cases q
  · refine .inr fun d hd => ?_
    have q := List.all_eq_true.mp h5 d hd
    cases d with
    | none => cases q
    | tuple ys => cases q
    | _ => exact ⟨(by intro z; cases z), (by intro xs z; cases z)⟩
def rSortD (K : PySem.W.Frag) : List V → Hp → VK → Prop := fun vs H Q => ∃ (B : Hp) (a : Addr) (us : List V) (xs : List D), Same B H ∧ vs = [V.ref a] ∧ (SqL K H a us ∨ SqT K H a us) ∧ DpAll K B us xs ∧ sortOk xs = true ∧
  ∀ (us' : List V) (p : Addr), DpAll K B us' (xs.mergeSort (PySem.W.dataLe false id)) → H p = none → Q (.ref p) (upd H p (.lst us'))
theorem cr_sortedD (hu : X.A.units + 64 < cLine) : CallR X (.builtin "sorted") (rSortD X.K) := by
  intro pins s σ H vs us Q I r h
  obtain ⟨B, a, ws, xs, sm, rfl, hs, hd, hok, q⟩ := h
  rw [Vals.ref1 r]
  obtain ⟨h1, h2, h3⟩ := sortOk_inv hok
  have dep : ∀ b, b ∈ xs → X.A.units + 2 + (id b : D).depth < cLine := fun b hb => by
    have := (flat_ok 20 b (h1 b hb)).2
    show X.A.units + 2 + b.depth < cLine
    omega
  have fin : ∀ (its : List Value), Vals ws its → its.length ≤ sizeLine → ∀ out : List Value, out.length = xs.length → PySem.W.EachIs (fun u x => (∃ v, RelV v u ∧ Dp X.K B v x) ∧ ∃ as, PySem.Reads s.heap u x as) out (xs.mergeSort (PySem.W.dataLe false id)) →
      EP X pins σ Q (.ref (s.heap.objs.size + 1)) { s with heap := sortedAll s.heap its (List.toArray out) } := fun its rv hz out hl ho => by
    obtain ⟨us', hv, hdd⟩ := vals_of_each (ho.mono fun _ _ z => z.1)
    obtain ⟨ep, he'⟩ := PyProof.Rows.sortedAll_at s.heap its out.toArray
    have hlen : us'.length ≤ sizeLine := by
      rw [hv.length, hl, ← hd.length, rv.length]
      exact hz
    exact ⟨.ref _, upd H (s.heap.objs.size + 1) (.lst us'), I.laid (t' := s.toks) (fun _ _ => PyProof.Rows.sortedAll_old) (Nat.le_succ _) ⟨hlen, out, ep, hv, he'⟩, rfl, q us' _ hdd (I.hok.fresh (Nat.le_succ _))⟩
  have lenx : ∀ its : List Value, Vals ws its → its.length ≤ sizeLine → xs.length ≤ sizeLine := fun its rv hz => by rw [← hd.length, rv.length]; exact hz
  rcases hs with hs | hs
  · obtain ⟨its, rv, hl, hz⟩ := I.list hs
    have hz' : its.length ≤ sizeLine := by rw [← rv.length]; exact hz
    have ee := each_of I sm hd rv
    exact PySem.W.sorted_data (enc := id) hl.isList ee (ee.mono fun _ _ z => z.2) h2 h3 (lenx its rv hz') dep (fin its rv hz')
  · obtain ⟨its, rv, hl, hz⟩ := I.tuple hs
    have hz' : its.length ≤ sizeLine := by rw [← rv.length]; exact hz
    have ee := each_of I sm hd rv
    exact PySem.W.sorted_dataT (enc := id) hl ee (ee.mono fun _ _ z => z.2) h2 h3 (lenx its rv hz') dep (fin its rv hz')
/-! ### dict -/
theorem mergeK_new : ∀ {more kvs : List (Key × V)}, ((kvs ++ more).map (·.1)).Nodup → mergeK kvs more = kvs ++ more
  | [], kvs, _ => by rw [List.append_nil]; rfl
  | p :: more, kvs, h => by
    have h1 : valV kvs p.1 = none := by
      unfold valV
      rw [List.find?_eq_none.mpr]
      · rfl
      · intro q hq e
        rw [List.map_append, List.nodup_append] at h
        exact h.2.2 q.1 (List.mem_map_of_mem hq) p.1 (by simp) (of_decide_eq_true e)
    show mergeK (putK kvs p.1 p.2) more = _
    rw [putK_new p.2 h1, mergeK_new (by rw [List.append_assoc]; exact h), List.append_assoc]
    rfl
theorem pairs_dp {K : PySem.W.Frag} {B : Hp} : ∀ {xs : List D} {us : List V} {kvs : List (Key × D)}, DpAll K B us xs → kvsOf xs = some kvs → ∃ (ps : List Addr) (ws : List (Key × V)), us = ps.map V.ref ∧
    Paired (fun p kv => SqT K B p [kV kv.1, kv.2]) ps ws ∧ Paired (fun p q => p.1 = q.1 ∧ Dp K B p.2 q.2) ws kvs
  | [], _, _, .nil, e => by
    cases e
    exact ⟨[], [], rfl, .nil, .nil⟩
  | x :: xs, _, _, .cons (v := u) h t, e => by
    unfold kvsOf at e
    split at e
    · rename_i h0
      cases h0
    · rename_i z v r h0
      cases h0
      obtain ⟨kr, e1, e2⟩ := Option.map_eq_some_iff.mp e
      subst e2
      obtain ⟨ps, ws, rfl, q1, q2⟩ := pairs_dp t e1
      obtain ⟨a, ys, rfl, s, d⟩ := Dp.tuple_inv h
      cases d with
      | cons d1 d2 =>
        obtain ⟨y, rfl, d3⟩ := d2.inv1
        have := Dp.str_inv d1
        subst this
        exact ⟨a :: ps, (.inr z, y) :: ws, rfl, .cons s q1, .cons ⟨rfl, d3⟩ q2⟩
    · cases e
theorem paired_keys {K : PySem.W.Frag} {B : Hp} : ∀ {ws : List (Key × V)} {kvs : List (Key × D)}, Paired (fun p q => p.1 = q.1 ∧ Dp K B p.2 q.2) ws kvs → ws.map (·.1) = kvs.map (·.1)
  | _, _, .nil => rfl
  | _, _, .cons h t => by rw [List.map_cons, List.map_cons, h.1, paired_keys t]
theorem paired_same {K : PySem.W.Frag} {H H' : Hp} (e : Same H H') : ∀ {ps : List Addr} {ws : List (Key × V)}, Paired (fun p kv => SqT K H p [kV kv.1, kv.2]) ps ws → Paired (fun p kv => SqT K H' p [kV kv.1, kv.2]) ps ws
  | _, _, .nil => .nil
  | _, _, .cons h t => .cons (SqT.same e h) (paired_same e t)
/-- dict() of a tuple of pairs, a tuple of our own -/
theorem cr_dictT (hcalm : X.calm = true) : CallR X (.type "dict") (fun xs H Q => ∃ (a : Addr) (ps : List Addr) (kvs : List (Key × V)), xs = [.ref a] ∧ ExT H a (ps.map V.ref) ∧ ps.length ≤ sizeLine ∧ Paired (fun p kv => SqT X.K H p [kV kv.1, kv.2]) ps kvs ∧
    ∀ p, H p = none → Q (.ref p) (upd H p (.dK (mergeK [] kvs)))) := by
  intro pins s σ H xs us Q I r q
  obtain ⟨a, ps, kvs, ex, ⟨o, h1, h2, h3⟩, hz, hp, q⟩ := q
  subst ex
  rw [Vals.ref1 r]
  obtain ⟨g1, _, its, rv, o', g2, _, n, g3⟩ := I.hok a _ h1
  have ei := refs_at rv
  subst ei
  have eo : o' = o := Option.some.inj (g2.symm.trans g1)
  subst eo
  obtain ⟨prs, rel, hl, hpr⟩ := pairs_of I hp
  let ts : Nat → Addr := fun j => (ps[j]?).getD 0
  have hx : ∀ j (q : Key × Value), prs[j]? = some q → ∃ u, ps[j]? = some (ts j) ∧ IsTup s.heap (ts j) #[u, q.2] ∧ keyIs q.1 u = true := fun j q e => by
    obtain ⟨b, u, e1, e2, e3⟩ := hpr j q e
    have e4 : ts j = b := by show (ps[j]?).getD 0 = b; rw [e1]; rfl
    exact ⟨u, by rw [e4]; exact e1, by rw [e4]; exact e2, e3⟩
  let us : Nat → Value := fun j => if hj : j < prs.length then (hx j prs[j] (List.getElem?_eq_getElem hj)).choose else .none
  have hu : ∀ j (q : Key × Value), prs[j]? = some q → ps[j]? = some (ts j) ∧ IsTup s.heap (ts j) #[us j, q.2] ∧ keyIs q.1 (us j) = true := fun j q e => by
    obtain ⟨hj, e1⟩ := List.getElem?_eq_some_iff.mp e
    subst e1
    have := (hx j prs[j] (List.getElem?_eq_getElem hj)).choose_spec
    show ps[j]? = some (ts j) ∧ IsTup s.heap (ts j) #[(if hj : j < prs.length then (hx j prs[j] (List.getElem?_eq_getElem hj)).choose else .none), _] ∧ keyIs _ (if hj : j < prs.length then (hx j prs[j] (List.getElem?_eq_getElem hj)).choose else .none) = true
    rw [dif_pos hj]
    exact this
  let pv : List (Value × Value) := prs.mapIdx fun j q => (us j, q.2)
  have pl : pv.length = prs.length := by simp [pv]
  have ok : PlainSeq "tuple" s.heap a (ps.map Value.ref).toArray ∧ PairItems s.heap (ps.map Value.ref).toArray ts pv := by
    refine ⟨⟨o', n, g1, h2, h3, g3⟩, by simp [pl, hl], fun j k v e => ?_⟩
    simp only [pv, List.getElem?_mapIdx, Option.map_eq_some_iff] at e
    obtain ⟨q, e1, e2⟩ := e
    cases e2
    obtain ⟨e3, e4, _⟩ := hu j q e1
    exact ⟨by simp [e3], .inl e4⟩
  refine PySem.call_dict_pairs (knd := mixKind X.prog X.w) (kvs := prs) (PySem.PairArg.tuple a _ ts pv) (I.ok.hd hcalm) ok ⟨pl.symm, fun j k v e => ?_⟩ (by rw [pl, hl]; exact hz) fun h' tk hd' k => ?_
  · have e : pv[j]? = some (k, v) := e
    simp only [pv, List.getElem?_mapIdx, Option.map_eq_some_iff] at e
    obtain ⟨q, e1, e2⟩ := e
    cases e2
    obtain ⟨_, _, e5⟩ := hu j q e1
    exact ⟨q.1, e1, e5⟩
  · have hm : (s.heap.objs.size == sysModules) = false := beq_eq_false_iff_ne.mpr (Nat.ne_of_gt I.big)
    have hlen : (mergeK [] kvs).length ≤ sizeLine := by
      refine Nat.le_trans (length_mergeK kvs []) ?_
      rw [List.length_nil, Nat.zero_add, rel.length, hl]
      exact hz
    exact ⟨.ref s.heap.objs.size, upd H s.heap.objs.size (.dK (mergeK [] kvs)), I.laid (t' := tk) (fun b o e => k b o (by simp) e) (Nat.le_refl _) (show ObjOk X.prog X.w _ _ _ (.dK (mergeK [] kvs)) from ⟨hlen, hm, merged [] prs, KV.merge rel .nil, hd'⟩), rfl, q _ (I.hok.fresh (Nat.le_refl _))⟩
theorem dctOf_inv {K : PySem.W.Frag} {S : W3} {H : Hp} (k : Ok K S H) {v : V} {w : Vl} {xs : List D} (r : RV K S v w) (e : dctOf S.M w = some xs) : ∃ p vs, v = .ref p ∧ DpAll K S.B vs xs ∧ (SqL K H p vs ∨ ExT H p vs) := by
  unfold dctOf at e
  split at e
  · cases e
    obtain ⟨p, vs, rfl, s1, d1⟩ := Dp.list_inv r
    exact ⟨p, vs, rfl, d1, .inl (Same.seq k.same s1)⟩
  · rename_i i
    obtain ⟨_, rfl⟩ : i < S.M.length ∧ v = .ref (S.ad i) := r
    split at e
    · rename_i ys hc
      cases e
      obtain ⟨vs, h2, h3, _⟩ := k.lst hc
      exact ⟨_, vs, rfl, h3, .inl (.of h2)⟩
    · rename_i ys hc
      cases e
      obtain ⟨vs, h2, h3⟩ := k.cell i _ hc
      exact ⟨_, vs, rfl, h3, .inr (h2.same k.same)⟩
    · cases e
  · cases e
theorem cr_dict (hcalm : X.calm = true) : CallR X (.type "dict") (rBi X.K .dict) := by
  refine CallR.imp ((call_dictP hcalm).or (cr_dictT hcalm)) fun vs H Q ⟨S, ws, w, M', k, r, e, p⟩ => ?_
  rcases ws with _ | ⟨a, _ | ⟨_, _⟩⟩ <;> first | cases e | skip
  obtain ⟨x, rfl, r1⟩ := RVs.one r
  obtain ⟨xs, e1, e2⟩ := Option.bind_eq_some_iff.mp (show ((dctOf S.M a).bind fun xs => (kvsOf xs).bind fun kvs => if (kvs.map (·.1)).Nodup ∧ kvs.length ≤ big then some (Vl.m S.M.length, S.M ++ [Cl.dK kvs]) else none) = some (w, M') from e)
  obtain ⟨kvs, e3, e4⟩ := Option.bind_eq_some_iff.mp e2
  split at e4
  · rename_i hnd
    obtain ⟨rfl, rfl⟩ : Vl.m S.M.length = w ∧ S.M ++ [Cl.dK kvs] = M' := by simpa using e4
    obtain ⟨pa, us, rfl, d1, s1⟩ := dctOf_inv k r1 e1
    obtain ⟨ps, ws, rfl, q1, q2⟩ := pairs_dp d1 e3
    have hm : mergeK [] ws = ws := by
      rw [mergeK_new (by rw [List.nil_append, paired_keys q2]; exact hnd.1), List.nil_append]
    have q1' := paired_same k.same q1
    have fin : ∀ q, H q = none → Q (.ref q) (upd H q (.dK (mergeK [] ws))) := fun q hq => by
      rw [hm]
      exact p.newC k hq ⟨k.same.free hq, ws, upd_same, q2⟩
    rcases s1 with s1 | s1
    · exact .inl ⟨pa, ps, ws, rfl, s1, q1', fin⟩
    · refine .inr ⟨pa, ps, ws, rfl, s1, ?_, q1', fin⟩
      rw [Paired.length q1, Paired.length q2]
      exact big_line hnd.2
  · cases e4
/-- tuple() of a list, its object known -/
theorem cr_tupC : CallR X (.type "tuple") (rBi X.K .tupC) := by
  refine CallR.imp (r := fun xs H Q => ∃ p ys, xs = [.ref p] ∧ SqL X.K H p ys ∧ ∀ l o, H l = none → o.cls = .type "tuple" → o.dict = none → Q (.ref l) (upd H l (.frz o (.tup ys)))) ?_ fun vs H Q ⟨S, ws, w, M', k, r, e, p⟩ => ?_
  · intro pins s σ H xs us Q I r h
    obtain ⟨p, ys, rfl, hq, q⟩ := h
    rw [Vals.ref1 r]
    obtain ⟨its, r', pl, hz⟩ := I.list hq
    have hlen := r'.length
    refine call_tuple_list pl.isList (fun h' kp => ?_) (by simp only [List.size_toArray]; omega)
    have I1 : L2.Inv X pins σ H { s with heap := h' } := I.kept (t' := s.toks) kp
    have I2 : L2.Inv X pins σ (upd H h'.objs.size (.frz { cls := .type "tuple", data := .seq its.toArray } (.tup ys))) { s with heap := h'.push { cls := .type "tuple", data := .seq its.toArray } } :=
      I1.laid (t' := s.toks) (fun b o e => Heap.get?_push_of_some _ e) (Nat.le_refl _) (show ObjOk X.prog X.w _ _ _ (.frz _ (.tup ys)) from ⟨Heap.get?_push_size _ rfl, hz, its, r', IsTup.new _ _⟩)
    exact ⟨.ref h'.objs.size, _, I2, rfl, q _ _ (I1.hok.fresh (Nat.le_refl _)) rfl rfl⟩
  · rcases ws with _ | ⟨a, _ | ⟨_, _⟩⟩ <;> first | cases e | skip
    obtain ⟨x, rfl, r1⟩ := RVs.one r
    have e1 : (match NW.dat S.M a with
      | some (.list xs) => some (Vl.m S.M.length, S.M ++ [Cl.tp xs])
      | _ => none) = some (w, M') := e
    split at e1
    · rename_i xs q
      obtain ⟨rfl, rfl⟩ : Vl.m S.M.length = w ∧ S.M ++ [Cl.tp xs] = M' := by simpa using e1
      obtain ⟨pa, us, rfl, s1, d1⟩ := k.lstV r1 q
      refine ⟨pa, us, rfl, s1, fun l o hl hc hd => ?_⟩
      exact (p.le (k.leFresh hl) : Post X.K ⟨upd S.B l (.frz o (.tup us)), S.ad, S.M⟩ _ _ Q).app (k.fresh hl) rfl ⟨us, ⟨o, upd_same, hc, hd⟩, DpAll.same (k.leFresh hl).same _ _ d1⟩
    · cases e1
theorem cr_bi {b : Bi} (hc : X.calm = true) (hu : X.A.units + 64 < cLine) : CallR X (biV b) (rBi X.K b) := by
  cases b with
  | len =>
    refine CallR.imp call_len fun vs H Q ⟨S, ws, w, M', k, r, e, p⟩ => ?_
    rcases ws with _ | ⟨a, _ | ⟨_, _⟩⟩ <;> first | cases e | skip
    obtain ⟨x, rfl, r1⟩ := RVs.one r
    have e1 : (match NW.dat S.M a with
      | some (.list xs) => some (Vl.d (.int xs.length), S.M)
      | some (.tuple xs) => some (.d (.int xs.length), S.M)
      | some (.str x) => if x.length ≤ big then some (.d (.int x.length), S.M) else none
      | _ => none) = some (w, M') := e
    split at e1
    · rename_i xs q
      obtain ⟨rfl, rfl⟩ : Vl.d (.int xs.length) = w ∧ S.M = M' := by simpa using e1
      obtain ⟨pa, us, rfl, s1, d1⟩ := k.lstV r1 q
      exact ⟨_, xs.length, rfl, .inl ⟨us, s1, d1.length.symm⟩, p.here k (.int _)⟩
    · rename_i xs q
      obtain ⟨rfl, rfl⟩ : Vl.d (.int xs.length) = w ∧ S.M = M' := by simpa using e1
      obtain ⟨_, pa, us, rfl, s1, d1⟩ := k.tupV r1 q
      exact ⟨_, xs.length, rfl, .inr ⟨us, s1, d1.length.symm⟩, p.here k (.int _)⟩
    · rename_i z q
      split at e1
      · rename_i hz
        obtain ⟨rfl, rfl⟩ : Vl.d (.int z.length) = w ∧ S.M = M' := by simpa using e1
        have := Dp.str_inv (k.dat r1 q)
        subst this
        exact ⟨_, z.length, rfl, ⟨big_line hz, rfl⟩, p.here k (.int _)⟩
      · cases e1
    · cases e1
  | abs =>
    refine CallR.imp call_abs fun vs H Q ⟨S, ws, w, M', k, r, e, p⟩ => ?_
    rcases ws with _ | ⟨a, _ | ⟨_, _⟩⟩
    · cases e
    · obtain ⟨x, rfl, r1⟩ := RVs.one r
      rcases a with (_ | _ | i | _ | _ | _ | _) | _ <;> first | cases e | skip
      exact ⟨i, by rw [Dp.int_inv r1], p.here k (.int _)⟩
    · rcases a with (_ | _ | i | _ | _ | _ | _) | _ <;> cases e
  | all =>
    refine CallR.imp (cr_all hc) fun vs H Q ⟨S, ws, w, M', k, r, e, p⟩ => ?_
    rcases ws with _ | ⟨a, _ | ⟨_, _⟩⟩
    · cases e
    · obtain ⟨x, rfl, r1⟩ := RVs.one r
      rcases a with (_ | _ | _ | _ | xs | _ | _) | _ <;> first | cases e | skip
      obtain ⟨bs, e1, e2⟩ := Option.map_eq_some_iff.mp (show (boolsOf xs).map (fun bs => (Vl.d (.bool (bs.all id)), S.M)) = some (w, M') from e)
      obtain ⟨rfl, rfl⟩ : Vl.d (.bool (bs.all id)) = w ∧ S.M = M' := by simpa using e2
      obtain ⟨pa, us, rfl, s1, d1⟩ := Dp.list_inv r1
      exact ⟨pa, bs, rfl, by rw [← bools_dp d1 e1]; exact Same.seq k.same s1, p.here k (.bl _)⟩
    · rcases a with (_ | _ | _ | _ | xs | _ | _) | _ <;> cases e
  | any =>
    refine CallR.imp (cr_any hc) fun vs H Q ⟨S, ws, w, M', k, r, e, p⟩ => ?_
    rcases ws with _ | ⟨a, _ | ⟨_, _⟩⟩
    · cases e
    · obtain ⟨x, rfl, r1⟩ := RVs.one r
      rcases a with (_ | _ | _ | _ | xs | _ | _) | _ <;> first | cases e | skip
      obtain ⟨bs, e1, e2⟩ := Option.map_eq_some_iff.mp (show (boolsOf xs).map (fun bs => (Vl.d (.bool (bs.any id)), S.M)) = some (w, M') from e)
      obtain ⟨rfl, rfl⟩ : Vl.d (.bool (bs.any id)) = w ∧ S.M = M' := by simpa using e2
      obtain ⟨pa, us, rfl, s1, d1⟩ := Dp.list_inv r1
      exact ⟨pa, bs, rfl, by rw [← bools_dp d1 e1]; exact Same.seq k.same s1, p.here k (.bl _)⟩
    · rcases a with (_ | _ | _ | _ | xs | _ | _) | _ <;> cases e
  | tuple =>
    refine CallR.imp call_tuple_of fun vs H Q ⟨S, ws, w, M', k, r, e, p⟩ => ?_
    rcases ws with _ | ⟨a, _ | ⟨_, _⟩⟩ <;> first | cases e | skip
    obtain ⟨x, rfl, r1⟩ := RVs.one r
    obtain ⟨xs, e1, e2⟩ := Option.map_eq_some_iff.mp (show (seqOf S.M a).map (fun xs => (Vl.d (.tuple xs), S.M)) = some (w, M') from e)
    obtain ⟨rfl, rfl⟩ : Vl.d (.tuple xs) = w ∧ S.M = M' := by simpa using e2
    rcases seqOf_inv e1 with e1 | e1
    · obtain ⟨pa, us, rfl, s1, d1⟩ := k.lstV r1 e1
      exact ⟨pa, us, rfl, .inl ⟨s1, p.newT k d1⟩⟩
    · obtain ⟨ew, pa, us, rfl, s1, d1⟩ := k.tupV r1 e1
      subst ew
      exact ⟨pa, us, rfl, .inr ⟨s1, p.here k r1⟩⟩
  | list =>
    refine CallR.imp call_list_of fun vs H Q ⟨S, ws, w, M', k, r, e, p⟩ => ?_
    rcases ws with _ | ⟨a, _ | ⟨_, _⟩⟩ <;> first | cases e | skip
    obtain ⟨x, rfl, r1⟩ := RVs.one r
    obtain ⟨xs, e1, e2⟩ := Option.map_eq_some_iff.mp (show (seqOf S.M a).map (fun xs => (Vl.d (.list xs), S.M)) = some (w, M') from e)
    obtain ⟨rfl, rfl⟩ : Vl.d (.list xs) = w ∧ S.M = M' := by simpa using e2
    obtain ⟨pa, us, rfl, d1, s1⟩ := k.seq r1 e1
    exact ⟨pa, us, rfl, s1, p.newL k d1⟩
  | max =>
    refine CallR.imp (call_max2 hc) fun vs H Q ⟨S, ws, w, M', k, r, e, p⟩ => ?_
    rcases ws with _ | ⟨a, _ | ⟨b, _ | ⟨_, _⟩⟩⟩
    · cases e
    · rcases a with (_ | _ | i | _ | _ | _ | _) | _ <;> cases e
    · obtain ⟨x, y, rfl, r1, r2⟩ := RVs.two r
      rcases a with (_ | _ | i | _ | _ | _ | _) | _ <;> rcases b with (_ | _ | j | _ | _ | _ | _) | _ <;> first | cases e | skip
      exact ⟨i, j, by rw [Dp.int_inv r1, Dp.int_inv r2], p.here k (.int _)⟩
    · rcases a with (_ | _ | i | _ | _ | _ | _) | _ <;> rcases b with (_ | _ | j | _ | _ | _ | _) | _ <;> cases e
  | min =>
    refine CallR.imp (call_min2 hc) fun vs H Q ⟨S, ws, w, M', k, r, e, p⟩ => ?_
    rcases ws with _ | ⟨a, _ | ⟨b, _ | ⟨_, _⟩⟩⟩
    · cases e
    · rcases a with (_ | _ | i | _ | _ | _ | _) | _ <;> cases e
    · obtain ⟨x, y, rfl, r1, r2⟩ := RVs.two r
      rcases a with (_ | _ | i | _ | _ | _ | _) | _ <;> rcases b with (_ | _ | j | _ | _ | _ | _) | _ <;> first | cases e | skip
      exact ⟨i, j, by rw [Dp.int_inv r1, Dp.int_inv r2], p.here k (.int _)⟩
    · rcases a with (_ | _ | i | _ | _ | _ | _) | _ <;> rcases b with (_ | _ | j | _ | _ | _ | _) | _ <;> cases e
  | sum =>
    refine CallR.imp (cr_sum hc) fun vs H Q ⟨S, ws, w, M', k, r, e, p⟩ => ?_
    rcases ws with _ | ⟨a, _ | ⟨_, _⟩⟩
    · cases e
    · obtain ⟨x, rfl, r1⟩ := RVs.one r
      rcases a with (_ | _ | _ | _ | xs | _ | _) | _ <;> first | cases e | skip
      obtain ⟨bs, e1, e2⟩ := Option.map_eq_some_iff.mp (show (intsOf xs).map (fun ns => (Vl.d (.int ns.sum), S.M)) = some (w, M') from e)
      obtain ⟨rfl, rfl⟩ : Vl.d (.int bs.sum) = w ∧ S.M = M' := by simpa using e2
      obtain ⟨pa, us, rfl, s1, d1⟩ := Dp.list_inv r1
      exact ⟨pa, bs, rfl, by rw [← ints_dp d1 e1]; exact Same.seq k.same s1, p.here k (.int _)⟩
    · rcases a with (_ | _ | _ | _ | xs | _ | _) | _ <;> cases e
  | sorted =>
    refine CallR.imp (cr_sortedD hu) fun vs H Q ⟨S, ws, w, M', k, r, e, p⟩ => ?_
    rcases ws with _ | ⟨a, _ | ⟨_, _⟩⟩ <;> first | cases e | skip
    obtain ⟨x, rfl, r1⟩ := RVs.one r
    obtain ⟨xs, e1, e2⟩ := Option.bind_eq_some_iff.mp (show ((seqOf S.M a).bind fun xs => if sortOk xs then some (Vl.d (.list (xs.mergeSort (PySem.W.dataLe false id))), S.M) else none) = some (w, M') from e)
    split at e2
    · rename_i hok
      obtain ⟨rfl, rfl⟩ : Vl.d (.list (xs.mergeSort (PySem.W.dataLe false id))) = w ∧ S.M = M' := by simpa using e2
      obtain ⟨pa, us, rfl, d1, s1⟩ := k.seq r1 e1
      exact ⟨S.B, pa, us, xs, k.same, rfl, s1, d1, hok, fun us' q hd hq => p.newL k hd q hq⟩
    · cases e2
  | dict => exact cr_dict hc
  | tupC => exact cr_tupC
end
theorem few1 {e1 : Expr} {cpos : Pos} {env : Env} (h : notStar e1 = true) : ((backTo cpos (starEach [e1] env)).all (fun x => !x.1) && (backToKw cpos (keywordEach [] env)).all (fun x => x.1.isSome)
      && decide (([e1] : List Expr).length + ([] : List Keyword).length + (if ([] : List Keyword).isEmpty then 0 else 1) < 30)) = true := by
  rw [star_cons h]
  rfl
theorem few2 {e1 e2 : Expr} {cpos : Pos} {env : Env} (h : notStar e1 = true) (h2 : notStar e2 = true) : ((backTo cpos (starEach [e1, e2] env)).all (fun x => !x.1) && (backToKw cpos (keywordEach [] env)).all (fun x => x.1.isSome)
      && decide (([e1, e2] : List Expr).length + ([] : List Keyword).length + (if ([] : List Keyword).isEmpty then 0 else 1) < 30)) = true := by
  rw [star_cons h, star_cons h2]
  rfl
def baseOk : Expr → Bool
  | .Name .. => true
  | .Call _ (_ :: _) _ _ => true
  | _ => false
theorem baseOk_ok {o : Expr} {name : Str} {env : Env} (h : baseOk o = true) : attributeBase o name env (eval o env) = eval o env := by
  cases o <;> first | rfl | (cases h; done) | skip
  rename_i f as ks p
  cases as with
  | nil => cases h
  | cons a as => cases f <;> rfl
section
variable {X : Cx} {a b : Expr} {fa fb : En → Mem → Option (Vl × Mem)} {apos cpos : Pos}
theorem pe_wdC {x1 : Nat} {pos : Pos} (ha : PE X a (tV X.K fa)) (hb : PE X b (tV X.K fb)) (hs : notStar a = true) (hs2 : notStar b = true) :
    PE X (.Tuple [a, b] x1 pos) (tV X.K fun env M => (fa env M).bind fun r => (fb env r.2).bind fun q => evWd r.1 q.1 q.2) := by
  refine PE.imp (pe_tup (pa_consN ha hs (pa_consN hb hs2 pa_nilN))) fun σ H Q ⟨S, env, w, M', k, ev, e, p⟩ => ?_
  obtain ⟨⟨u, M1⟩, e1, e2⟩ := Option.bind_eq_some_iff.mp e
  obtain ⟨⟨y, M2⟩, e3, e4⟩ := Option.bind_eq_some_iff.mp e2
  have e4' : evWd u y M2 = some (w, M') := e4
  refine ⟨S, env, [u, y], M2, k, ev, ?_, fun vs H1 S1 l1 em1 k1 r1 => ?_⟩
  · show (fa env S.M).bind _ = _
    rw [e1]
    show ((fb env M1).bind _).map _ = _
    rw [e3]
    rfl
  · rw [← em1] at e4'
    unfold evWd at e4'
    split at e4'
    · rename_i xs d q1
      obtain ⟨rfl, rfl⟩ : Vl.m S1.M.length = w ∧ S1.M ++ [Cl.wd xs d] = M' := by simpa using e4'
      obtain ⟨v1, v2, rfl, r2, r3⟩ := RVs.two r1
      unfold tpOf at q1
      split at q1
      · rename_i i
        split at q1
        · rename_i xs' hc
          cases q1
          obtain ⟨_, rfl⟩ : i < S1.M.length ∧ v1 = .ref (S1.ad i) := r2
          obtain ⟨vs, h2, h3⟩ := k1.cell i _ hc
          refine ⟨by simp [sizeLine_eq], fun q hq => ?_⟩
          have sm := (k1.leFresh (o := .tup [.ref (S1.ad i), v2]) hq).same
          exact ((p.le l1).le (k1.leFresh hq) : Post X.K ⟨upd S1.B q (.tup [.ref (S1.ad i), v2]), S1.ad, S1.M⟩ _ _ Q).app (k1.fresh hq) rfl ⟨_, v2, vs, .of upd_same, h2.same sm, DpAll.same sm _ _ h3, Dp.same sm _ _ r3⟩
        · cases q1
      · cases q1
    · cases e4'
theorem ix_rd {K : PySem.W.Frag} {σ : L2.St} {H : Hp} {Q : VK} (h : tV K (fun env M => (fa env M).bind fun r => (fb env r.2).bind fun q => evIx r.1 q.1 q.2) σ H Q) :
    tBM K "list" (rIndexD K) (tV K fa) (tA K fun env M => (fb env M).bind fun r => (some (([] : List Vl), r.2)).map fun q => (r.1 :: q.1, q.2)) σ H Q := by
  obtain ⟨S, env, w, M', k, ev, e, p⟩ := h
  obtain ⟨⟨a, M1⟩, e1, e2⟩ := Option.bind_eq_some_iff.mp e
  obtain ⟨⟨b, M2⟩, e3, e4⟩ := Option.bind_eq_some_iff.mp e2
  have e4' : evIx a b M2 = some (w, M') := e4
  unfold evIx at e4'
  split at e4'
  · rename_i xs y
    split at e4'
    · rename_i hf
      obtain ⟨f1, f2⟩ := Bool.and_eq_true_iff.mp hf
      obtain ⟨j, e5, e6⟩ := Option.map_eq_some_iff.mp e4'
      obtain ⟨rfl, rfl⟩ : Vl.d (.int (j : Int)) = w ∧ M2 = M' := by simpa using e6
      obtain ⟨hj, hj1, hj2⟩ := List.findIdx?_eq_some_iff_getElem.mp e5
      refine ⟨S, env, .d (.list xs), M1, k, ev, e1, fun x H1 S1 l1 em1 k1 r1 => ?_⟩
      obtain ⟨pa, us, rfl, s1, d1⟩ := k1.lstV r1 rfl
      refine ⟨.inl ⟨rfl, us, s1⟩, S1, env, [.d y], M2, k1, ev.le l1, by rw [em1]; show (fb env M1).bind _ = _; rw [show fb env M1 = some (.d y, M2) from e3]; rfl, fun vs H2 S2 l2 em2 k2 r2 => ?_⟩
      obtain ⟨z, rfl, rz⟩ := RVs.one r2
      have p2 := p.le (l1.trans l2)
      rw [← em2] at p2
      refine ⟨pa, z, y, xs, j, xs[j], rfl, rfl, k2.dat (r1.le l2) rfl, k2.dat rz rfl, (flat_all f2).1, flat_shaped f1, List.getElem?_eq_getElem hj, hj1, fun m z' hm hz => ?_, p2.here k2 (.int _)⟩
      obtain ⟨hml, rfl⟩ := List.getElem?_eq_some_iff.mp hz
      simpa using hj2 m hm
    · cases e4'
  · cases e4'
theorem pe_ixN (hu : X.A.units + 65 < cLine) (ha : PE X a (tV X.K fa)) (hb : PE X b (tV X.K fb)) (hk : baseOk a = true) (hl : (apos.endLine == cpos.line) = true) (hs : notStar b = true) :
    PE X (.Call (.Attribute a (Str.ofString "index") apos) [b] [] cpos) (tV X.K fun env M => (fa env M).bind fun r => (fb env r.2).bind fun q => evIx r.1 q.1 q.2) :=
  PE.imp (pe_bm PySem.F.plainAttrs_list PySem.F.slot_list_index PySem.F.type_list_index (mt_indexD hu) ha (pa_consN hb hs pa_nilN) (baseOk_ok hk) (few1 hs) hl (star_cons hs) rfl) fun σ H Q q => ix_rd q
end
end NW

set_option Elab.async false
set_option linter.all false
set_option maxRecDepth 100000
set_option maxHeartbeats 4000000
/-! Targets, what is walked, comprehensions, the promise of a def and its call. -/
namespace NW
open PySem PySem.Spec PyProof.Rows L2

/-! ### targets -/
mutual
def tvT : T → List Nat
  | .name i => [i]
  | .tup ts => tvTs ts
def tvTs : List T → List Nat
  | [] => []
  | t :: ts => tvT t ++ tvTs ts
end
def tG (K : PySem.W.Frag) (t : T) : TG := fun v σ H Q => ∃ (S : W3) (env env' : En) (w : Vl), Ok K S H ∧ EnvOk K S σ env ∧ RV K S v w ∧ evT t w env = some env' ∧
  ∀ σ', EnvOk K S σ' env' → (∀ vs : List Nat, (∀ i ∈ tvT t, i ∈ vs) → L2.wipe σ' vs = L2.wipe σ vs) → Q σ' H
def tGs (K : PySem.W.Frag) (ts : List T) : TGs := fun us σ H Q => ∃ (S : W3) (env env' : En) (xs : List D), Ok K S H ∧ EnvOk K S σ env ∧ DpAll K S.B us xs ∧ evTs ts xs env = some env' ∧
  ∀ σ', EnvOk K S σ' env' → (∀ vs : List Nat, (∀ i ∈ tvTs ts, i ∈ vs) → L2.wipe σ' vs = L2.wipe σ vs) → Q σ' H
theorem PG.imp {X : Cx} {e : Expr} {t t' : TG} (h : PG X e t) (hi : ∀ v σ H Q, t' v σ H Q → t v σ H Q) : PG X e t' := ⟨fun pins s σ H v u Q I r q => h.run pins s σ H v u Q I r (hi v σ H Q q)⟩
theorem PGs.imp {X : Cx} {e : List Expr} {t t' : TGs} (h : PGs X e t) (hi : ∀ v σ H Q, t' v σ H Q → t v σ H Q) : PGs X e t' := ⟨fun pins s σ H v u Q I r q => h.run pins s σ H v u Q I r (hi v σ H Q q)⟩
section
variable {X : Cx} {pos : Pos}
theorem pg_nameN {i : Nat} {x : Str} (h : PG X (.Name x pos) (gName i)) : PG X (.Name x pos) (tG X.K (.name i)) := by
  refine PG.imp h fun v σ H Q ⟨S, env, env', w, k, ev, r, e, q⟩ => ?_
  have e1 : env.set i (some w) = env' := Option.some.inj (by simpa only [evT] using e)
  subst e1
  exact q _ (ev.set r) fun vs hi => wipe_set (hi i (by simp [tvT]))
theorem assign_cons {e : Expr} {es : List Expr} {env : Env} (h : notStar e = true) : assignEach (e :: es) env = (false, assign e env) :: assignEach es env := by
  cases e <;> first | rfl | cases h
theorem assign_plain {env : Env} : ∀ {es : List Expr}, es.all notStar = true → (assignEach es env).length = es.length ∧ (assignEach es env).findIdx? (·.1) = none
  | [], _ => ⟨rfl, rfl⟩
  | e :: es, h => by
    rw [List.all_cons] at h
    obtain ⟨h1, h2⟩ := Bool.and_eq_true_iff.mp h
    obtain ⟨h3, h4⟩ := assign_plain (env := env) h2
    rw [assign_cons h1]
    refine ⟨by rw [List.length_cons, List.length_cons, h3], ?_⟩
    rw [List.findIdx?_cons, h4]
    rfl
theorem pgs_nilN : PGs X [] (tGs X.K []) := by
  refine PGs.imp pgs_nil fun us σ H Q ⟨S, env, env', xs, k, ev, d, e, q⟩ => ?_
  cases xs with
  | nil =>
    have e1 : env = env' := Option.some.inj (by simpa only [evTs] using e)
    subst e1
    cases d
    exact ⟨rfl, q σ ev fun _ _ => rfl⟩
  | cons x xs => simp only [evTs] at e; cases e
theorem pgs_consN {e : Expr} {es : List Expr} {t : T} {ts : List T} (hs : notStar e = true) (h1 : PG X e (tG X.K t)) (h2 : PGs X es (tGs X.K ts)) : PGs X (e :: es) (tGs X.K (t :: ts)) := by
  refine PGs.imp (pgs_cons h1 h2 (by rw [assign_cons hs]; rfl)) fun us σ H Q ⟨S, env, env', xs, k, ev, d, e, q⟩ => ?_
  cases xs with
  | nil => simp only [evTs] at e; cases e
  | cons x xs =>
    simp only [evTs] at e
    obtain ⟨env1, e1, e2⟩ := Option.bind_eq_some_iff.mp e
    cases d with
    | cons p t' =>
      refine ⟨_, _, rfl, S, env, env1, .d x, k, ev, p, e1, fun σ1 ev1 hw1 => ⟨S, env1, env', xs, k, ev1, t', e2, fun σ2 ev2 hw2 => q σ2 ev2 fun vs hv => ?_⟩⟩
      have hv' : ∀ i ∈ tvT t ++ tvTs ts, i ∈ vs := hv
      rw [hw2 vs fun i hi => hv' i (List.mem_append_right _ hi), hw1 vs fun i hi => hv' i (List.mem_append_left _ hi)]
theorem pg_tupN {es : List Expr} {kk : Nat} {ts : List T} (hc : X.calm = true) (hs : es.all notStar = true) (hl : es.length = ts.length) (h : PGs X es (tGs X.K ts)) : PG X (.Tuple es kk pos) (tG X.K (.tup ts)) := by
  obtain ⟨h1, h2⟩ := assign_plain (env := X.env) hs
  refine PG.imp (pg_tup (n := ts.length) hc h (by rw [h1, hl]) h2) fun v σ H Q ⟨S, env, env', w, k, ev, r, e, q⟩ => ?_
  have lenT : ∀ (ts : List T) (xs : List D) (env env' : En), evTs ts xs env = some env' → xs.length = ts.length := by
    intro ts
    induction ts with
    | nil =>
      intro xs env env' e
      cases xs with
      | nil => rfl
      | cons x xs => simp only [evTs] at e; cases e
    | cons t ts ih =>
      intro xs env env' e
      cases xs with
      | nil => simp only [evTs] at e; cases e
      | cons x xs =>
        simp only [evTs] at e
        obtain ⟨env1, e1, e2⟩ := Option.bind_eq_some_iff.mp e
        rw [List.length_cons, List.length_cons, ih xs env1 env' e2]
  rcases w with (_ | _ | _ | _ | _ | xs | _) | _ <;> first | (simp only [evT] at e; cases e; done) | skip
  simp only [evT] at e
  obtain ⟨a, us, rfl, s, d⟩ := Dp.tuple_inv r
  exact ⟨a, us, rfl, SqT.same k.same s, by rw [d.length]; exact lenT ts xs env env' e, S, env, env', xs, k, ev, d, e, q⟩
end

/-! ### what is walked -/
structure WkFix (K : PySem.W.Frag) (xs : List D) (S : W3) (J : L2.It) : Prop where
  go : ∀ (i : Nat) (H : Hp) (S' : W3), i < xs.length → Le S S' → Ok K S' H → J.go i H
  stop : ∀ (H : Hp) (S' : W3), Le S S' → Ok K S' H → J.stop xs.length H
  yld : ∀ (i : Nat) (H : Hp) (x : V) (H' : Hp) (S' : W3) (d : D), xs[i]? = some d → Le S S' → Ok K S' H → J.yld i H x H' → ∃ S3 : W3, Le S' S3 ∧ S3.M = S'.M ∧ Ok K S3 H' ∧ Dp K S3.B x d
structure WkDyn (K : PySem.W.Frag) (c : Nat) (S : W3) (J : L2.It) : Prop where
  go : ∀ (i : Nat) (H : Hp) (S' : W3) (xs : List D) (d : D), Le S S' → Ok K S' H → S'.M[c]? = some (.lst xs) → xs[i]? = some d → J.go i H
  stop : ∀ (i : Nat) (H : Hp) (S' : W3) (xs : List D), Le S S' → Ok K S' H → S'.M[c]? = some (.lst xs) → xs[i]? = none → J.stop i H
  yld : ∀ (i : Nat) (H : Hp) (x : V) (H' : Hp) (S' : W3) (xs : List D) (d : D), Le S S' → Ok K S' H → S'.M[c]? = some (.lst xs) → xs[i]? = some d → J.yld i H x H' → H' = H ∧ Dp K S'.B x d
def Wk (K : PySem.W.Frag) (s : Src) (S : W3) (J : L2.It) : Prop := match s with
  | .fix xs => WkFix K xs S J
  | .dyn c => WkDyn K c S J
def tI (K : PySem.W.Frag) (f : En → Mem → Option (Src × Mem)) : TI := fun σ H R => ∃ (S : W3) (env : En) (s : Src) (M' : Mem), Ok K S H ∧ EnvOk K S σ env ∧ f env S.M = some (s, M') ∧
  ∀ (J : L2.It) (H' : Hp) (S' : W3), Le S S' → S'.M = M' → Ok K S' H' → Wk K s S' J → R J H'
theorem PI.imp {X : Cx} {tg it : Expr} {t t' : TI} (h : PI X tg it t) (hi : ∀ σ H R, t' σ H R → t σ H R) : PI X tg it t' := ⟨fun pins s σ H R I q => h.run pins s σ H R I (hi σ H R q)⟩
section
variable {X : Cx} {tg a b : Expr} {fa fb : En → Mem → Option (Vl × Mem)} {pos p p2 : Pos}
theorem PI.or {it : Expr} {t t' : TI} (h : PI X tg it t) (h' : PI X tg it t') : PI X tg it (fun σ H R => t σ H R ∨ t' σ H R) := ⟨fun pins s σ H R I q => q.elim (h.run pins s σ H R I) (h'.run pins s σ H R I)⟩
/-- a list, a tuple, a text -/
def iSeq (K : PySem.W.Frag) (te : TE) : TI := fun σ H R => te σ H fun x H1 => (∃ a, x = .ref a ∧ (∃ xs, SqL K H1 a xs) ∧ R (Itl K a) H1) ∨ (∃ a, x = .ref a ∧ (∃ xs, SqT K H1 a xs) ∧ R (Itt K a) H1) ∨ (∃ z, x = .str z ∧ R (Its z) H1)
theorem pi_seq {te : TE} (he : PE X a te) : PI X tg a (iSeq X.K te) := by
  refine ⟨fun pins s σ H R I h => ?_⟩
  refine thn (he.run pins s σ H _ I h) fun v s1 ⟨x, H1, I1, r1, q1⟩ => ?_
  rcases q1 with ⟨a, e, ⟨xs, hq⟩, q⟩ | ⟨a, e, ⟨xs, hq⟩, q⟩ | ⟨z, e, q⟩
  · subst e
    cases r1
    obtain ⟨its, rv, p, hz⟩ := I1.list hq
    refine wpAny_pyIter_list p.isList ?_
    refine ⟨s1.heap.objs.size, [s1.heap.objs.size], _, _, H1, rfl, I1.kept (t' := s1.toks) fun b o e => Heap.get?_push_of_some _ e, turn_list a _, ⟨_, Heap.get?_push_size _ rfl, rfl, rfl⟩, fun b hb => ?_, q⟩
    have e : b = s1.heap.objs.size := by simpa using hb
    subst e
    exact I1.fpOk (Nat.le_refl _) (I1.hok.fresh (Nat.le_refl _))
  · subst e
    cases r1
    obtain ⟨its, rv, p, hz⟩ := I1.tuple hq
    refine wpAny_pyIter_tuple (show s1.heap.IsTuple a its.toArray from p) ?_
    refine ⟨s1.heap.objs.size, [s1.heap.objs.size], _, _, H1, rfl, I1.kept (t' := s1.toks) fun b o e => Heap.get?_push_of_some _ e, turn_tuple a _, ⟨_, Heap.get?_push_size _ rfl, rfl, rfl⟩, fun b hb => ?_, q⟩
    have e : b = s1.heap.objs.size := by simpa using hb
    subst e
    exact I1.fpOk (Nat.le_refl _) (I1.hok.fresh (Nat.le_refl _))
  · subst e
    obtain ⟨t, rfl⟩ := r1
    cases ha : z.cps.all (· < 128)
    · exact wpAny_pyIter_wide ha (pi_one (tk := s1.toks) I1 _ (turn_str _ z t "str_iterator" (.inr rfl)) ⟨_, Heap.get?_push_size _ rfl, rfl, rfl⟩ q)
    · exact wpAny_pyIter_ascii ha (pi_one (tk := s1.toks) I1 _ (turn_str _ z t "str_ascii_iterator" (.inl rfl)) ⟨_, Heap.get?_push_size _ rfl, rfl, rfl⟩ q)

/-! the iterators by my words -/
theorem wk_list {K : PySem.W.Frag} {S : W3} {H : Hp} {a : Addr} {vs : List V} {xs : List D} (hs : SqL K S.B a vs) (d : DpAll K S.B vs xs) : WkFix K xs S (Itl K a) where
  go := fun i H S' hi l k => by
    have hi2 : i < vs.length := by rw [d.length]; exact hi
    exact ⟨vs, vs[i], Same.seq (l.same.trans k.same) hs, by simp [hi2]⟩
  stop := fun H S' l k => ⟨vs, Same.seq (l.same.trans k.same) hs, by rw [d.length]; exact Nat.le_refl _⟩
  yld := fun i H x H' S' dd hx l k y => by
    obtain ⟨rfl, h⟩ := y
    obtain ⟨v, e1, p⟩ := d.get hx
    have e2 := h vs (Same.seq (l.same.trans k.same) hs)
    rw [e1] at e2
    have e3 := Option.some.inj e2
    subst e3
    exact ⟨S', Le.refl _, rfl, k, Dp.same l.same _ _ p⟩
theorem wk_tup {K : PySem.W.Frag} {S : W3} {a : Addr} {vs : List V} {xs : List D} (hs : SqT K S.B a vs) (d : DpAll K S.B vs xs) : WkFix K xs S (Itt K a) where
  go := fun i H S' hi l k => by
    have hi2 : i < vs.length := by rw [d.length]; exact hi
    exact ⟨vs, vs[i], SqT.same (l.same.trans k.same) hs, by simp [hi2]⟩
  stop := fun H S' l k => ⟨vs, SqT.same (l.same.trans k.same) hs, by rw [d.length]; exact Nat.le_refl _⟩
  yld := fun i H x H' S' dd hx l k y => by
    obtain ⟨rfl, h⟩ := y
    obtain ⟨v, e1, p⟩ := d.get hx
    have e2 := h vs (SqT.same (l.same.trans k.same) hs)
    rw [e1] at e2
    have e3 := Option.some.inj e2
    subst e3
    exact ⟨S', Le.refl _, rfl, k, Dp.same l.same _ _ p⟩
theorem wk_str {K : PySem.W.Frag} {S : W3} {z : Str} : WkFix K (signsD z) S (Its z) where
  go := fun i H S' hi l k => by
    have : i < z.cps.size := by simpa [signsD] using hi
    exact this
  stop := fun H S' l k => by
    show z.cps.size ≤ (signsD z).length
    simp [signsD]
  yld := fun i H x H' S' dd hx l k y => by
    obtain ⟨rfl, c, hc, rfl⟩ := y
    have e : dd = .str ⟨#[c]⟩ := by
      unfold signsD at hx
      rw [List.getElem?_map, Array.getElem?_toList, hc] at hx
      exact (Option.some.inj hx).symm
    subst e
    exact ⟨S', Le.refl _, rfl, k, .str _⟩
theorem wk_dyn {K : PySem.W.Frag} {S : W3} {c : Nat} (hc : c < S.M.length) : WkDyn K c S (Itl K (S.ad c)) where
  go := fun i H S' xs d l k e hx => by
    obtain ⟨vs, h2, h3, _⟩ := k.lst e
    rw [l.ad c hc] at h2
    obtain ⟨v, e1, p⟩ := h3.get hx
    exact ⟨vs, v, .of h2, e1⟩
  stop := fun i H S' xs l k e hx => by
    obtain ⟨vs, h2, h3, _⟩ := k.lst e
    rw [l.ad c hc] at h2
    exact ⟨vs, .of h2, by rw [h3.length]; exact List.getElem?_eq_none_iff.mp hx⟩
  yld := fun i H x H' S' xs d l k e hx y => by
    obtain ⟨rfl, h⟩ := y
    obtain ⟨vs, h2, h3, _⟩ := k.lst e
    rw [l.ad c hc] at h2
    obtain ⟨v, e1, p⟩ := h3.get hx
    have e2 := h vs (.of h2)
    rw [e1] at e2
    have e3 := Option.some.inj e2
    subst e3
    exact ⟨rfl, p⟩
theorem wk_rng {K : PySem.W.Frag} {S : W3} {lo : Int} {n : Nat} : WkFix K (rngD lo n) S (Itr lo n) where
  go := fun i H S' hi l k => by
    have : i < n := by simpa [rngD] using hi
    exact this
  stop := fun H S' l k => by
    show n ≤ (rngD lo n).length
    simp [rngD]
  yld := fun i H x H' S' dd hx l k y => by
    obtain ⟨rfl, rfl⟩ := y
    have hi : i < n := by
      have := (List.getElem?_eq_some_iff.mp hx).1
      simpa [rngD] using this
    have e : dd = .int (lo + (i : Int)) := by
      unfold rngD at hx
      rw [List.getElem?_map, List.getElem?_range hi] at hx
      exact (Option.some.inj hx).symm
    subst e
    exact ⟨S', Le.refl _, rfl, k, .int _⟩
theorem pairD_get : ∀ {xs ys : List D} {i : Nat} {d : D}, (pairD xs ys)[i]? = some d → ∃ x y, xs[i]? = some x ∧ ys[i]? = some y ∧ d = .tuple [x, y]
  | x :: xs, y :: ys, 0, d, h => ⟨x, y, rfl, rfl, (Option.some.inj h).symm⟩
  | x :: xs, y :: ys, i + 1, d, h => by
    obtain ⟨a, b, h1, h2, h3⟩ := pairD_get (xs := xs) (ys := ys) (i := i) h
    exact ⟨a, b, h1, h2, h3⟩
  | [], _, i, d, h => by simp [pairD] at h
  | _ :: _, [], i, d, h => by simp [pairD] at h
theorem pairD_len : ∀ (xs ys : List D), (pairD xs ys).length = min xs.length ys.length
  | x :: xs, y :: ys => by
    show (pairD xs ys).length + 1 = min (xs.length + 1) (ys.length + 1)
    rw [pairD_len xs ys]
    omega
  | [], ys => by simp [pairD]
  | _ :: _, [] => by simp [pairD]
/-- a new pair of two known things -/
theorem pair_new {K : PySem.W.Frag} {S S' : W3} {H : Hp} {T : Addr} {x y : V} {a b : D} (k : Ok K S' H) (hT : H T = none) (p : Dp K S'.B x a) (q : Dp K S'.B y b) :
    ∃ S3 : W3, Le S' S3 ∧ S3.M = S'.M ∧ Ok K S3 (upd H T (.tup [x, y])) ∧ Dp K S3.B (.ref T) (.tuple [a, b]) :=
  ⟨_, k.leFresh hT, rfl, k.fresh hT, .tup (.of upd_same) (.cons (Dp.same (k.leFresh hT).same _ _ p) (.cons (Dp.same (k.leFresh hT).same _ _ q) .nil))⟩
theorem wk_zip {K : PySem.W.Frag} {S : W3} {a b : Addr} {vs us : List V} {xs ys : List D} (hs : SqL K S.B a vs) (hs2 : SqL K S.B b us) (d : DpAll K S.B vs xs) (d2 : DpAll K S.B us ys) : WkFix K (pairD xs ys) S (Itz K a b) where
  go := fun i H S' hi l k => by
    rw [pairD_len] at hi
    have h1 : i < vs.length := by rw [d.length]; omega
    have h2 : i < us.length := by rw [d2.length]; omega
    exact ⟨vs, us, vs[i], us[i], Same.seq (l.same.trans k.same) hs, Same.seq (l.same.trans k.same) hs2, by simp [h1], by simp [h2]⟩
  stop := fun H S' l k => ⟨vs, us, Same.seq (l.same.trans k.same) hs, Same.seq (l.same.trans k.same) hs2, by rw [pairD_len, d.length, d2.length]; omega⟩
  yld := fun i H x H' S' dd hx l k y => by
    obtain ⟨T, v, u, rfl, hT, rfl, f1, f2⟩ := y
    obtain ⟨x1, x2, g1, g2, rfl⟩ := pairD_get hx
    obtain ⟨v', e1, p⟩ := d.get g1
    obtain ⟨u', e2, q⟩ := d2.get g2
    have q1 := f1 vs (Same.seq (l.same.trans k.same) hs)
    have q2 := f2 us (Same.seq (l.same.trans k.same) hs2)
    rw [e1] at q1
    rw [e2] at q2
    have q3 := Option.some.inj q1
    have q4 := Option.some.inj q2
    subst q3 q4
    exact pair_new (S := S) k hT (Dp.same l.same _ _ p) (Dp.same l.same _ _ q)
theorem wk_zipT {K : PySem.W.Frag} {S : W3} {a b : Addr} {vs us : List V} {xs ys : List D} (hs : SqT K S.B a vs) (hs2 : SqT K S.B b us) (d : DpAll K S.B vs xs) (d2 : DpAll K S.B us ys) : WkFix K (pairD xs ys) S (RZ.ItzT K a b) where
  go := fun i H S' hi l k => by
    rw [pairD_len] at hi
    have h1 : i < vs.length := by rw [d.length]; omega
    have h2 : i < us.length := by rw [d2.length]; omega
    exact ⟨vs, us, vs[i], us[i], SqT.same (l.same.trans k.same) hs, SqT.same (l.same.trans k.same) hs2, by simp [h1], by simp [h2]⟩
  stop := fun H S' l k => ⟨vs, us, SqT.same (l.same.trans k.same) hs, SqT.same (l.same.trans k.same) hs2, by rw [pairD_len, d.length, d2.length]; omega⟩
  yld := fun i H x H' S' dd hx l k y => by
    obtain ⟨T, v, u, rfl, hT, rfl, f1, f2⟩ := y
    obtain ⟨x1, x2, g1, g2, rfl⟩ := pairD_get hx
    obtain ⟨v', e1, p⟩ := d.get g1
    obtain ⟨u', e2, q⟩ := d2.get g2
    have q1 := f1 vs (SqT.same (l.same.trans k.same) hs)
    have q2 := f2 us (SqT.same (l.same.trans k.same) hs2)
    rw [e1] at q1
    rw [e2] at q2
    have q3 := Option.some.inj q1
    have q4 := Option.some.inj q2
    subst q3 q4
    exact pair_new (S := S) k hT (Dp.same l.same _ _ p) (Dp.same l.same _ _ q)
theorem wk_enum {K : PySem.W.Frag} {S : W3} {a : Addr} {vs : List V} {xs : List D} (hs : SqL K S.B a vs) (d : DpAll K S.B vs xs) : WkFix K (pairD (rngD 0 xs.length) xs) S (Ite K a) where
  go := fun i H S' hi l k => by
    rw [pairD_len] at hi
    have h1 : i < vs.length := by rw [d.length]; omega
    exact ⟨vs, vs[i], Same.seq (l.same.trans k.same) hs, by simp [h1]⟩
  stop := fun H S' l k => ⟨vs, Same.seq (l.same.trans k.same) hs, by rw [pairD_len, d.length]; simp [rngD]⟩
  yld := fun i H x H' S' dd hx l k y => by
    obtain ⟨T, v, rfl, hT, rfl, f1⟩ := y
    obtain ⟨x1, x2, g1, g2, rfl⟩ := pairD_get hx
    obtain ⟨v', e1, p⟩ := d.get g2
    have hi : i < xs.length := (List.getElem?_eq_some_iff.mp g2).1
    have e : x1 = .int ((0 : Int) + (i : Int)) := by
      unfold rngD at g1
      rw [List.getElem?_map, List.getElem?_range hi] at g1
      exact (Option.some.inj g1).symm
    subst e
    have q1 := f1 vs (Same.seq (l.same.trans k.same) hs)
    rw [e1] at q1
    have q3 := Option.some.inj q1
    subst q3
    rw [Int.zero_add]
    exact pair_new (S := S) k hT (.int _) (Dp.same l.same _ _ p)
theorem pi_seqN (ha : PE X a (tV X.K fa)) : PI X tg a (tI X.K fun env M => (fa env M).bind fun r => (srcOf r.2 r.1).map fun s => (s, r.2)) := by
  refine PI.imp (pi_seq ha) fun σ H R ⟨S, env, s, M', k, ev, e, q⟩ => ?_
  obtain ⟨⟨w, M1⟩, e1, e2⟩ := Option.bind_eq_some_iff.mp e
  obtain ⟨s', e3, e4⟩ := Option.map_eq_some_iff.mp e2
  obtain ⟨rfl, rfl⟩ : s' = s ∧ M1 = M' := by simpa using e4
  refine ⟨S, env, w, M1, k, ev, e1, fun x H1 S1 l1 em1 k1 r1 => ?_⟩
  rcases w with (_ | _ | _ | z | xs | xs | _) | c <;> first | (cases e3; done) | skip
  · have e5 : Src.fix (signsD z) = s' := Option.some.inj e3
    subst e5
    exact .inr (.inr ⟨z, Dp.str_inv r1, q _ H1 S1 l1 em1 k1 wk_str⟩)
  · have e5 : Src.fix xs = s' := Option.some.inj e3
    subst e5
    obtain ⟨pa, us, rfl, s1, d1⟩ := Dp.list_inv r1
    exact .inl ⟨pa, rfl, ⟨us, Same.seq k1.same s1⟩, q _ H1 S1 l1 em1 k1 (wk_list (H := H1) s1 d1)⟩
  · have e5 : Src.fix xs = s' := Option.some.inj e3
    subst e5
    obtain ⟨pa, us, rfl, s1, d1⟩ := Dp.tuple_inv r1
    exact .inr (.inl ⟨pa, rfl, ⟨us, SqT.same k1.same s1⟩, q _ H1 S1 l1 em1 k1 (wk_tup s1 d1)⟩)
  · have e6 : (match M1[c]? with | some (.lst _) => some (Src.dyn c) | _ => none) = some s' := e3
    split at e6
    · rename_i ys q6
      have e5 : Src.dyn c = s' := Option.some.inj e6
      subst e5
      obtain ⟨hc, rfl⟩ : c < S1.M.length ∧ x = .ref (S1.ad c) := r1
      obtain ⟨us, h2, h3, _⟩ := k1.lst (i := c) (xs := ys) (by rw [em1]; exact q6)
      exact .inl ⟨_, rfl, ⟨us, .of h2⟩, q _ H1 S1 l1 em1 k1 (wk_dyn hc)⟩
    · cases e6
theorem rngOf_inv {i j : Int} {s : Src} (h : rngOf i j = some s) : s = .fix (rngD i (j - i).toNat) ∧ -(2 ^ 62) ≤ i ∧ i < 2 ^ 62 ∧ -(2 ^ 62) ≤ j ∧ j < 2 ^ 62 := by
  unfold rngOf at h
  split at h
  · rename_i q
    refine ⟨(Option.some.inj h).symm, ?_⟩
    omega
  · cases h
theorem pi_rng1N (hg : Gl X "range") (hm : X.mg "range" = none) (hs : notStar a = true) (ha : PE X a (tV X.K fa)) : PI X tg (.Call (.Name "range" p) [a] [] pos) (tI X.K fun env M => (fa env M).bind fun r => evRng1 r.1 r.2) := by
  refine PI.imp (pi_range1 hg hm (pa_consN ha hs pa_nilN) (star_cons hs)) fun σ H R ⟨S, env, s, M', k, ev, e, q⟩ => ?_
  obtain ⟨⟨w, M1⟩, e1, e2⟩ := Option.bind_eq_some_iff.mp e
  rcases w with (_ | _ | j | _ | _ | _ | _) | _ <;> first | (cases e2; done) | skip
  obtain ⟨s', e3, e4⟩ := Option.map_eq_some_iff.mp e2
  obtain ⟨rfl, rfl⟩ : s' = s ∧ M1 = M' := by simpa using e4
  obtain ⟨rfl, _, _, h1, h2⟩ := rngOf_inv e3
  refine ⟨S, env, [.d (.int j)], M1, k, ev, by show ((fa env S.M).bind fun r => (some ([], r.2)).map fun q => (r.1 :: q.1, q.2)) = _; rw [e1]; rfl, fun vs H1 S1 l1 em1 k1 r1 => ?_⟩
  obtain ⟨v, rfl, r2⟩ := RVs.one r1
  refine ⟨j, by rw [Dp.int_inv r2], h1, h2, ?_⟩
  rw [Int.sub_zero] at q
  exact q _ H1 S1 l1 em1 k1 wk_rng
theorem pi_rng2N (hg : Gl X "range") (hm : X.mg "range" = none) (hs : notStar a = true) (hs2 : notStar b = true) (ha : PE X a (tV X.K fa)) (hb : PE X b (tV X.K fb)) :
    PI X tg (.Call (.Name "range" p) [a, b] [] pos) (tI X.K fun env M => (fa env M).bind fun r => (fb env r.2).bind fun q => evRng2 r.1 q.1 q.2) := by
  refine PI.imp (pi_range2 hg hm (pa_consN ha hs (pa_consN hb hs2 pa_nilN)) (by rw [star_cons hs, star_cons hs2]; rfl) (by rw [star_cons hs2]; rfl)) fun σ H R ⟨S, env, s, M', k, ev, e, q⟩ => ?_
  obtain ⟨⟨w, M1⟩, e1, e2⟩ := Option.bind_eq_some_iff.mp e
  obtain ⟨⟨u, M2⟩, e3, e4⟩ := Option.bind_eq_some_iff.mp e2
  rcases w with (_ | _ | i | _ | _ | _ | _) | _ <;> rcases u with (_ | _ | j | _ | _ | _ | _) | _ <;> first | (cases e4; done) | skip
  obtain ⟨s', e5, e6⟩ := Option.map_eq_some_iff.mp e4
  obtain ⟨rfl, rfl⟩ : s' = s ∧ M2 = M' := by simpa using e6
  obtain ⟨rfl, h1, h2, h3, h4⟩ := rngOf_inv e5
  refine ⟨S, env, [.d (.int i), .d (.int j)], M2, k, ev, ?_, fun vs H1 S1 l1 em1 k1 r1 => ?_⟩
  · show ((fa env S.M).bind fun r => ((fb env r.2).bind fun r => (some ([], r.2)).map fun q => (r.1 :: q.1, q.2)).map fun q => (r.1 :: q.1, q.2)) = _
    rw [e1]
    show ((fb env M1).bind fun r => (some ([], r.2)).map fun q => (r.1 :: q.1, q.2)).map (fun q => (Vl.d (.int i) :: q.1, q.2)) = _
    rw [e3]
    rfl
  · obtain ⟨v, v', rfl, r2, r3⟩ := RVs.two r1
    exact ⟨i, j, by rw [Dp.int_inv r2, Dp.int_inv r3], ⟨h1, h2, h3, h4⟩, q _ H1 S1 l1 em1 k1 wk_rng⟩
/-- two arguments by my evaluator -/
theorem two_ev {env : En} {M M1 M2 : Mem} {w u : Vl} (e1 : fa env M = some (w, M1)) (e3 : fb env M1 = some (u, M2)) :
    ((fa env M).bind fun r => ((fb env r.2).bind fun r => (some (([] : List Vl), r.2)).map fun q => (r.1 :: q.1, q.2)).map fun q => (r.1 :: q.1, q.2)) = some ([w, u], M2) := by
  rw [e1]
  show ((fb env M1).bind fun r => (some (([] : List Vl), r.2)).map fun q => (r.1 :: q.1, q.2)).map (fun q => (w :: q.1, q.2)) = _
  rw [e3]
  rfl
theorem pi_zipN {elts : List Expr} {kk : Nat} {tpos : Pos} (hg : Gl X "zip") (hm : X.mg "zip" = none) (hs : notStar a = true) (hs2 : notStar b = true) (ha : PE X a (tV X.K fa)) (hb : PE X b (tV X.K fb)) :
    PI X (.Tuple elts kk tpos) (.Call (.Name "zip" p) [a, b] [] pos) (tI X.K fun env M => (fa env M).bind fun r => (fb env r.2).bind fun q => (zipOf r.1 q.1).map fun s => (s, q.2)) := by
  refine PI.imp (RZ.pi_zipA hg hm (pa_consN ha hs (pa_consN hb hs2 pa_nilN)) (star_cons hs) (star_plain (by rw [List.all_cons, hs2]; rfl))) fun σ H R ⟨S, env, s, M', k, ev, e, q⟩ => ?_
  obtain ⟨⟨w, M1⟩, e1, e2⟩ := Option.bind_eq_some_iff.mp e
  obtain ⟨⟨u, M2⟩, e3, e4⟩ := Option.bind_eq_some_iff.mp e2
  obtain ⟨s', e5, e6⟩ := Option.map_eq_some_iff.mp e4
  obtain ⟨rfl, rfl⟩ : s' = s ∧ M2 = M' := by simpa using e6
  refine ⟨S, env, [w, u], M2, k, ev, two_ev e1 e3, fun vs H1 S1 l1 em1 k1 r1 => ?_⟩
  obtain ⟨v, v', rfl, r2, r3⟩ := RVs.two r1
  rcases w with (_ | _ | _ | _ | xs | xs | _) | _ <;> rcases u with (_ | _ | _ | _ | ys | ys | _) | _ <;> first | (cases e5; done) | skip
  · have e7 : Src.fix (pairD xs ys) = s' := Option.some.inj e5
    subst e7
    obtain ⟨pa, us, rfl, s1, d1⟩ := Dp.list_inv r2
    obtain ⟨pb, us2, rfl, s2, d2⟩ := Dp.list_inv r3
    exact ⟨pa, pb, us, us2, rfl, .inl ⟨Same.seq k1.same s1, Same.seq k1.same s2, q _ H1 S1 l1 em1 k1 (wk_zip s1 s2 d1 d2)⟩⟩
  · have e7 : Src.fix (pairD xs ys) = s' := Option.some.inj e5
    subst e7
    obtain ⟨pa, us, rfl, s1, d1⟩ := Dp.tuple_inv r2
    obtain ⟨pb, us2, rfl, s2, d2⟩ := Dp.tuple_inv r3
    exact ⟨pa, pb, us, us2, rfl, .inr ⟨SqT.same k1.same s1, SqT.same k1.same s2, q _ H1 S1 l1 em1 k1 (wk_zipT s1 s2 d1 d2)⟩⟩
theorem pi_enumN {elts : List Expr} {kk : Nat} {tpos : Pos} (hg : Gl X "enumerate") (hm : X.mg "enumerate" = none) (hs : notStar a = true) (ha : PE X a (tV X.K fa)) :
    PI X (.Tuple elts kk tpos) (.Call (.Name "enumerate" p) [a] [] pos) (tI X.K fun env M => (fa env M).bind fun r => (enumOf r.1).map fun s => (s, r.2)) := by
  refine PI.imp (pi_enum hg hm (pa_consN ha hs pa_nilN) (star_cons hs)) fun σ H R ⟨S, env, s, M', k, ev, e, q⟩ => ?_
  obtain ⟨⟨w, M1⟩, e1, e2⟩ := Option.bind_eq_some_iff.mp e
  obtain ⟨s', e3, e4⟩ := Option.map_eq_some_iff.mp e2
  obtain ⟨rfl, rfl⟩ : s' = s ∧ M1 = M' := by simpa using e4
  refine ⟨S, env, [w], M1, k, ev, by show ((fa env S.M).bind fun r => (some ([], r.2)).map fun q => (r.1 :: q.1, q.2)) = _; rw [e1]; rfl, fun vs H1 S1 l1 em1 k1 r1 => ?_⟩
  obtain ⟨v, rfl, r2⟩ := RVs.one r1
  rcases w with (_ | _ | _ | _ | xs | _ | _) | _ <;> first | (cases e3; done) | skip
  have e7 : Src.fix (pairD (rngD 0 xs.length) xs) = s' := Option.some.inj e3
  subst e7
  obtain ⟨pa, us, rfl, s1, d1⟩ := Dp.list_inv r2
  exact ⟨pa, us, rfl, Same.seq k1.same s1, q _ H1 S1 l1 em1 k1 (wk_enum s1 d1)⟩
end
end NW

set_option Elab.async false
set_option linter.all false
set_option maxRecDepth 100000
set_option maxHeartbeats 4000000
/-! Comprehensions; the promise of a def, its call; isinstance. -/
namespace NW
open PySem PySem.Spec PyProof.Rows L2

theorem wipe_some_ne {σ : L2.St} {i : Nat} : ∀ {vs : List Nat}, i ∈ vs → i < σ.length → (L2.wipe σ vs)[i]? = some none
  | [], h, _ => by simp at h
  | v :: vs, h, hl => by
    show ((L2.wipe σ vs).set v none)[i]? = some none
    by_cases hv : v = i
    · subst hv
      rw [List.getElem?_set_self (by rw [wipe_length]; exact hl)]
    · rw [List.getElem?_set_ne hv]
      rcases List.mem_cons.mp h with e | e
      · exact absurd e.symm hv
      · exact wipe_some_ne e hl
theorem wipe_out2 {σ : L2.St} {i : Nat} : ∀ {vs : List Nat}, i ∉ vs → (L2.wipe σ vs)[i]? = σ[i]?
  | [], _ => rfl
  | v :: vs, h => by
    have h1 : v ≠ i := fun e => h (by rw [e]; exact List.mem_cons_self)
    show ((L2.wipe σ vs).set v none)[i]? = σ[i]?
    rw [List.getElem?_set_ne h1]
    exact wipe_out2 fun e => h (List.mem_cons_of_mem _ e)
theorem wipe_wipe (σ : L2.St) (vs : List Nat) : L2.wipe (L2.wipe σ vs) vs = L2.wipe σ vs := by
  refine List.ext_getElem? fun i => ?_
  by_cases hi : i ∈ vs
  · by_cases hl : i < σ.length
    · rw [wipe_some_ne hi (by rw [wipe_length]; exact hl), wipe_some_ne hi hl]
    · rw [List.getElem?_eq_none (by rw [wipe_length, wipe_length]; omega), List.getElem?_eq_none (by rw [wipe_length]; omega)]
  · rw [wipe_out2 hi]

/-! ### comprehensions -/
section
variable {K : PySem.W.Frag} {fi : En → Mem → Option (Src × Mem)} {fc : En → Mem → Option (Bool × Mem)} {fe : En → Mem → Option (Vl × Mem)} {t : T}
def stepC (t : T) (fc : En → Mem → Option (Bool × Mem)) (fe : En → Mem → Option (Vl × Mem)) (envw : En) (x : D) (M : Mem) : Option (Option D × Mem) :=
  (evT t (.d x) envw).bind fun env1 => (fc env1 M).bind fun q => if q.1 = true then (dataV (fe env1 q.2)).map fun p => (some p.1, p.2) else some (none, q.2)
theorem dataV_inv {r : Option (Vl × Mem)} {x : D} {M : Mem} (h : dataV r = some (x, M)) : r = some (.d x, M) := by
  unfold dataV at h
  obtain ⟨⟨w, M1⟩, e1, e2⟩ := Option.bind_eq_some_iff.mp h
  cases w with
  | d y =>
    obtain ⟨rfl, rfl⟩ : y = x ∧ M1 = M := by simpa using e2
    exact e1
  | m i => cases e2
/-- one turn -/
theorem lc_turn {vs : List Nat} {σ : L2.St} {env : En} {S1 : W3} {Da : Addr} {n : Nat} (hn : n < S1.M.length) (hD : S1.ad n = Da) (ev : EnvOk K S1 σ env) (hv : ∀ i ∈ tvT t, i ∈ vs)
    {d : D} {x : V} {H' : Hp} {S3 : W3} {M3 : Mem} (l3 : Le S1 S3) (k3 : Ok K S3 H') (px : Dp K S3.B x d) (e : compT n (stepC t fc fe (wipeE env vs)) d S3.M = some M3) :
    tG K t x (L2.wipe σ vs) H' fun σ2 H2 => L2.wipe σ2 vs = L2.wipe σ vs ∧ tT K fc σ2 H2 fun b H3 =>
      if b = true then tV K fe σ2 H3 fun y H4 => ∃ acc, H4 Da = some (.lst acc) ∧ acc.length < sizeLine ∧ ∃ S5 : W3, Le S1 S5 ∧ Ok K S5 (upd H4 Da (.lst (acc ++ [y]))) ∧ S5.M = M3 else ∃ S5 : W3, Le S1 S5 ∧ Ok K S5 H3 ∧ S5.M = M3 := by
  unfold compT stepC at e
  obtain ⟨⟨oy, M1⟩, e1, e2⟩ := Option.bind_eq_some_iff.mp e
  obtain ⟨env1, e3, e4⟩ := Option.bind_eq_some_iff.mp e1
  obtain ⟨⟨b, M2⟩, e5, e6⟩ := Option.bind_eq_some_iff.mp e4
  refine ⟨S3, wipeE env vs, env1, .d d, k3, (ev.le l3).wipe vs, px, e3, fun σ2 ev2 hw => ⟨by rw [hw vs hv, wipe_wipe], ?_⟩⟩
  refine ⟨S3, env1, b, M2, k3, ev2, e5, fun H3 S4 l4 em4 k4 => ?_⟩
  cases b with
  | false =>
    rw [if_neg Bool.false_ne_true]
    rw [if_neg Bool.false_ne_true] at e6
    obtain ⟨rfl, rfl⟩ : none = oy ∧ M2 = M1 := by simpa using e6
    have e7 : M2 = M3 := Option.some.inj e2
    exact ⟨S4, l3.trans l4, k4, em4.trans e7⟩
  | true =>
    rw [if_pos rfl]
    rw [if_pos rfl] at e6
    obtain ⟨⟨y, M5⟩, e7, e8⟩ := Option.map_eq_some_iff.mp e6
    obtain ⟨rfl, rfl⟩ : some y = oy ∧ M5 = M1 := by simpa using e8
    have e9 := dataV_inv e7
    refine ⟨S4, env1, .d y, M5, k4, ev2.le l4, by rw [em4]; exact e9, fun v H4 S5 l5 em5 k5 r5 => ?_⟩
    have e10 : addTo n y M5 = some M3 := e2
    unfold addTo at e10
    split at e10
    · rename_i acc q
      split at e10
      · rename_i hlt
        have e11 : M5.set n (.lst (acc ++ [y])) = M3 := Option.some.inj e10
        have lt : Le S1 S5 := (l3.trans l4).trans l5
        have had : S5.ad n = Da := (lt.ad n hn).trans hD
        have q' : S5.M[n]? = some (.lst acc) := by rw [em5]; exact q
        obtain ⟨av, h1, h2, h3⟩ := k5.lst q'
        rw [had] at h1
        refine ⟨av, h1, by rw [h2.length]; exact big_lt hlt, ⟨S5.B, S5.ad, S5.M.set n (.lst (acc ++ [y]))⟩, lt.trans leSet, ?_, by rw [← e11, em5]⟩
        have kw := k5.write (c' := .lst (acc ++ [y])) (o := .lst (av ++ [v])) q' rfl h3 ⟨h3, av ++ [v], upd_same, h2.append (.cons r5 .nil)⟩
        rw [had] at kw
        exact kw
      · cases e10
    · cases e10
theorem lc_rd {mu : Bool} {own : List Nat} {σ : L2.St} {H : Hp} {Q : VK} (hv : ∀ i ∈ tvT t, i ∈ own)
    (h : tV K (fun env M => (fi env M).bind fun r => (compS r.2.length (stepC t fc fe (wipeE env own)) r.1 (r.2 ++ [.lst []])).bind fun M1 => compEnd mu r.2.length M1) σ H Q) :
    tLc (tI K fi) (tG K t) (tT K fc) (tV K fe) own σ H Q := by
  obtain ⟨S, env, w, M', k, ev, e, p⟩ := h
  obtain ⟨⟨src, M1⟩, e1, e2⟩ := Option.bind_eq_some_iff.mp e
  obtain ⟨Me, e3, e4⟩ := Option.bind_eq_some_iff.mp e2
  refine ⟨S, env, src, M1, k, ev, e1, fun J H1 S1 l1 em1 k1 wk Da hD => ?_⟩
  obtain ⟨kc, lc⟩ := k1.newCell (vs := []) (xs := []) hD .nil
  generalize hS2 : (⟨S1.B, fun i => if i = S1.M.length then Da else S1.ad i, S1.M ++ [.lst []]⟩ : W3) = S2 at kc lc
  have hM2 : S2.M = S1.M ++ [.lst []] := by rw [← hS2]
  have hn : M1.length < S2.M.length := by rw [hM2, ← em1, List.length_append]; exact Nat.lt_succ_self _
  have had : S2.ad M1.length = Da := by
    rw [← hS2, ← em1]
    show (if S1.M.length = S1.M.length then Da else S1.ad S1.M.length) = Da
    rw [if_pos rfl]
  have ev2 : EnvOk K S2 σ env := ev.le (l1.trans lc)
  -- the end
  have fin : ∀ (H : Hp) (S5 : W3), Le S2 S5 → Ok K S5 H → S5.M = Me → Q (.ref Da) H := fun H S5 l5 k5 em5 => by
    unfold compEnd at e4
    split at e4
    · rename_i ys q
      split at e4
      · obtain ⟨rfl, rfl⟩ : Vl.m M1.length = w ∧ Me.take (M1.length + 1) = M' := by simpa using e4
        have lall : Le S1 S5 := lc.trans l5
        have ln : M1.length < S5.M.length := Nat.lt_of_lt_of_le hn l5.len
        refine p (.ref Da) H ⟨S5.B, S5.ad, S5.M.take (M1.length + 1)⟩ (l1.trans ⟨lall.same, ?_, lall.ad⟩) (by rw [← em5]) (k5.take _) ⟨?_, ?_⟩
        · show _ ≤ (S5.M.take (M1.length + 1)).length
          rw [List.length_take, em1]
          omega
        · show _ < (S5.M.take (M1.length + 1)).length
          rw [List.length_take]
          omega
        · show V.ref Da = .ref (S5.ad M1.length)
          rw [l5.ad _ hn, had]
      · obtain ⟨rfl, rfl⟩ : Vl.d (.list ys) = w ∧ Me.take M1.length = M' := by simpa using e4
        obtain ⟨S6, hm6, l6, k6, d6⟩ := k5.freeze (i := M1.length) (xs := ys) (by rw [em5]; exact q)
        rw [(l5.ad _ hn).trans had] at d6
        have lall : Le S1 S6 := (lc.trans l5).trans l6
        refine p (.ref Da) H ⟨S6.B, S6.ad, S6.M.take S1.M.length⟩ (l1.trans lall.take) ?_ (k6.take _) d6
        show S6.M.take S1.M.length = Me.take M1.length
        rw [hm6, em1, em5, List.take_set_of_le (Nat.le_refl _)]
    · cases e4
  cases src with
  | fix xs =>
    have e5 : compL M1.length (stepC t fc fe (wipeE env own)) xs (M1 ++ [.lst []]) = some Me := e3
    refine ⟨fun i m H => m = xs.length - i ∧ i ≤ xs.length ∧ ∃ S5 : W3, Le S2 S5 ∧ Ok K S5 H ∧ compL M1.length (stepC t fc fe (wipeE env own)) (xs.drop i) S5.M = some Me,
      ⟨xs.length, rfl, Nat.zero_le _, S2, Le.refl _, kc, by rw [hM2, em1]; exact e5⟩, ?_⟩
    rintro i m H ⟨rfl, hi, S5, l5, k5, e6⟩
    by_cases hlt : i < xs.length
    · rw [List.drop_eq_getElem_cons hlt] at e6
      obtain ⟨M3, e7, e8⟩ := Option.bind_eq_some_iff.mp (show (compT M1.length (stepC t fc fe (wipeE env own)) xs[i] S5.M).bind (fun M1' => compL M1.length (stepC t fc fe (wipeE env own)) (xs.drop (i + 1)) M1') = some Me from e6)
      refine .inr ⟨wk.go i H S5 hlt (lc.trans l5) k5, fun H' => ∃ S6 : W3, Le S2 S6 ∧ Ok K S6 H' ∧ S6.M = M3, fun H' ⟨S6, l6, k6, em6⟩ => ⟨xs.length - (i + 1), by omega, rfl, hlt, S6, l6, k6, by rw [em6]; exact e8⟩, fun x H' y => ?_⟩
      obtain ⟨S3, l3, em3, k3, px⟩ := wk.yld i H x H' S5 xs[i] (List.getElem?_eq_getElem hlt) (lc.trans l5) k5 y
      exact lc_turn hn had ev2 hv (l5.trans l3) k3 px (by rw [em3]; exact e7)
    · have ei : i = xs.length := by omega
      subst ei
      rw [List.drop_length] at e6
      exact .inl ⟨wk.stop H S5 (lc.trans l5) k5, fin H S5 l5 k5 (Option.some.inj e6)⟩
  | dyn c =>
    have e5 : compD M1.length (stepC t fc fe (wipeE env own)) c 1000000 0 (M1 ++ [.lst []]) = some Me := e3
    refine ⟨fun i m H => ∃ S5 : W3, Le S2 S5 ∧ Ok K S5 H ∧ compD M1.length (stepC t fc fe (wipeE env own)) c m i S5.M = some Me,
      ⟨1000000, S2, Le.refl _, kc, by rw [hM2, em1]; exact e5⟩, ?_⟩
    rintro i m H ⟨S5, l5, k5, e6⟩
    cases m with
    | zero => cases e6
    | succ m =>
      have e7 : (match S5.M[c]? with
        | some (.lst xs) => (match xs[i]? with
          | none => some S5.M
          | some x => (compT M1.length (stepC t fc fe (wipeE env own)) x S5.M).bind fun M1' => compD M1.length (stepC t fc fe (wipeE env own)) c m (i + 1) M1')
        | _ => none) = some Me := e6
      split at e7
      · rename_i xs q
        split at e7
        · rename_i q2
          exact .inl ⟨wk.stop i H S5 xs (lc.trans l5) k5 q q2, fin H S5 l5 k5 (Option.some.inj e7)⟩
        · rename_i x0 q2
          obtain ⟨M3, e8, e9⟩ := Option.bind_eq_some_iff.mp e7
          refine .inr ⟨wk.go i H S5 xs x0 (lc.trans l5) k5 q q2, fun H' => ∃ S6 : W3, Le S2 S6 ∧ Ok K S6 H' ∧ S6.M = M3, fun H' ⟨S6, l6, k6, em6⟩ => ⟨m, Nat.lt_succ_self _, S6, l6, k6, by rw [em6]; exact e9⟩, fun x H' y => ?_⟩
          obtain ⟨rfl, px⟩ := wk.yld i H x H' S5 xs x0 (lc.trans l5) k5 q q2 y
          exact lc_turn hn had ev2 hv l5 k5 px e8
      · cases e7
end

/-! ### a def's promise -/
def PostF (K : PySem.W.Frag) (mg : Str → Option Value) (S : W3) (M' : Mem) (o : Out) (Q : VK) (E : XK) : Prop := ∀ (H' : Hp) (S' : W3), Le S S' → S'.M = M' → Ok K S' H' → match o with
  | .ret w => ∀ v, RV K S' v w → Q v H'
  | .exc x => ∀ C : Addr, mg (Str.ofString x) = some (.ref C) → E (.ref C) none H'
def spF (K : PySem.W.Frag) (mg : Str → Option Value) (F : Fn) : Sp := fun vs H Q E => vs.length = F.ar ∧ ∃ (S : W3) (ws : List Vl) (o : Out) (M' : Mem), Ok K S H ∧ RVs K S vs ws ∧ F.run ws S.M = some (o, M') ∧ PostF K mg S M' o Q E
/-- a def of the text at the name x that does what F says -/
def HasFn (P : Program) (w : World) (K : PySem.W.Frag) (mg : Str → Option Value) (base : Heap) (lvl : Nat) (x : String) (F : Fn) : Prop :=
  ∃ (f : Addr) (fd : FuncData) (ps : List Str), mg (Str.ofString x) = some (.ref f) ∧ PySem.W.keepIn K (.ref f) = true ∧ Binds K fd ps [] ∧ FnOk P w K mg base (L2.CX P w) lvl f fd ps (spF K mg F)
theorem HasFn.mono {P : Program} {w : World} {K : PySem.W.Frag} {mg : Str → Option Value} {base : Heap} {l l' : Nat} {x : String} {F : Fn} (h : HasFn P w K mg base l x F) (hl : l ≤ l') : HasFn P w K mg base l' x F := by
  obtain ⟨f, fd, ps, h1, h2, h3, h4⟩ := h
  exact ⟨f, fd, ps, h1, h2, h3, h4.mono hl⟩
section
variable {X : Cx} {e : Expr} {es : List Expr} {fs : En → Mem → Option (List Vl × Mem)} {p pos : Pos} {lvl : Nat} {x : String} {F : Fn} {cs : List Fn} {k : Nat}
theorem pe_callN (hf : HasFn X.prog X.w X.K X.mg X.base lvl x F) (hr : Room lvl X.A) (hg : Gl X (Str.ofString x)) (hk : cs[k]? = some F) (hs : (e :: es).all notStar = true) (h : PA X (e :: es) (tA X.K fs)) (hdb : (Str.ofString x == ("__debug__" : Str)) = false) :
    PE X (.Call (.Name (Str.ofString x) p) (e :: es) [] pos) (tV X.K fun env M => (fs env M).bind fun r => callF cs k r.1 r.2) := by
  obtain ⟨f, fd, ps, h1, h2, h3, h4⟩ := hf
  rw [List.all_cons] at hs
  obtain ⟨hs1, hs2⟩ := Bool.and_eq_true_iff.mp hs
  refine PE.imp (pe_call h4 hr hg h1 h2 h3 .nil passL h hdb (star_cons hs1) (star_plain hs2)) fun σ H Q ⟨S, env, w, M', kk, ev, ee, q⟩ => ?_
  obtain ⟨⟨ws, M1⟩, e1, e2⟩ := Option.bind_eq_some_iff.mp ee
  refine ⟨S, env, ws, M1, kk, ev, e1, fun vs H1 S1 l1 em1 k1 r1 => ?_⟩
  show spF X.K X.mg F (vs ++ []) H1 Q E0
  rw [List.append_nil]
  unfold callF at e2
  rw [hk] at e2
  simp only at e2
  split at e2
  · rename_i hlen
    split at e2
    · rename_i v M2 q2
      obtain ⟨rfl, rfl⟩ : v = w ∧ M2 = M' := by simpa using e2
      exact ⟨by rw [Paired.length r1]; exact hlen, S1, ws, .ret v, M2, k1, r1, by rw [em1]; exact q2, fun H' S' l' em' k' v' r' => q v' H' S' (l1.trans l') em' k' r'⟩
    · cases e2
  · cases e2

/-! ### built-ins by their names -/
theorem pe_biN {b : Bi} (hc : X.calm = true) (hu : X.A.units + 64 < cLine) (hg : Gl X (Str.ofString (biN b))) (hm : X.mg (Str.ofString (biN b)) = none) (hs : (e :: es).all notStar = true) (h : PA X (e :: es) (tA X.K fs)) :
    PE X (.Call (.Name (Str.ofString (biN b)) p) (e :: es) [] pos) (tV X.K fun env M => (fs env M).bind fun r => evBi b r.1 r.2) := by
  rw [List.all_cons] at hs
  obtain ⟨hs1, hs2⟩ := Bool.and_eq_true_iff.mp hs
  have red : ∀ σ H Q, tV X.K (fun env M => (fs env M).bind fun r => evBi b r.1 r.2) σ H Q → tCB (rBi X.K b) (tA X.K fs) σ H Q := fun σ H Q ⟨S, env, w, M', kk, ev, ee, q⟩ => by
    obtain ⟨⟨ws, M1⟩, e1, e2⟩ := Option.bind_eq_some_iff.mp ee
    exact ⟨S, env, ws, M1, kk, ev, e1, fun vs H1 S1 l1 em1 k1 r1 => ⟨S1, ws, w, M', k1, r1, by rw [em1]; exact e2, q.le l1⟩⟩
  cases b with
  | len => exact PE.imp (pe_callB (cr_bi (b := .len) hc hu) hg hm (by decide +kernel) h (by decide) (by decide) (star_cons hs1) (star_plain hs2)) red
  | abs => exact PE.imp (pe_callB (cr_bi (b := .abs) hc hu) hg hm (by decide +kernel) h (by decide) (by decide) (star_cons hs1) (star_plain hs2)) red
  | all => exact PE.imp (pe_callB (cr_bi (b := .all) hc hu) hg hm (by decide +kernel) h (by decide) (by decide) (star_cons hs1) (star_plain hs2)) red
  | any => exact PE.imp (pe_callB (cr_bi (b := .any) hc hu) hg hm (by decide +kernel) h (by decide) (by decide) (star_cons hs1) (star_plain hs2)) red
  | tuple => exact PE.imp (pe_callTy (cr_bi (b := .tuple) hc hu) hg hm (by decide +kernel) h (by decide) (by decide) (star_cons hs1) (star_plain hs2)) red
  | list => exact PE.imp (pe_callTy (cr_bi (b := .list) hc hu) hg hm (by decide +kernel) h (by decide) (by decide) (star_cons hs1) (star_plain hs2)) red
  | max => exact PE.imp (pe_callB (cr_bi (b := .max) hc hu) hg hm (by decide +kernel) h (by decide) (by decide) (star_cons hs1) (star_plain hs2)) red
  | min => exact PE.imp (pe_callB (cr_bi (b := .min) hc hu) hg hm (by decide +kernel) h (by decide) (by decide) (star_cons hs1) (star_plain hs2)) red
  | sum => exact PE.imp (pe_callB (cr_bi (b := .sum) hc hu) hg hm (by decide +kernel) h (by decide) (by decide) (star_cons hs1) (star_plain hs2)) red
  | sorted => exact PE.imp (pe_callB (cr_bi (b := .sorted) hc hu) hg hm (by decide +kernel) h (by decide) (by decide) (star_cons hs1) (star_plain hs2)) red
  | dict => exact PE.imp (pe_callTy (cr_bi (b := .dict) hc hu) hg hm (by decide +kernel) h (by decide) (by decide) (star_cons hs1) (star_plain hs2)) red
  | tupC => exact PE.imp (pe_callTy (cr_bi (b := .tupC) hc hu) hg hm (by decide +kernel) h (by decide) (by decide) (star_cons hs1) (star_plain hs2)) red
/-- list(e), to be changed -/
theorem pe_newLN {fa : En → Mem → Option (Vl × Mem)} (hg : Gl X "list") (hm : X.mg "list" = none) (hs : notStar e = true) (h : PE X e (tV X.K fa)) :
    PE X (.Call (.Name "list" p) [e] [] pos) (tV X.K fun env M => (fa env M).bind fun r => (seqOf r.2 r.1).map fun xs => (.m r.2.length, r.2 ++ [.lst xs])) := by
  refine PE.imp (pe_callTy call_list_of hg hm (by decide +kernel) (pa_consN h hs pa_nilN) (by decide) (by decide) (star_cons hs) rfl) fun σ H Q ⟨S, env, w, M', kk, ev, ee, q⟩ => ?_
  obtain ⟨⟨a, M1⟩, e1, e2⟩ := Option.bind_eq_some_iff.mp ee
  obtain ⟨xs, e3, e4⟩ := Option.map_eq_some_iff.mp e2
  obtain ⟨rfl, rfl⟩ : Vl.m M1.length = w ∧ M1 ++ [Cl.lst xs] = M' := by simpa using e4
  refine ⟨S, env, [a], M1, kk, ev, by show ((fa env S.M).bind fun r => (some ([], r.2)).map fun q => (r.1 :: q.1, q.2)) = _; rw [e1]; rfl, fun vs H1 S1 l1 em1 k1 r1 => ?_⟩
  obtain ⟨v, rfl, r2⟩ := RVs.one r1
  obtain ⟨pa, us, rfl, d1, s1⟩ := k1.seq r2 (by rw [em1]; exact e3)
  exact ⟨pa, us, rfl, s1, (em1 ▸ q.le l1 : Post X.K S1 (S1.M ++ [.lst xs]) (.m S1.M.length) Q).newM k1 d1⟩

/-! ### isinstance of plain data -/
def tyOk (ty : String) : Bool := ty == "int" || (ty == "bool" || (ty == "str" || (ty == "tuple" || ty == "list")))
theorem kit_isTy {x : D} {ty : String} (h : tyOk ty = true) (hx : ∀ kvs, x ≠ .dict kvs) : kitB (tyName x) ty = some (isTy x ty) := by
  have h2 : ty = "int" ∨ ty = "bool" ∨ ty = "str" ∨ ty = "tuple" ∨ ty = "list" := by simpa [tyOk] using h
  rcases h2 with rfl | rfl | rfl | rfl | rfl <;> cases x <;> first | (exact absurd rfl (hx _)) | (simp only [tyName, isTy]; decide +kernel)
theorem isi_data {pins : List (Addr × Obj)} {σ : L2.St} {H : Hp} {s : Shared} {v : V} {u : Value} {x : D} {ty : String} {A : Around} {E : Value → Shared → Prop} {Q : Value → Shared → Prop} (I : L2.Inv X pins σ H s) (r : RelV v u) (d : Dp X.K H v x) (ht : tyOk ty = true)
    (h : ∀ tk, Q (.bool (isTy x ty)) { s with toks := tk }) : wpAny (model X.prog X.w) A (call (.builtin "isinstance") [u, .type ty]) Q E s := by
  have kt := fun hx => kit_ty (K := X.K) (kit_isTy (x := x) ht hx)
  cases x with
  | none => cases d; cases (show u = Value.none from r); exact PySem.W.kia_one PySem.W.kitx_none I.kIn True.intro (kt (fun _ z => nomatch z)) (fun z => nomatch z) h
  | bool b => cases d; cases (show u = Value.bool b from r); exact PySem.W.kia_one PySem.W.kitx_bool I.kIn True.intro (kt (fun _ z => nomatch z)) (fun z => nomatch z) h
  | int i => cases d; obtain ⟨t, q⟩ := (show ∃ t, u = Value.int i t from r); cases q; exact PySem.W.kia_one PySem.W.kitx_int I.kIn True.intro (kt (fun _ z => nomatch z)) (fun z => nomatch z) h
  | str y => cases d; obtain ⟨t, q⟩ := (show ∃ t, u = Value.str y t from r); cases q; exact PySem.W.kia_one PySem.W.kitx_str I.kIn True.intro (kt (fun _ z => nomatch z)) (fun z => nomatch z) h
  | list xs =>
    obtain ⟨a, vs, rfl, hs, _⟩ := Dp.list_inv d
    cases (show u = Value.ref a from r)
    obtain ⟨its, _, ⟨o, n, h1, h2, _, _⟩, _⟩ := I.list hs
    exact PySem.W.kia_one PySem.W.kitx_list I.kIn ⟨o, h1, h2⟩ (kt (fun _ z => nomatch z)) (fun z => nomatch z) h
  | tuple xs =>
    obtain ⟨a, vs, rfl, hs, _⟩ := Dp.tuple_inv d
    cases (show u = Value.ref a from r)
    obtain ⟨its, _, ⟨o, h1, h2, _⟩, _⟩ := I.tuple hs
    exact PySem.W.kia_one PySem.W.kitx_tuple I.kIn ⟨o, h1, h2⟩ (kt (fun _ z => nomatch z)) (fun z => nomatch z) h
  | dict kvs => cases d
def rIsiD (K : PySem.W.Frag) (ty : String) : List V → Hp → VK → Prop := fun vs H Q => ∃ (v : V) (x : D), vs = [v, .ty ty] ∧ Dp K H v x ∧ Q (.bl (isTy x ty)) H
theorem cr_isiD {ty : String} (ht : tyOk ty = true) : CallR X (.builtin "isinstance") (rIsiD X.K ty) := by
  intro pins s σ H vs us Q I r h
  obtain ⟨v, x, rfl, d, q⟩ := h
  obtain ⟨u1, u2, rfl, r1, r2⟩ := vals2 r
  cases (show u2 = Value.type ty from r2)
  exact isi_data I r1 d ht fun tk => ⟨.bl _, H, I.tok tk, rfl, q⟩
theorem pe_isiN {fa : En → Mem → Option (Vl × Mem)} {ty : String} {p2 : Pos} (ht : tyOk ty = true) (hg : Gl X "isinstance") (hm : X.mg "isinstance" = none) (hg2 : Gl X (Str.ofString ty)) (hm2 : X.mg (Str.ofString ty) = none) (hs : notStar e = true) (h : PE X e (tV X.K fa)) :
    PE X (.Call (.Name "isinstance" p) [e, .Name (Str.ofString ty) p2] [] pos) (tV X.K fun env M => (dataV (fa env M)).map fun r => (.d (.bool (isTy r.1 ty)), r.2)) := by
  have h2 : ty = "int" ∨ ty = "bool" ∨ ty = "str" ∨ ty = "tuple" ∨ ty = "list" := by simpa [tyOk] using ht
  have pt : PE X (.Name (Str.ofString ty) p2) (tC (.ty ty)) := by
    rcases h2 with rfl | rfl | rfl | rfl | rfl <;> exact pe_bltn hg2 hm2 (by decide +kernel) rfl (by decide) (by decide)
  refine PE.imp (pe_callB (cr_isiD ht) hg hm (by decide +kernel) (pa_cons h (pa_cons pt pa_nil (by rfl)) (star_cons hs)) (by decide) (by decide) (star_cons hs) (by rfl)) fun σ H Q ⟨S, env, w, M', kk, ev, ee, q⟩ => ?_
  obtain ⟨⟨x, M1⟩, e1, e2⟩ := Option.map_eq_some_iff.mp ee
  obtain ⟨rfl, rfl⟩ : Vl.d (.bool (isTy x ty)) = w ∧ M1 = M' := by simpa using e2
  refine ⟨S, env, .d x, M1, kk, ev, dataV_inv e1, fun v H1 S1 l1 em1 k1 r1 => ⟨v, x, rfl, Dp.same k1.same _ _ r1, q _ H1 S1 l1 em1 k1 (.bl _)⟩⟩

/-! ### the end of a list's making -/
theorem pe_frzN {fa : En → Mem → Option (Vl × Mem)} (h : PE X e (tV X.K fa)) : PE X e (tV X.K fun env M => (fa env M).bind fun r => evFrz r.1 r.2) := by
  refine PE.imp h fun σ H Q hh => ?_
  have h2 := tV.un (R := Q) (g := fun v M => evFrz v M) hh fun S x H' a w M' k r ee q => by
    unfold evFrz at ee
    split at ee
    · rename_i i
      split at ee
      · rename_i xs q2
        obtain ⟨rfl, rfl⟩ : Vl.d (.list xs) = w ∧ S.M.set i .gone = M' := by simpa using ee
        obtain ⟨S', hm, l, k', d⟩ := k.freeze q2
        obtain ⟨_, rfl⟩ : i < S.M.length ∧ x = .ref (S.ad i) := r
        exact q _ H' S' l hm k' d
      · rename_i xs hc
        obtain ⟨rfl, rfl⟩ : Vl.d (.tuple xs) = w ∧ S.M = M' := by simpa using ee
        obtain ⟨_, rfl⟩ : i < S.M.length ∧ x = .ref (S.ad i) := r
        obtain ⟨vs, ⟨o, g1, _⟩, g2⟩ := k.cell i _ hc
        exact q.here k (.tup (.inl (.inr ⟨o, g1⟩)) g2)
      · rename_i xs y hc
        obtain ⟨rfl, rfl⟩ : Vl.d (.tuple [.tuple xs, y]) = w ∧ S.M = M' := by simpa using ee
        obtain ⟨_, rfl⟩ : i < S.M.length ∧ x = .ref (S.ad i) := r
        obtain ⟨p, z, vs, g1, ⟨o, g2, _⟩, g3, g4⟩ := k.cell i _ hc
        exact q.here k (.tup g1 (.cons (.tup (.inl (.inr ⟨o, g2⟩)) g3) (.cons g4 .nil)))
      · cases ee
    · rename_i d
      obtain ⟨rfl, rfl⟩ : Vl.d d = w ∧ S.M = M' := by simpa using ee
      exact q.here k r
  exact h2
end
end NW

set_option Elab.async false
set_option linter.all false
set_option maxRecDepth 100000
set_option maxHeartbeats 4000000
/-! sorted(xs, key=f), f a def of the text. -/
namespace NW
open PySem PySem.Spec PyProof.Rows L2

theorem keysF_len {F : Fn} : ∀ {xs ks : List D} {M M1 : Mem}, keysF F xs M = some (ks, M1) → ks.length = xs.length
  | [], ks, M, M1, h => by
    obtain ⟨rfl, rfl⟩ : [] = ks ∧ M = M1 := by simpa [keysF] using h
    rfl
  | x :: xs, ks, M, M1, h => by
    unfold keysF at h
    split at h
    · obtain ⟨⟨k2, M2⟩, h1, h2⟩ := Option.map_eq_some_iff.mp h
      cases h2
      rw [List.length_cons, List.length_cons, keysF_len h1]
    · cases h
theorem in2 {k : Nat} {A : Around} (r : Room (k + 1) A) : Room k A.in1.in1 := ⟨r.hd, by have := r.dp; show A.depth + 3 * k + 5 < _; omega, by have := r.un; show A.units + 1 + 1 + 16 * k + 200 < _; omega⟩
section
variable {X : Cx} {pins : List (Addr × Obj)} {σ : L2.St} {H : Hp} {s : Shared}
/-- what lies there untracked, of our own making, becomes tracked -/
theorem adopt {a : Addr} {o : HO} (I : L2.Inv X pins σ H s) (hf : FpOk X pins H a) (h0 : X.s_0.heap.objs.size ≤ a) (new : ObjOk X.prog X.w (upd H a o) s.heap a o) : L2.Inv X pins σ (upd H a o) s := by
  have hn : H a = none := hf.1
  have hb : ∀ b u, X.s_0.heap.get? b = some u → b ≠ a := fun b u e => Nat.ne_of_lt (Nat.lt_of_lt_of_le (Heap.lt_size e) h0)
  refine ⟨I.ok, I.os, I.bare, ⟨I.base.keep, I.base.slot, fun b u e n hx => by rw [upd_ne (hb b u e)]; exact I.base.free b u e n hx, I.base.there, fun b xs e => ?_, fun b u xs e => ?_, fun b ps e => ?_⟩, I.loc, I.cell, ?_, fun x c e => ?_, fun p z => ?_, fun b u e => ?_, I.len⟩
  · have q := I.base.tups b xs e
    rw [upd_ne (ne_of_none q hn)]
    exact q
  · have q := I.base.frzs b u xs e
    rw [upd_ne (ne_of_none q hn)]
    exact q
  · obtain ⟨m, q⟩ := I.base.tbls b ps e
    exact ⟨m, by rw [upd_ne (ne_of_none q hn)]; exact q⟩
  · rw [upd_ne (Ne.symm hf.2.1)]
    exact I.free
  · rw [upd_ne (hf.2.2.2.2.1 x c e)]
    exact I.freeC x c e
  · obtain ⟨z1, z2, z3⟩ := I.pin p z
    exact ⟨z1, by rw [upd_ne (hf.2.2.2.2.2 p z)]; exact z2, z3⟩
  · by_cases hba : b = a
    · subst hba
      rw [upd_same] at e
      cases e
      exact new
    · rw [upd_ne hba] at e
      exact (I.hok b u e).stay (fun c v _ q => q) (fun c q => by rw [upd_ne (ne_of_none q hn)]; exact q) fun c xs q => by rw [upd_ne (ne_of_none q hn)]; exact q
theorem key_call {lvl : Nat} {f : Addr} {fd : FuncData} {ps : List Str} {F : Fn} (hF : FnOk X.prog X.w X.K X.mg X.base (L2.CX X.prog X.w) lvl f fd ps (spF X.K X.mg F)) (hb : Binds X.K fd ps []) (hr : Room lvl X.A.in1.in1) (har : F.ar = 1)
    (I : L2.Inv X pins σ H s) {S : W3} (k : Ok X.K S H) {v : V} {u : Value} {x kx : D} {M1 : Mem} (r : RelV v u) (d : Dp X.K S.B v x) (e : F.run [.d x] S.M = some (.ret (.d kx), M1)) {E : Value → Shared → Prop} :
    wpAny (model X.prog X.w) X.A.in1.in1 (call (.ref f) [u]) (EP X pins σ fun v' H' => ∃ S', Le S S' ∧ S'.M = M1 ∧ Ok X.K S' H' ∧ Dp X.K S'.B v' kx) E s := by
  have hs : spF X.K X.mg F [v] H (fun v' H' => ∃ S', Le S S' ∧ S'.M = M1 ∧ Ok X.K S' H' ∧ Dp X.K S'.B v' kx) E0 :=
    ⟨by rw [har]; rfl, S, [.d x], .ret (.d kx), M1, k, .cons d .nil, e, fun H' S' l em k' v' r' => ⟨S', l, em, k', r'⟩⟩
  have hl : [u].length = ps.length := hF.len _ _ _ _ hs
  have hbd := hb s [u] I.kIn (by simpa using hl)
  refine wpAny_call (codeAny_mono (hF.run X.A.in1.in1 X.stack s H ⟨[u], []⟩ [u] [v] _ E0 hr I.env0.in1.in1 (by simpa using hbd) (.cons r .nil) hs) fun r s' hq => ?_)
  cases r with
  | error e =>
    obtain ⟨_, _, _, _, _, _, _, _, _, _, _, _, z⟩ := hq
    exact z.elim
  | ok fl =>
    cases fl with
    | ret u => exact I.after hq
    | next => exact False.elim hq
    | brk => exact False.elim hq
    | cont => exact False.elim hq
theorem each_at {α β : Type} {R : α → β → Prop} {us : List α} {xs : List β} (e : PySem.W.EachIs R us xs) {j : Nat} {u : α} {x : β} (h1 : us[j]? = some u) (h2 : xs[j]? = some x) : R u x := by
  refine e.zip (u, x) (List.mem_of_getElem? (i := j) ?_)
  rw [List.getElem?_zip_eq_some]
  exact ⟨h1, h2⟩
/-- one of our pinned objects is written -/
theorem repin {b c : Addr} {ob oc ob' : Obj} {h' : Heap} {t' : Nat} (I : L2.Inv X ((b, ob) :: (c, oc) :: pins) σ H s) (hf : FpOk X pins H b) (hk : ∀ d o, d ≠ b → s.heap.get? d = some o → h'.get? d = some o) (hb : h'.get? b = some ob') (hbc : c ≠ b) (hd : ∀ v, ob'.data ≠ .cell v) :
    L2.Inv X ((b, ob') :: (c, oc) :: pins) σ H { s with heap := h', toks := t' } := by
  have I1 : L2.Inv X pins σ H { s with heap := h', toks := t' } := (ClX.unpin (ClX.unpin I)).turnedL (ch := [b]) (fun d o hd e => hk d o (by simpa using hd) e) fun d hd => by
    have : d = b := by simpa using hd
    rw [this]
    exact hf
  have pb := I.pin (b, ob) (List.mem_append_right _ List.mem_cons_self)
  have pc := I.pin (c, oc) (List.mem_append_right _ (List.mem_cons_of_mem _ List.mem_cons_self))
  refine I1.pins_of fun p hp => ?_
  rcases List.mem_cons.mp hp with rfl | hp
  · exact ⟨hb, pb.2.1, pb.2.2.1, pb.2.2.2.1, hd⟩
  · rcases List.mem_cons.mp hp with rfl | hp
    · exact ⟨hk c oc hbc pc.1, pc.2.1, pc.2.2.1, pc.2.2.2.1, pc.2.2.2.2⟩
    · exact I1.pin p (List.mem_append_right _ hp)
theorem pin_two {a b : Addr} {oa ob : Obj} {h' : Heap} {t' : Nat} (I : L2.Inv X pins σ H s) (hk : ∀ d o, s.heap.get? d = some o → h'.get? d = some o) (ha : s.heap.objs.size ≤ a) (ga' : h'.get? a = some oa) (hb : s.heap.objs.size ≤ b) (gb : h'.get? b = some ob) (ca : ∀ v, oa.data ≠ .cell v) (cb : ∀ v, ob.data ≠ .cell v) :
    L2.Inv X ((b, ob) :: (a, oa) :: pins) σ H { s with heap := h', toks := t' } := by
  have I1 := I.kept (t' := t') hk
  refine I1.pins_of fun p hp => ?_
  rcases List.mem_cons.mp hp with rfl | hp
  · exact ⟨gb, I.hok.fresh hb, Nat.ne_of_gt (Nat.lt_of_lt_of_le I.lt hb), I.nofs hb, cb⟩
  · rcases List.mem_cons.mp hp with rfl | hp
    · exact ⟨ga', I.hok.fresh ha, Nat.ne_of_gt (Nat.lt_of_lt_of_le I.lt ha), I.nofs ha, ca⟩
    · exact I1.pin p (List.mem_append_right _ hp)
def rSortK (X : Cx) (F : Fn) (f : Addr) : List V → List V → Hp → VK → Prop := fun vs zs H Q => ∃ (a : Addr) (us : List V) (xs ks : List D) (S : W3) (M1 : Mem), F.ar = 1 ∧ vs = [V.ref a] ∧ zs = [V.ref f] ∧ Ok X.K S H ∧ SqL X.K H a us ∧ DpAll X.K S.B us xs ∧ keysF F xs S.M = some (ks, M1) ∧ sortOk ks = true ∧
  ∀ (H' : Hp) (S' : W3) (p : Addr) (ys : List V), Le S S' → S'.M = M1 → Ok X.K S' H' → H' p = none → DpAll X.K S'.B ys (sortedBy xs ks) → Q (.ref p) (upd H' p (.lst ys))
theorem keyed_rest {lvl : Nat} {f : Addr} {fd : FuncData} {ps : List Str} {F : Fn} (hF : FnOk X.prog X.w X.K X.mg X.base (L2.CX X.prog X.w) lvl f fd ps (spF X.K X.mg F)) (hb : Binds X.K fd ps []) (hr : Room lvl X.A.in1.in1) (har : F.ar = 1) (hu : X.A.units + 64 < cLine)
    {s0 : Shared} {H0 : Hp} (I0 : L2.Inv X pins σ H0 s0) {a kS : Addr} (ha : s0.heap.objs.size ≤ a) (hkS : s0.heap.objs.size ≤ kS) (hne : kS ≠ a) {e1 : Nat}
    {S : W3} (I : L2.Inv X ((kS, seqObj "list" #[] 0) :: (a, seqObj "list" #[] e1) :: pins) σ H s) (k : Ok X.K S H) {its : List Value} {xs ks : List D} {M1 : Mem}
    (ee : PySem.W.EachIs (fun u x => ∃ v, RelV v u ∧ Dp X.K S.B v x) its xs) (hz : its.length ≤ sizeLine) (hks : keysF F xs S.M = some (ks, M1)) (hok : sortOk ks = true) {Q : VK}
    (q : ∀ (H' : Hp) (S' : W3) (p : Addr) (ys : List V), Le S S' → S'.M = M1 → Ok X.K S' H' → H' p = none → DpAll X.K S'.B ys (sortedBy xs ks) → Q (.ref p) (upd H' p (.lst ys))) {E : Value → Shared → Prop} :
    wpAny (model X.prog X.w) X.A.in1.in1 (ksk_rest a (.ref f) false its.toArray e1 (.ref kS)) (fun r s' => r = .done (.ret .none) ∧ EP X pins σ Q (.ref a) s') E s := by
  obtain ⟨g1, g2, g3⟩ := sortOk_inv hok
  rw [List.map_id] at g2 g3
  have hlx : its.length = xs.length := ee.length
  have hlk := keysF_len hks
  have dep : ∀ b, b ∈ ks → X.A.units + 2 + b.depth < cLine := fun b hb => by
    have := (flat_ok 20 b (g1 b hb)).2
    omega
  unfold ksk_rest
  refine PySem.wpAny_bind (PySem.wpAny_rule ?_)
  rw [List.forIn_toArray]
  refine wpAny_bind (ksk_fold (fun j s' => ∃ (H' : Hp) (S' : W3) (kA : Array Value) (e : Nat), L2.Inv X ((kS, seqObj "list" kA e) :: (a, seqObj "list" #[] e1) :: pins) σ H' s' ∧ Le S S' ∧ Ok X.K S' H' ∧ keysF F (xs.drop j) S'.M = some (ks.drop j, M1) ∧
    PySem.W.EachIs (fun u d => ∃ v, RelV v u ∧ Dp X.K S'.B v d) kA.toList (ks.take j)) its 0 s ⟨H, S, #[], 0, I, Le.refl _, k, hks, .nil⟩ ?step ?done)
  case step =>
    rintro j x s' hx ⟨H', S', kA, e, I1, l1, k1, hk1, ek⟩
    simp only [Nat.zero_add] at hk1 ek ⊢
    have hj : j < its.length := (List.getElem?_eq_some_iff.mp hx).1
    obtain ⟨d, hd⟩ : ∃ d, xs[j]? = some d := ⟨_, List.getElem?_eq_getElem (by omega)⟩
    obtain ⟨v, rv, dv⟩ := each_at ee hx hd
    have ed : xs.drop j = d :: xs.drop (j + 1) := by
      obtain ⟨h1, rfl⟩ := List.getElem?_eq_some_iff.mp hd
      exact List.drop_eq_getElem_cons h1
    rw [ed] at hk1
    unfold keysF at hk1
    split at hk1
    · rename_i kx M2 hrun
      obtain ⟨⟨kr, M3⟩, hk2, hk3⟩ := Option.map_eq_some_iff.mp hk1
      obtain ⟨hk4, rfl⟩ : kx :: kr = ks.drop j ∧ M3 = M1 := by simpa using hk3
      have hkj : ks[j]? = some kx := by
        have := congrArg List.head? hk4
        rw [List.head?_cons, List.head?_drop] at this
        exact this.symm
      have hkr : kr = ks.drop (j + 1) := by
        have := congrArg (List.drop 1) hk4
        rw [List.drop_drop] at this
        simpa using this
      have dv1 : Dp X.K S'.B v d := (show RV X.K S v (.d d) from dv).le l1
      refine wpAny_bind (wpAny_attempt (wpAny_mono (key_call hF hb hr har I1 k1 rv dv1 hrun (E := fun _ _ => False)) (fun u s2 he => ?_) fun _ _ z => z.elim))
      obtain ⟨v2, H2, I2, r2, S2, l2, em2, k2, d2⟩ := he
      have pk := I2.pin _ (List.mem_append_right _ List.mem_cons_self)
      have pa := I2.pin _ (List.mem_append_right _ (List.mem_cons_of_mem _ List.mem_cons_self))
      have hsz : kA.size ≤ its.length := by
        have h1 := ek.length
        rw [Array.length_toList, List.length_take] at h1
        omega
      have sb := Heap.SameBut.update s2.heap kS (Obj.mapSeq (·.push u))
      obtain ⟨c2, hc2⟩ : ∃ c, (s2.heap.update kS (Obj.mapSeq (·.push u))).get? kS = some (seqObj "list" (kA.push u) c) := ⟨_, get?_update_seq pk.1 (·.push u)⟩
      refine wpAny_bind (listUpdate_at pk.1 rfl ?_ (Nat.le_trans hsz hz) (by rw [Array.size_push]; omega))
      refine wpAny_pure ⟨rfl, H2, S2, kA.push u, c2, repin I2 (I0.fpOk hkS pk.2.1) (fun b o hb e => (sb.2 b hb).trans e) hc2 hne.symm (fun v z => nomatch z), l1.trans l2, k2, by rw [em2, hk2, hkr], ?_⟩
      have et : ks.take (j + 1) = ks.take j ++ [kx] := by rw [List.take_add_one, hkj]; rfl
      rw [Array.toList_push, et]
      exact PySem.W.each_snoc ⟨v2, r2, d2⟩ (ek.mono fun w y ⟨z, z1, z2⟩ => ⟨z, z1, (show RV X.K S' z (.d y) from z2).le l2⟩)
    · cases hk1
  case done =>
    rintro s' ⟨H', S', kA, e, I1, l1, k1, hk1, ek⟩
    rw [Nat.zero_add, List.take_of_length_le (by omega)] at ek
    have pk := I1.pin _ (List.mem_append_right _ List.mem_cons_self)
    have pa := I1.pin _ (List.mem_append_right _ (List.mem_cons_of_mem _ List.mem_cons_self))
    have em1 : S'.M = M1 := by
      rw [Nat.zero_add, List.drop_eq_nil_of_le (by omega)] at hk1
      have h2 : some (([] : List D), S'.M) = some (ks.drop its.length, M1) := hk1
      exact congrArg Prod.snd (Option.some.inj h2)
    have er : PySem.W.EachIs (fun u d => ∃ as, PySem.Reads s'.heap u d as) kA.toList ks := ek.mono fun u d ⟨v, z1, z2⟩ => Dp.reads I1 d v u (Dp.same k1.same d v z2) z1
    have hsz : kA.size = its.length := by
      have h1 := er.length
      rw [Array.length_toList] at h1
      omega
    obtain ⟨h1, G1, G2⟩ := L2.restrict s'.heap fun b => decide (b ≠ kS)
    refine wpAny_bind (listItems_at pk.1 rfl ?_)
    refine PySem.W.keyH_end (κ := PySem.W.dataKind s'.heap ks) (h₁ := h1) (fun b o hb e => ?_) (G2 kS (by simp)) pk.1 pa.1 hne (PySem.W.SortsAt.data (s := s') er g2 g3 fun d hd => by have := dep d hd; show X.A.units + 1 + 1 + d.depth < cLine; omega) hsz hz fun h3 tk c kb n3 => ⟨rfl, ?_⟩
    · by_cases hbk : b = kS
      · subst hbk
        rw [G2 b (by simp)] at e
        cases e
      · rw [G1 b (by simpa using hbk)] at e
        exact e
    · have ko : PySem.W.KeyedOut false ks its (PySem.W.sortVals (PySem.W.dataKind s'.heap ks) false kA.toList its) := ⟨s'.heap, kA.toList, g2, rfl, er⟩
      have em : (xs.zip ks).map (fun p : D × D => p.2) = ks := List.map_snd_zip (by omega)
      have em2 : (xs.zip ks).map (fun p : D × D => p.1) = xs := List.map_fst_zip (by omega)
      have hR : PySem.W.EachIs (fun u (p : D × D) => ∃ v, RelV v u ∧ Dp X.K S'.B v p.1) its (xs.zip ks) := PySem.W.each_of_map (R := fun u x => ∃ v, RelV v u ∧ Dp X.K S'.B v x) (fun p : D × D => p.1) (by
        rw [em2]
        exact ee.mono fun w y ⟨z, z1, z2⟩ => ⟨z, z1, (show RV X.K S z (.d y) from z2).le l1⟩)
      have o := PySem.W.keyedOut_each (R := fun u (p : D × D) => ∃ v, RelV v u ∧ Dp X.K S'.B v p.1) (fun p : D × D => p.2) (by rw [em]; exact ko) hR
      obtain ⟨ys, hv, hdd⟩ := vals_of_each (PySem.W.each_map (R := fun u x => ∃ v, RelV v u ∧ Dp X.K S'.B v x) (fun p : D × D => p.1) o)
      have hlen : (PySem.W.sortVals (PySem.W.dataKind s'.heap ks) false kA.toList its).length = its.length := ko.length (by omega)
      have I4 : L2.Inv X pins σ H' { s' with heap := h3, toks := tk } := (ClX.unpin (ClX.unpin I1)).turnedL (ch := [kS, a]) (fun b o hb e => by
        have hb1 : b ≠ kS ∧ b ≠ a := by simpa using hb
        exact kb b o hb1.2 (by rw [G1 b (by simpa using hb1.1)]; exact e)) fun b hb => by
        rcases List.mem_cons.mp hb with rfl | hb
        · exact I0.fpOk hkS pk.2.1
        · have : b = a := by simpa using hb
          subst this
          exact I0.fpOk ha pa.2.1
      have I5 := adopt (o := .lst ys) I4 (I0.fpOk ha pa.2.1) (Nat.le_trans I0.sz ha) ⟨by rw [hv.length, hlen]; exact hz, _, c, hv, n3⟩
      exact ⟨.ref a, _, I5, rfl, q H' S' a ys l1 em1 k1 pa.2.1 hdd⟩
theorem cr_sortK {lvl : Nat} {f : Addr} {fd : FuncData} {ps : List Str} {F : Fn} (hF : FnOk X.prog X.w X.K X.mg X.base (L2.CX X.prog X.w) lvl f fd ps (spF X.K X.mg F)) (hb : Binds X.K fd ps []) (hr : Room lvl X.A.in1.in1) (hu : X.A.units + 64 < cLine) :
    CallRK X (.builtin "sorted") [Str.ofString "key"] (rSortK X F f) := by
  intro pins s σ H vs zs us ws Q I r rz ⟨a, uv, xs, ks, S, M1, har, ea, eb, k, hs, hd, hk, hok, q⟩
  subst ea eb
  obtain rfl := Vals.ref1 r
  obtain ⟨w1, rfl, e0⟩ := L2.vals1 rz
  obtain rfl : w1 = Value.ref f := e0
  obtain ⟨its, rv, hl, hz⟩ := I.list hs
  have hzl : its.length ≤ sizeLine := by rw [← rv.length]; exact hz
  have ee := (each_of I k.same hd rv).mono fun u x z => z.1
  refine PySem.W.sorted_of_sort hl.isList hzl (ksk_s1 _ _) (fun _ => ksk_l1 _ _) fun E' => ?_
  rw [show [Str.ofString "key"].zip [Value.ref f] = [(Str.ofString "key", Value.ref f)] from rfl, ksk_t1]
  have hc := PySem.W.copyHeap_at s.heap its
  obtain ⟨n1, hn1⟩ : ∃ n, ((PySem.W.copyHeap s.heap its).update (s.heap.objs.size + 1) (Obj.mapSeq fun _ => (#[] : Array Value))).get? (s.heap.objs.size + 1) = some (seqObj "list" #[] n) := ⟨_, get?_update_seq hc fun _ => #[]⟩
  have hsz : s.heap.objs.size + 1 < (PySem.W.copyHeap s.heap its).objs.size := Heap.lt_size hc
  generalize hh : PySem.W.copyHeap s.heap its = h0 at hc hn1 hsz ⊢
  have hold : ∀ b o, s.heap.get? b = some o → h0.get? b = some o := fun b o e => by rw [← hh]; exact PySem.W.copyHeap_old e
  unfold ksk_tree
  refine wpAny_bind (listItems_at hc rfl (wpAny_bind (listUpdate_at hc rfl (wpAny_bind (seqEpoch_at hn1 rfl (wpAny_bind (wpAny_newTuple (wpAny_bind (wpAny_newList (wpAny_holding ?_) (Nat.zero_le _))) (by show its.length ≤ _; exact hzl))))) (by rw [List.size_toArray]; exact hzl) (Nat.zero_le _))))
  have up := Heap.SameBut.update h0 (s.heap.objs.size + 1) (Obj.mapSeq fun _ => (#[] : Array Value))
  have hs1 : (h0.update (s.heap.objs.size + 1) (Obj.mapSeq fun _ => (#[] : Array Value))).objs.size = h0.objs.size := Heap.size_update ..
  generalize h0.update (s.heap.objs.size + 1) (Obj.mapSeq fun _ => (#[] : Array Value)) = g1 at hn1 up hs1 ⊢
  have hs2 : (g1.push { cls := .type "tuple", data := .seq its.toArray.toList.toArray }).objs.size = g1.objs.size + 1 := by rw [Heap.push]; simp
  generalize hg2 : g1.push { cls := .type "tuple", data := .seq its.toArray.toList.toArray } = g2 at hs2 ⊢
  have k1 : ∀ b o, g1.get? b = some o → g2.get? b = some o := fun b o e => by rw [← hg2]; exact Heap.get?_push_of_some _ e
  have k2 : ∀ b o, s.heap.get? b = some o → (g2.push { cls := .type "list", data := .seq ([] : List Value).toArray }).get? b = some o := fun b o e => by
    have hlt := Heap.lt_size e
    exact Heap.get?_push_of_some _ (k1 b o ((up.2 b (Nat.ne_of_lt (Nat.lt_succ_of_lt hlt))).trans (hold b o e)))
  have ha : s.heap.objs.size ≤ s.heap.objs.size + 1 := Nat.le_succ _
  have hks : s.heap.objs.size ≤ g2.objs.size := by omega
  have pa := pin_two I k2 ha (Heap.get?_push_of_some _ (k1 _ _ hn1)) hks (Heap.get?_push_size g2 rfl) (fun v z => nomatch z) (fun v z => nomatch z) (t' := s.toks)
  have hne : s.heap.objs.size + 1 < g2.objs.size := by omega
  exact keyed_rest hF hb hr har hu I ha hks (Nat.ne_of_gt hne) pa k ee hzl hk hok q
theorem pe_sortKN {lvl k : Nat} {x : String} {F : Fn} {cs : List Fn} {a : Expr} {fa : En → Mem → Option (Vl × Mem)} {p p2 p3 pos : Pos} (hf : HasFn X.prog X.w X.K X.mg X.base lvl x F) (hr : Room (lvl + 1) X.A) (hg : Gl X (Str.ofString "sorted")) (hm : X.mg (Str.ofString "sorted") = none) (hgx : Gl X (Str.ofString x)) (hdb : (Str.ofString x == ("__debug__" : Str)) = false) (hk : cs[k]? = some F) (ha : PE X a (tV X.K fa)) (hs : notStar a = true) :
    PE X (.Call (.Name (Str.ofString "sorted") p) [a] [⟨some (Str.ofString "key"), .Name (Str.ofString x) p2, p3⟩] pos) (tV X.K fun env M => (fa env M).bind fun r => evSortK cs k r.1 r.2) := by
  obtain ⟨f, fd, ps, h1, h2, h3, h4⟩ := hf
  refine PE.imp (pe_callBK (cr_sortK h4 h3 (in2 hr) (by have := hr.un; omega)) hg hm (by decide +kernel) (pa_consN ha hs pa_nilN) (pk_cons (pe_glob (v := .ref f) hgx h1 rfl hdb) pk_nil) (by decide) (by decide) (by rw [star_cons hs]; rfl) (by rw [star_cons hs]; rfl)) fun σ H Q ⟨S, env, w, M', kk, ev, ee, q⟩ => ?_
  obtain ⟨⟨b, M1⟩, e1, e2⟩ := Option.bind_eq_some_iff.mp ee
  refine ⟨S, env, [b], M1, kk, ev, by show ((fa env S.M).bind fun r => (some ([], r.2)).map fun q => (r.1 :: q.1, q.2)) = _; rw [e1]; rfl, fun vs H1 S1 l1 em1 k1 r1 => ?_⟩
  obtain ⟨v, rfl, r2⟩ := RVs.one r1
  show rSortK X F f [v] [V.ref f] H1 Q
  have e3 : evSortK cs k b M1 = some (w, M') := e2
  unfold evSortK at e3
  rw [hk] at e3
  split at e3
  · rename_i F' xs eF ex
    cases eF
    split at e3
    · rename_i har
      obtain ⟨⟨ks, M2⟩, e4, e5⟩ := Option.bind_eq_some_iff.mp e3
      dsimp only at e5
      split at e5
      · rename_i hok
        obtain ⟨rfl, rfl⟩ : Vl.d (.list (sortedBy xs ks)) = w ∧ M2 = M' := by simpa using e5
        obtain ⟨pa, us, rfl, s1, d1⟩ := k1.lstV r2 (by rw [em1]; exact ex)
        refine ⟨pa, us, xs, ks, S1, M2, har, rfl, rfl, k1, s1, d1, by rw [em1]; exact e4, hok, fun H' S' a' ys l em k' hn hd => ?_⟩
        have p3 := q.le (l1.trans l)
        rw [← em] at p3
        exact p3.newL k' hd a' hn
      · cases e5
    · cases e3
  · cases e3
end
end NW

set_option Elab.async false
set_option linter.all false
set_option maxRecDepth 100000
set_option maxHeartbeats 4000000
/-! Does the syntax of a def stand for a term of mine? If it does, the term tells what it computes: expressions. -/
namespace NW
open PySem PySem.Spec PyProof.Rows L2

/-- what a def's names are: its slots, the defs that it calls, the constants that it reads -/
structure Ck where
  N : List Str
  cn : List String
  kc : List (String × D)
  xc : List String
def FREE : List String := ["len", "abs", "all", "any", "tuple", "list", "max", "min", "sum", "sorted", "dict", "range", "zip", "enumerate", "isinstance", "int", "bool", "str"]
def fnOfB : Option Scope → Str → Bool
  | none => fun _ => true
  | some s => fun x => s.names.lookup x == some .cell
def glB (sc : Scope) (x : Str) : Bool := decide (sc.names.lookup x = some .globalImplicit) && !(x == ("__debug__" : Str))
def visB (sc : Scope) (x : Str) : Bool := (match sc.names.lookup x with
  | some .local => true
  | some .cell => true
  | some .free => true
  | _ => false) && (!(x == ("__debug__" : Str)) && !(x == ("__classdict__" : Str)))
def locB (sc : Scope) (fb : Option Scope) (x : Str) : Bool := match sc.names.lookup x with
  | some .local => true
  | some .cell => fnOfB fb x
  | _ => false
def sameC : D → D → Bool
  | .int i, .int j => decide (i = j)
  | .str x, .str y => decide (x = y)
  | .tuple [.int a, .int b], .tuple [.int c, .int d] => decide (a = c) && decide (b = d)
  | _, _ => false
theorem sameC_ok {a b : D} (h : sameC a b = true) : a = b := by
  unfold sameC at h
  split at h
  · rw [of_decide_eq_true h]
  · rw [of_decide_eq_true h]
  · obtain ⟨h1, h2⟩ := Bool.and_eq_true_iff.mp h
    rw [of_decide_eq_true h1, of_decide_eq_true h2]
  · cases h
def conB (kc : List (String × D)) (x : String) (v : D) : Bool := kc.any fun p => decide (p.1 = x) && sameC p.2 v
def notSet : Expr → Bool
  | .Set .. => false
  | _ => true
theorem folded_of {e : Expr} {env : Env} (h : notSet e = true) : ∀ x, foldedSetIterable e env x = pure x := by
  intro x
  cases e <;> first | rfl | cases h
/-- may it stand as a test -/
def tstOk : E → Bool
  | .ife _ _ _ => false
  | .frz _ => false
  | .not a => tstOk a
  | .and a b => tstOk a && tstOk b
  | .or a b => tstOk a && tstOk b
  | _ => true
def isTupE : Expr → Bool
  | .Tuple .. => true
  | _ => false
mutual
def chkT (c : Ck) (sc : Scope) (fb : Option Scope) : T → Expr → Bool
  | .name i, ex => (match ex with
    | .Name x _ => decide (c.N[i]? = some x) && locB sc fb x
    | _ => false)
  | .tup ts, ex => (match ex with
    | .Tuple es _ _ => es.all notStar && (decide (es.length = ts.length) && chkTs c sc fb ts es)
    | _ => false)
def chkTs (c : Ck) (sc : Scope) (fb : Option Scope) : List T → List Expr → Bool
  | [], [] => true
  | t :: ts, e :: es => chkT c sc fb t e && chkTs c sc fb ts es
  | _, _ => false
end
def opB (op : BOp) (o : Operator) : Bool := decide (o = opS op)
def cmB (op : COp) (o : CmpOp) : Bool := decide (o = opC op)
def isNoneC : Expr → Bool
  | .Constant .none _ _ => true
  | _ => false
mutual
def chkE (c : Ck) (sc : Scope) (fb : Option Scope) : E → Expr → Bool
  | .var i, ex => (match ex with
    | .Name x _ => decide (c.N[i]? = some x) && visB sc x
    | _ => false)
  | .int i, ex => (match ex with
    | .Constant (.int j) _ _ => decide (i = j)
    | _ => false)
  | .bl b, ex => (match ex with
    | .Constant (.bool d) _ _ => decide (b = d)
    | _ => false)
  | .non, ex => isNoneC ex
  | .str s, ex => (match ex with
    | .Constant (.str z) _ _ => decide (z = Str.ofString s)
    | _ => false)
  | .con x v, ex => (match ex with
    | .Name y _ => decide (y = Str.ofString x) && (glB sc y && conB c.kc x v)
    | _ => false)
  | .bin op a b, ex => (match ex with
    | .BinOp l o r _ => opB op o && (chkE c sc fb a l && chkE c sc fb b r)
    | _ => false)
  | .neg a, ex => (match ex with
    | .UnaryOp .USub x _ => chkE c sc fb a x
    | _ => false)
  | .cmp op a b, ex => (match ex with
    | .Compare l [o] [r] _ => cmB op o && (!behindInMarks o r && (chkE c sc fb a l && chkE c sc fb b r))
    | _ => false)
  | .isN a, ex => (match ex with
    | .Compare l [.Is] [r] _ => isNoneC r && chkE c sc fb a l
    | _ => false)
  | .notN a, ex => (match ex with
    | .Compare l [.IsNot] [r] _ => isNoneC r && chkE c sc fb a l
    | _ => false)
  | .chain o1 o2 a b d, ex => (match ex with
    | .Compare l [p1, p2] [m, r] _ => cmB o1 p1 && (cmB o2 p2 && (!behindInMarks p2 r && (chkE c sc fb a l && (chkE c sc fb b m && chkE c sc fb d r))))
    | _ => false)
  | .not a, ex => (match ex with
    | .UnaryOp .Not x _ => chkE c sc fb a x
    | _ => false)
  | .and a b, ex => (match ex with
    | .BoolOp .And [x, y] _ => chkE c sc fb a x && chkE c sc fb b y
    | .BoolOp .And (x :: y :: z :: r) p => chkE c sc fb a x && chkE c sc fb b (.BoolOp .And (y :: z :: r) p)
    | _ => false)
  | .or a b, ex => (match ex with
    | .BoolOp .Or [x, y] _ => chkE c sc fb a x && chkE c sc fb b y
    | .BoolOp .Or (x :: y :: z :: r) p => chkE c sc fb a x && chkE c sc fb b (.BoolOp .Or (y :: z :: r) p)
    | _ => false)
  | .ife d a b, ex => (match ex with
    | .IfExp t x y _ => tstOk d && (chkE c sc fb d t && (chkE c sc fb a x && chkE c sc fb b y))
    | _ => false)
  | .idx a i, ex => (match ex with
    | .Subscript x y _ => notSlice y && (chkE c sc fb a x && chkE c sc fb i y)
    | _ => false)
  | .slc a lo hi, ex => (match ex with
    | .Subscript x (.Slice l h none _) _ => chkE c sc fb a x && (chkO c sc fb lo l && chkO c sc fb hi h)
    | _ => false)
  | .rev a, ex => (match ex with
    | .Subscript x (.Slice none none (some (.UnaryOp .USub (.Constant (.int 1) _ _) _)) _) _ => chkE c sc fb a x
    | _ => false)
  | .tup es, ex => (match ex with
    | .Tuple xs _ _ => chkEs c sc fb es xs
    | _ => false)
  | .lst es, ex => (match ex with
    | .List xs _ => chkEs c sc fb es xs
    | _ => false)
  | .new es, ex => (match ex with
    | .List xs _ => chkEs c sc fb es xs
    | _ => false)
  | .newL e, ex => (match ex with
    | .Call (.Name x _) [y] [] _ => decide (x = Str.ofString "list") && (glB sc x && (notStar y && chkE c sc fb e y))
    | _ => false)
  | .call k es, ex => (match ex with
    | .Call (.Name x _) (y :: ys) [] _ => (match c.cn[k]? with
      | some s => decide (x = Str.ofString s)
      | none => false) && (glB sc x && ((y :: ys).all notStar && chkEs c sc fb es (y :: ys)))
    | _ => false)
  | .bi b es, ex => (match ex with
    | .Call (.Name x _) (y :: ys) [] _ => decide (x = Str.ofString (biN b)) && (glB sc x && ((y :: ys).all notStar && chkEs c sc fb es (y :: ys)))
    | _ => false)
  | .isI a ty, ex => (match ex with
    | .Call (.Name x _) [y, .Name z _] [] _ => decide (x = Str.ofString "isinstance") && (glB sc x && (tyOk ty && (decide (z = Str.ofString ty) && (glB sc z && (notStar y && chkE c sc fb a y)))))
    | _ => false)
  | .ixOf a b, ex => (match ex with
    | .Call (.Attribute o x q) [v] [] r => decide (x = Str.ofString "index") && ((q.endLine == r.line) && (baseOk o && (notStar v && (chkE c sc fb a o && chkE c sc fb b v))))
    | _ => false)
  | .sortK k a, ex => (match ex with
    | .Call (.Name x _) [y] [⟨some z, .Name g _, _⟩] _ => decide (x = Str.ofString "sorted") && (glB sc x && (decide (z = Str.ofString "key") && ((match c.cn[k]? with
      | some s => decide (g = Str.ofString s)
      | none => false) && (glB sc g && (notStar y && chkE c sc fb a y)))))
    | _ => false)
  | .slcM a lo hi, ex => (match ex with
    | .Subscript x (.Slice l h none _) _ => chkE c sc fb a x && (chkO c sc fb lo l && chkO c sc fb hi h)
    | _ => false)
  | .wdC a b, ex => (match ex with
    | .Tuple [x, y] _ _ => notStar x && (notStar y && (chkE c sc fb a x && chkE c sc fb b y))
    | _ => false)
  | .comp mu own t it d e, ex => (match ex with
    | .ListComp elt [⟨tg, iter, ifs, asy⟩] scope _ => decide (asy = 0) && (blkC c.N sc scope (own.map fun p => (Str.ofString p.1, p.2)) && ((tvT t).all (fun i => (own.map (·.2)).contains i) && (notSet iter && (chkI c sc fb it tg iter &&
        (chkT c (relS scope sc) (some scope) t tg && (chkC c (relS scope sc) (some scope) d ifs && chkE c (relS scope sc) (some scope) e elt))))))
    | _ => false)
  | .frz e, ex => chkE c sc fb e ex
def chkEs (c : Ck) (sc : Scope) (fb : Option Scope) : Es → List Expr → Bool
  | .nil, xs => xs.isEmpty
  | .cons e es, xs => (match xs with
    | x :: r => notStar x && (chkE c sc fb e x && chkEs c sc fb es r)
    | [] => false)
def chkO (c : Ck) (sc : Scope) (fb : Option Scope) : Eo → Option Expr → Bool
  | .no, o => o.isNone
  | .so e, o => (match o with
    | some x => chkE c sc fb e x
    | none => false)
def chkC (c : Ck) (sc : Scope) (fb : Option Scope) : Eo → List Expr → Bool
  | .no, xs => xs.isEmpty
  | .so e, xs => (match xs with
    | [x] => tstOk e && chkE c sc fb e x
    | _ => false)
def chkI (c : Ck) (sc : Scope) (fb : Option Scope) : It → Expr → Expr → Bool
  | .seq e, _, it => chkE c sc fb e it
  | .rng1 e, _, it => (match it with
    | .Call (.Name x _) [y] [] _ => decide (x = Str.ofString "range") && (glB sc x && (notStar y && chkE c sc fb e y))
    | _ => false)
  | .rng2 a b, _, it => (match it with
    | .Call (.Name x _) [y, z] [] _ => decide (x = Str.ofString "range") && (glB sc x && (notStar y && (notStar z && (chkE c sc fb a y && chkE c sc fb b z))))
    | _ => false)
  | .zip a b, tg, it => (match it with
    | .Call (.Name x _) [y, z] [] _ => isTupE tg && (decide (x = Str.ofString "zip") && (glB sc x && (notStar y && (notStar z && (chkE c sc fb a y && chkE c sc fb b z)))))
    | _ => false)
  | .enum a, tg, it => (match it with
    | .Call (.Name x _) [y] [] _ => isTupE tg && (decide (x = Str.ofString "enumerate") && (glB sc x && (notStar y && chkE c sc fb a y)))
    | _ => false)
end

/-! ### what stands around -/
structure Gb (P : Program) (w : World) (K : PySem.W.Frag) (mg : Str → Option Value) (base : Heap) (c : Ck) (cs : List Fn) (lvl : Nat) : Prop where
  free : ∀ x ∈ FREE, mg (Str.ofString x) = none
  con : ∀ x v, (x, v) ∈ c.kc → ∃ (u : Value) (v' : V), mg (Str.ofString x) = some u ∧ RelV v' u ∧ ∀ B, Dp K B v' v
  fn : ∀ (k : Nat) (x : String) (F : Fn), c.cn[k]? = some x → cs[k]? = some F → HasFn P w K mg base lvl x F
  has : c.cn.length = cs.length
  exc : ∀ x ∈ c.xc, ∃ (C : Addr) (bmB : List Value) (B newId initId : String), mg (Str.ofString x) = some (.ref C) ∧ PySem.ExcBaseFacts B newId initId bmB ∧ PySem.W.excIn K C bmB newId = true ∧ PySem.W.keepIn K (.ref C) = true ∧
    PySem.W.subIn K (.ref C) (.type "BaseException") = some true ∧ PySem.W.typeIn K (.ref C) = some (.type "type")
structure Amb (X : Cx) (c : Ck) (cs : List Fn) (lvl : Nat) (sc : Scope) (fb : Option Scope) : Prop where
  N : X.N = c.N
  sc : X.env.scope = sc
  fn : X.fn = fnOfB fb
  nd : c.N.Nodup
  calm : X.calm = true
  room : Room (lvl + 1) X.A
  g : Gb X.prog X.w X.K X.mg X.base c cs lvl
section
variable {X : Cx} {c : Ck} {cs : List Fn} {lvl : Nat} {sc : Scope} {fb : Option Scope}
theorem Amb.gl (A : Amb X c cs lvl sc fb) {x : Str} (h : glB sc x = true) : Gl X x ∧ (x == ("__debug__" : Str)) = false := by
  obtain ⟨h1, h2⟩ := Bool.and_eq_true_iff.mp h
  refine ⟨?_, by simpa using h2⟩
  show X.env.scope.names.lookup x = some .globalImplicit
  rw [A.sc]
  exact of_decide_eq_true h1
theorem Amb.vis (A : Amb X c cs lvl sc fb) {x : Str} (h : visB sc x = true) : Vis X.env.scope x ∧ (x == ("__debug__" : Str)) = false ∧ (x == ("__classdict__" : Str)) = false := by
  obtain ⟨h1, h2⟩ := Bool.and_eq_true_iff.mp h
  obtain ⟨h2, h3⟩ := Bool.and_eq_true_iff.mp h2
  refine ⟨?_, by simpa using h2, by simpa using h3⟩
  unfold Vis
  rw [A.sc]
  split at h1
  · exact .inl (by assumption)
  · exact .inr (.inl (by assumption))
  · exact .inr (.inr (by assumption))
  · cases h1
theorem Amb.loc (A : Amb X c cs lvl sc fb) {x : Str} (h : locB sc fb x = true) : L2.Loc X.env.scope x ∧ (X.fn x = true ∨ X.env.scope.names.lookup x = some .local) := by
  unfold L2.Loc
  rw [A.sc, A.fn]
  unfold locB at h
  split at h
  · rename_i q
    exact ⟨.inl q, .inr q⟩
  · rename_i q
    exact ⟨.inr q, .inl h⟩
  · cases h
theorem Amb.freeB (A : Amb X c cs lvl sc fb) {x : String} (h : x ∈ FREE) : X.mg (Str.ofString x) = none := A.g.free x h
theorem Amb.hu (A : Amb X c cs lvl sc fb) : X.A.units + 65 < cLine := by
  have := A.room.un
  omega
theorem Amb.blk (A : Amb X c cs lvl sc fb) (s : Shared) (H : Hp) (scope : Scope) (C : Addr) (cl : List (Str × Addr)) (fp : List Addr) : Amb (X.blk s H scope (compEnvC scope cl C X.env) fp) c cs lvl (relS scope sc) (some scope) :=
  ⟨A.N, by rw [← A.sc]; rfl, rfl, A.nd, A.calm, A.room, A.g⟩
mutual
theorem sndT : ∀ (t : T) (X : Cx) (sc : Scope) (fb : Option Scope) (ex : Expr), Amb X c cs lvl sc fb → chkT c sc fb t ex = true → PG X ex (tG X.K t)
  | .name i, X, sc, fb, ex, A, h => by
    unfold chkT at h
    split at h
    · obtain ⟨h1, h2⟩ := Bool.and_eq_true_iff.mp h
      obtain ⟨h3, h4⟩ := A.loc h2
      exact pg_nameN (pg_name (by rw [A.N]; exact A.nd) (by rw [A.N]; exact of_decide_eq_true h1) h3 h4)
    · cases h
  | .tup ts, X, sc, fb, ex, A, h => by
    unfold chkT at h
    split at h
    · obtain ⟨h1, h2⟩ := Bool.and_eq_true_iff.mp h
      obtain ⟨h2, h3⟩ := Bool.and_eq_true_iff.mp h2
      exact pg_tupN A.calm h1 (of_decide_eq_true h2) (sndTs ts X sc fb _ A h1 h3)
    · cases h
theorem sndTs : ∀ (ts : List T) (X : Cx) (sc : Scope) (fb : Option Scope) (es : List Expr), Amb X c cs lvl sc fb → es.all notStar = true → chkTs c sc fb ts es = true → PGs X es (tGs X.K ts)
  | [], X, sc, fb, es, A, hs, h => by
    cases es with
    | nil => exact pgs_nilN
    | cons e es => unfold chkTs at h; cases h
  | t :: ts, X, sc, fb, es, A, hs, h => by
    cases es with
    | nil => unfold chkTs at h; cases h
    | cons e es =>
      unfold chkTs at h
      obtain ⟨h1, h2⟩ := Bool.and_eq_true_iff.mp h
      rw [List.all_cons] at hs
      obtain ⟨h3, h4⟩ := Bool.and_eq_true_iff.mp hs
      exact pgs_consN h3 (sndT t X sc fb e A h1) (sndTs ts X sc fb es A h4 h2)
end
end
end NW

set_option Elab.async false
set_option linter.all false
set_option maxRecDepth 100000
set_option maxHeartbeats 4000000
/-! Soundness of the check: expressions. -/
namespace NW
open PySem PySem.Spec PyProof.Rows L2

theorem and2 {a b : Bool} (h : (a && b) = true) : a = true ∧ b = true := Bool.and_eq_true_iff.mp h
theorem isNoneC_ok {e : Expr} (h : isNoneC e = true) : ∃ j p, e = .Constant .none j p := by
  unfold isNoneC at h
  split at h
  · exact ⟨_, _, rfl⟩
  · cases h
theorem isTupE_ok {e : Expr} (h : isTupE e = true) : ∃ es k p, e = .Tuple es k p := by
  unfold isTupE at h
  split at h
  · exact ⟨_, _, _, rfl⟩
  · cases h
section
variable {c : Ck} {cs : List Fn} {lvl : Nat}
/-- what is known of a term that stands for an expression -/
structure SE (X : Cx) (cs : List Fn) (e : E) (ex : Expr) : Prop where
  pe : PE X ex (tV X.K (evE cs e))
  pt : tstOk e = true → PT X ex (tT X.K fun env M => tstB (evE cs e env M))
  pw : ∀ op vs p, ex = .BoolOp op vs p → tstOk e = true → PW X ex (tT X.K fun env M => tstB (evE cs e env M))
theorem SE.plain {X : Cx} {e : E} {ex : Expr} (h : PE X ex (tV X.K (evE cs e))) (hp : plainT ex = true) : SE X cs e ex := by
  refine ⟨h, fun _ => PT.imp (pt_val h (isTrue_plainT hp)) fun σ H Q q => tT_of q, fun op vs p e => ?_⟩
  subst e
  cases hp
theorem SE.both {X : Cx} {e : E} {ex : Expr} (h : PE X ex (tV X.K (evE cs e))) (h2 : PT X ex (tT X.K fun env M => tstB (evE cs e env M))) (hn : ∀ op vs p, ex ≠ .BoolOp op vs p) : SE X cs e ex :=
  ⟨h, fun _ => h2, fun op vs p e => absurd e (hn op vs p)⟩
theorem nomarkB {o : COp} {p : CmpOp} {b : Expr} (h : cmB o p = true) (h2 : (!behindInMarks p b) = true) : p = opC o ∧ behindInMarks (opC o) b = false := by
  have e : p = opC o := of_decide_eq_true h
  subst e
  exact ⟨rfl, by simpa using h2⟩
theorem se_and {X : Cx} {a b : E} {x y : Expr} {r : List Expr} {p : Pos} (ha : SE X cs a x) (hb : PE X (.BoolOp .And (y :: r) p) (tV X.K (evE cs b))) (hw : tstOk b = true → PW X (.BoolOp .And (y :: r) p) (tT X.K fun env M => tstB (evE cs b env M))) :
    SE X cs (.and a b) (.BoolOp .And (x :: y :: r) p) := by
  have ev : evE cs (.and a b) = evAnd (evE cs a) (evE cs b) := by funext env M; simp only [evE, evAnd]
  have pw : tstOk (.and a b) = true → PW X (.BoolOp .And (x :: y :: r) p) (tT X.K fun env M => tstB (evE cs (.and a b) env M)) := fun ht => by
    obtain ⟨t1, t2⟩ := and2 (show (tstOk a && tstOk b) = true from ht)
    rw [ev]
    exact PW.imp (pw_and (ha.pt t1) (hw t2)) fun σ H Q q => andT_rd q
  refine ⟨?_, fun ht => (pw ht).pt, fun _ _ _ _ ht => pw ht⟩
  rw [ev]
  exact PE.imp (pe_and ha.pe hb) fun σ H Q q => and_rd q
theorem se_or {X : Cx} {a b : E} {x y : Expr} {r : List Expr} {p : Pos} (ha : SE X cs a x) (hb : PE X (.BoolOp .Or (y :: r) p) (tV X.K (evE cs b))) (hw : tstOk b = true → PW X (.BoolOp .Or (y :: r) p) (tT X.K fun env M => tstB (evE cs b env M))) :
    SE X cs (.or a b) (.BoolOp .Or (x :: y :: r) p) := by
  have ev : evE cs (.or a b) = evOr (evE cs a) (evE cs b) := by funext env M; simp only [evE, evOr]
  have pw : tstOk (.or a b) = true → PW X (.BoolOp .Or (x :: y :: r) p) (tT X.K fun env M => tstB (evE cs (.or a b) env M)) := fun ht => by
    obtain ⟨t1, t2⟩ := and2 (show (tstOk a && tstOk b) = true from ht)
    rw [ev]
    exact PW.imp (pw_or (ha.pt t1) (hw t2)) fun σ H Q q => orT_rd q
  refine ⟨?_, fun ht => (pw ht).pt, fun _ _ _ _ ht => pw ht⟩
  rw [ev]
  exact PE.imp (pe_or ha.pe hb) fun σ H Q q => or_rd q
mutual
theorem sndE : ∀ (e : E) (X : Cx) (sc : Scope) (fb : Option Scope) (ex : Expr), Amb X c cs lvl sc fb → chkE c sc fb e ex = true → SE X cs e ex
  | .var i, X, sc, fb, ex, A, h => by
    unfold chkE at h
    split at h
    · obtain ⟨h1, h2⟩ := and2 h
      obtain ⟨h3, h4, h5⟩ := A.vis h2
      exact SE.plain (by simpa only [evE] using pe_varN (pe_var (by rw [A.N]; exact of_decide_eq_true h1) h3 h4 h5)) rfl
    · cases h
  | .int i, X, sc, fb, ex, A, h => by
    unfold chkE at h
    split at h
    · have e := of_decide_eq_true h
      subst e
      exact SE.plain (by simpa only [evE] using pe_cst (v := .int i) (x := .int i) pe_int fun B => .int i) rfl
    · cases h
  | .bl b, X, sc, fb, ex, A, h => by
    unfold chkE at h
    split at h
    · have e := of_decide_eq_true h
      subst e
      exact SE.plain (by simpa only [evE] using pe_cst (v := .bl b) (x := .bool b) pe_bl fun B => .bl b) rfl
    · cases h
  | .non, X, sc, fb, ex, A, h => by
    unfold chkE at h
    obtain ⟨j, p, e⟩ := isNoneC_ok h
    subst e
    exact SE.plain (by simpa only [evE] using pe_cst (v := .non) (x := .none) pe_non fun B => .non) rfl
  | .str s, X, sc, fb, ex, A, h => by
    unfold chkE at h
    split at h
    · have e := of_decide_eq_true h
      subst e
      exact SE.plain (by simpa only [evE] using pe_cst (v := .str (Str.ofString s)) (x := .str (Str.ofString s)) pe_str fun B => .str _) rfl
    · cases h
  | .con x v, X, sc, fb, ex, A, h => by
    unfold chkE at h
    split at h
    · obtain ⟨h1, h2⟩ := and2 h
      obtain ⟨h2, h3⟩ := and2 h2
      have e := of_decide_eq_true h1
      subst e
      obtain ⟨g1, g2⟩ := A.gl h2
      obtain ⟨p, hp, hq⟩ := List.any_eq_true.mp (show (c.kc.any fun p => decide (p.1 = x) && sameC p.2 v) = true from h3)
      obtain ⟨q1, q2⟩ := and2 hq
      have e1 := of_decide_eq_true q1
      have e2 := sameC_ok q2
      obtain ⟨px, pv⟩ := p
      simp only at e1 e2
      subst e1 e2
      obtain ⟨u, v', k1, k2, k3⟩ := A.g.con px pv hp
      exact SE.plain (by simpa only [evE] using pe_cst (pe_glob g1 k1 k2 g2) k3) rfl
    · cases h
  | .bin op a b, X, sc, fb, ex, A, h => by
    unfold chkE at h
    split at h
    · obtain ⟨h1, h2⟩ := and2 h
      obtain ⟨h2, h3⟩ := and2 h2
      have e := of_decide_eq_true h1
      subst e
      exact SE.plain (by simpa only [evE] using pe_bin (sndE a X sc fb _ A h2).pe (sndE b X sc fb _ A h3).pe) rfl
    · cases h
  | .neg a, X, sc, fb, ex, A, h => by
    unfold chkE at h
    split at h
    · exact SE.plain (by simpa only [evE] using pe_neg (sndE a X sc fb _ A h).pe) rfl
    · cases h
  | .cmp op a b, X, sc, fb, ex, A, h => by
    unfold chkE at h
    split at h
    · obtain ⟨h1, h2⟩ := and2 h
      obtain ⟨h2, h3⟩ := and2 h2
      obtain ⟨h3, h4⟩ := and2 h3
      obtain ⟨e, hm⟩ := nomarkB h1 h2
      subst e
      have ha := (sndE a X sc fb _ A h3).pe
      have hb := (sndE b X sc fb _ A h4).pe
      exact SE.both (by simpa only [evE] using pe_cmpN A.hu ha hb hm) (by simpa only [evE] using pt_cmpN A.hu ha hb hm) (by intro _ _ _ z; cases z)
    · cases h
  | .isN a, X, sc, fb, ex, A, h => by
    unfold chkE at h
    split at h
    · obtain ⟨h1, h2⟩ := and2 h
      obtain ⟨j, p, e⟩ := isNoneC_ok h1
      subst e
      have ha := (sndE a X sc fb _ A h2).pe
      exact SE.both (by simpa only [evE] using pe_isN ha) (by simpa only [evE] using pt_isN ha) (by intro _ _ _ z; cases z)
    · cases h
  | .notN a, X, sc, fb, ex, A, h => by
    unfold chkE at h
    split at h
    · obtain ⟨h1, h2⟩ := and2 h
      obtain ⟨j, p, e⟩ := isNoneC_ok h1
      subst e
      have ha := (sndE a X sc fb _ A h2).pe
      exact SE.both (by simpa only [evE] using pe_notN ha) (by simpa only [evE] using pt_notN ha) (by intro _ _ _ z; cases z)
    · cases h
  | .chain o1 o2 a b d, X, sc, fb, ex, A, h => by
    unfold chkE at h
    split at h
    · obtain ⟨h1, h2⟩ := and2 h
      obtain ⟨h2, h3⟩ := and2 h2
      obtain ⟨h3, h4⟩ := and2 h3
      obtain ⟨h4, h5⟩ := and2 h4
      obtain ⟨h5, h6⟩ := and2 h5
      have e := of_decide_eq_true h1
      subst e
      obtain ⟨e, hm⟩ := nomarkB h2 h3
      subst e
      have ha := (sndE a X sc fb _ A h4).pe
      have hb := (sndE b X sc fb _ A h5).pe
      have hd := (sndE d X sc fb _ A h6).pe
      exact SE.both (by simpa only [evE] using pe_chainN A.hu ha hb hd hm) (by simpa only [evE] using pt_chainN A.hu ha hb hd hm) (by intro _ _ _ z; cases z)
    · cases h
  | .not a, X, sc, fb, ex, A, h => by
    unfold chkE at h
    split at h
    · have ha := sndE a X sc fb _ A h
      refine ⟨by simpa only [evE] using pe_notV ha.pe, fun ht => by simpa only [evE] using pt_notT (ha.pt ht), ?_⟩
      intro _ _ _ z
      cases z
    · cases h
  | .and a b, X, sc, fb, ex, A, h => by
    unfold chkE at h
    split at h
    · obtain ⟨h1, h2⟩ := and2 h
      exact se_and (sndE a X sc fb _ A h1) (pe_one (sndE b X sc fb _ A h2).pe) fun t => pw_and1 ((sndE b X sc fb _ A h2).pt t)
    · obtain ⟨h1, h2⟩ := and2 h
      exact se_and (sndE a X sc fb _ A h1) (sndE b X sc fb _ A h2).pe fun t => (sndE b X sc fb _ A h2).pw _ _ _ rfl t
    · cases h
  | .or a b, X, sc, fb, ex, A, h => by
    unfold chkE at h
    split at h
    · obtain ⟨h1, h2⟩ := and2 h
      exact se_or (sndE a X sc fb _ A h1) (pe_one (sndE b X sc fb _ A h2).pe) fun t => pw_or1 ((sndE b X sc fb _ A h2).pt t)
    · obtain ⟨h1, h2⟩ := and2 h
      exact se_or (sndE a X sc fb _ A h1) (sndE b X sc fb _ A h2).pe fun t => (sndE b X sc fb _ A h2).pw _ _ _ rfl t
    · cases h
  | .ife d a b, X, sc, fb, ex, A, h => by
    unfold chkE at h
    split at h
    · obtain ⟨h1, h2⟩ := and2 h
      obtain ⟨h2, h3⟩ := and2 h2
      obtain ⟨h3, h4⟩ := and2 h3
      have hd := (sndE d X sc fb _ A h2).pt h1
      refine ⟨by simpa only [evE] using pe_ifN hd (sndE a X sc fb _ A h3).pe (sndE b X sc fb _ A h4).pe, fun z => ?_, ?_⟩
      · cases z
      · intro _ _ _ z
        cases z
    · cases h
  | .idx a i, X, sc, fb, ex, A, h => by
    unfold chkE at h
    split at h
    · obtain ⟨h1, h2⟩ := and2 h
      obtain ⟨h2, h3⟩ := and2 h2
      exact SE.plain (by simpa only [evE] using pe_idxN (by have := A.hu; omega) (sndE a X sc fb _ A h2).pe (sndE i X sc fb _ A h3).pe h1) rfl
    · cases h
  | .slc a lo hi, X, sc, fb, ex, A, h => by
    unfold chkE at h
    split at h
    · obtain ⟨h1, h2⟩ := and2 h
      obtain ⟨h2, h3⟩ := and2 h2
      exact SE.plain (by simpa only [evE] using pe_slcN (sndE a X sc fb _ A h1).pe (sndO lo X sc fb _ A h2) (sndO hi X sc fb _ A h3)) rfl
    · cases h
  | .rev a, X, sc, fb, ex, A, h => by
    unfold chkE at h
    split at h
    · refine SE.plain (PE.imp (pe_revL (sndE a X sc fb _ A h).pe) fun σ H Q q => ?_) rfl
      simp only [evE] at q
      refine tV.un (g := evRev) q fun S x H' a w M' k r e p => ?_
      unfold evRev at e
      split at e
      · rename_i xs q2
        obtain ⟨rfl, rfl⟩ : Vl.d (.list xs.reverse) = w ∧ S.M = M' := by simpa using e
        obtain ⟨pa, us, rfl, s1, d1⟩ := k.lstV r q2
        exact ⟨pa, us, rfl, s1, p.newL k d1.reverse⟩
      · cases e
    · cases h
  | .tup es, X, sc, fb, ex, A, h => by
    unfold chkE at h
    split at h
    · exact SE.plain (by simpa only [evE] using pe_tupN (sndEs es X sc fb _ A h)) rfl
    · cases h
  | .lst es, X, sc, fb, ex, A, h => by
    unfold chkE at h
    split at h
    · exact SE.plain (by simpa only [evE] using pe_lstN (sndEs es X sc fb _ A h)) rfl
    · cases h
  | .new es, X, sc, fb, ex, A, h => by
    unfold chkE at h
    split at h
    · exact SE.plain (by simpa only [evE] using pe_newN (sndEs es X sc fb _ A h)) rfl
    · cases h
  | .newL e, X, sc, fb, ex, A, h => by
    unfold chkE at h
    split at h
    · obtain ⟨h1, h2⟩ := and2 h
      obtain ⟨h2, h3⟩ := and2 h2
      obtain ⟨h3, h4⟩ := and2 h3
      have e1 := of_decide_eq_true h1
      subst e1
      exact SE.plain (by simpa only [evE] using pe_newLN (A.gl h2).1 (A.freeB (x := "list") (by decide)) h3 (sndE e X sc fb _ A h4).pe) rfl
    · cases h
  | .call k es, X, sc, fb, ex, A, h => by
    unfold chkE at h
    split at h
    · obtain ⟨h1, h2⟩ := and2 h
      obtain ⟨h2, h3⟩ := and2 h2
      obtain ⟨h3, h4⟩ := and2 h3
      split at h1
      · rename_i s q
        have e1 := of_decide_eq_true h1
        subst e1
        obtain ⟨g1, g2⟩ := A.gl h2
        have hk : k < cs.length := by rw [← A.g.has]; exact (List.getElem?_eq_some_iff.mp q).1
        exact SE.plain (by simpa only [evE] using pe_callN (A.g.fn k s cs[k] q (List.getElem?_eq_getElem hk)) (A.room.mono (Nat.le_succ _)) g1 (List.getElem?_eq_getElem hk) h3 (sndEs es X sc fb _ A h4) g2) rfl
      · cases h1
    · cases h
  | .bi b es, X, sc, fb, ex, A, h => by
    unfold chkE at h
    split at h
    · obtain ⟨h1, h2⟩ := and2 h
      obtain ⟨h2, h3⟩ := and2 h2
      obtain ⟨h3, h4⟩ := and2 h3
      have e1 := of_decide_eq_true h1
      subst e1
      have hm : biN b ∈ FREE := by cases b <;> decide
      exact SE.plain (by simpa only [evE] using pe_biN A.calm (by have := A.hu; omega) (A.gl h2).1 (A.freeB hm) h3 (sndEs es X sc fb _ A h4)) rfl
    · cases h
  | .isI a ty, X, sc, fb, ex, A, h => by
    unfold chkE at h
    split at h
    · obtain ⟨q1, r1⟩ := and2 h
      obtain ⟨q2, r2⟩ := and2 r1
      obtain ⟨q3, r3⟩ := and2 r2
      obtain ⟨q4, r4⟩ := and2 r3
      obtain ⟨q5, r5⟩ := and2 r4
      obtain ⟨q6, q7⟩ := and2 r5
      clear h r1 r2 r3 r4 r5
      have e1 := of_decide_eq_true q1
      have e2 := of_decide_eq_true q4
      subst e1 e2
      have hm : ty ∈ FREE := by
        have h2 : ty = "int" ∨ ty = "bool" ∨ ty = "str" ∨ ty = "tuple" ∨ ty = "list" := by simpa [tyOk] using q3
        rcases h2 with rfl | rfl | rfl | rfl | rfl <;> decide
      exact SE.plain (by simpa only [evE] using pe_isiN q3 (A.gl q2).1 (A.freeB (x := "isinstance") (by decide)) (A.gl q5).1 (A.freeB hm) q6 (sndE a X sc fb _ A q7).pe) rfl
    · cases h
  | .ixOf a b, X, sc, fb, ex, A, h => by
    unfold chkE at h
    split at h
    · obtain ⟨q1, r1⟩ := and2 h
      obtain ⟨q2, r2⟩ := and2 r1
      obtain ⟨q3, r3⟩ := and2 r2
      obtain ⟨q4, r4⟩ := and2 r3
      obtain ⟨q5, q6⟩ := and2 r4
      clear h r1 r2 r3 r4
      have e1 := of_decide_eq_true q1
      subst e1
      exact SE.plain (by simpa only [evE] using pe_ixN (by have := A.hu; omega) (sndE a X sc fb _ A q5).pe (sndE b X sc fb _ A q6).pe q3 q2 q4) rfl
    · cases h
  | .sortK k a, X, sc, fb, ex, A, h => by
    unfold chkE at h
    split at h
    · obtain ⟨q1, r1⟩ := and2 h
      obtain ⟨q2, r2⟩ := and2 r1
      obtain ⟨q3, r3⟩ := and2 r2
      obtain ⟨q4, r4⟩ := and2 r3
      obtain ⟨q5, r5⟩ := and2 r4
      obtain ⟨q6, q7⟩ := and2 r5
      clear h r1 r2 r3 r4 r5
      split at q4
      · rename_i s q
        have e1 := of_decide_eq_true q1
        have e2 := of_decide_eq_true q3
        have e3 := of_decide_eq_true q4
        subst e1 e2 e3
        obtain ⟨g1, g2⟩ := A.gl q5
        have hk : k < cs.length := by rw [← A.g.has]; exact (List.getElem?_eq_some_iff.mp q).1
        exact SE.plain (by simpa only [evE] using pe_sortKN (A.g.fn k s cs[k] q (List.getElem?_eq_getElem hk)) A.room (A.gl q2).1 (A.freeB (x := "sorted") (by decide)) g1 g2 (List.getElem?_eq_getElem hk) (sndE a X sc fb _ A q7).pe q6) rfl
      · cases q4
    · cases h
  | .slcM a lo hi, X, sc, fb, ex, A, h => by
    unfold chkE at h
    split at h
    · obtain ⟨h1, h2⟩ := and2 h
      obtain ⟨h2, h3⟩ := and2 h2
      exact SE.plain (by simpa only [evE] using pe_slcMN (sndE a X sc fb _ A h1).pe (sndO lo X sc fb _ A h2) (sndO hi X sc fb _ A h3)) rfl
    · cases h
  | .wdC a b, X, sc, fb, ex, A, h => by
    unfold chkE at h
    split at h
    · obtain ⟨h1, h2⟩ := and2 h
      obtain ⟨h2, h3⟩ := and2 h2
      obtain ⟨h3, h4⟩ := and2 h3
      exact SE.plain (by simpa only [evE] using pe_wdC (sndE a X sc fb _ A h3).pe (sndE b X sc fb _ A h4).pe h1 h2) rfl
    · cases h
  | .comp mu own t it d e, X, sc, fb, ex, A, h => by
    unfold chkE at h
    split at h
    · obtain ⟨h1, h2⟩ := and2 h
      obtain ⟨h2, h3⟩ := and2 h2
      obtain ⟨h3, h4⟩ := and2 h3
      obtain ⟨h4, h5⟩ := and2 h4
      obtain ⟨h5, h6⟩ := and2 h5
      obtain ⟨h6, h7⟩ := and2 h6
      obtain ⟨h7, h8⟩ := and2 h7
      have e1 := of_decide_eq_true h1
      subst e1
      refine SE.plain (PE.imp (pe_lc (own := own.map fun p => (Str.ofString p.1, p.2)) (g := tG X.K t) (tt := tT X.K (evC cs d)) (te := tV X.K (evE cs e)) A.calm (by rw [A.N]; exact A.nd) (sndI it X sc fb _ _ A h5) (by rw [A.N, A.sc]; exact blkOk_by h2)
        (fun s H C cl fp => sndT t _ _ _ _ (A.blk s H _ C cl fp) h6) (fun s H C cl fp => sndC d _ _ _ _ (A.blk s H _ C cl fp) h7) (fun s H C cl fp => (sndE e _ _ _ _ (A.blk s H _ C cl fp) h8).pe) (folded_of h4)) fun σ H Q q => ?_) rfl
      have eo : (own.map fun p => (Str.ofString p.1, p.2)).map (·.2) = own.map (·.2) := by rw [List.map_map]; rfl
      rw [eo]
      refine lc_rd (mu := mu) (fun i hi => ?_) ?_
      · have := List.all_eq_true.mp h3 i hi
        simpa using this
      · simp only [evE] at q
        exact q
    · cases h
  | .frz e, X, sc, fb, ex, A, h => by
    unfold chkE at h
    have he := sndE e X sc fb ex A h
    refine ⟨by simpa only [evE] using pe_frzN he.pe, fun z => ?_, fun _ _ _ _ z => ?_⟩
    · cases z
    · cases z
theorem sndEs : ∀ (es : Es) (X : Cx) (sc : Scope) (fb : Option Scope) (xs : List Expr), Amb X c cs lvl sc fb → chkEs c sc fb es xs = true → PA X xs (tA X.K (evEs cs es))
  | .nil, X, sc, fb, xs, A, h => by
    unfold chkEs at h
    have e : xs = [] := List.isEmpty_iff.mp h
    subst e
    simpa only [evEs] using pa_nilN (X := X)
  | .cons e es, X, sc, fb, xs, A, h => by
    unfold chkEs at h
    split at h
    · obtain ⟨h1, h2⟩ := and2 h
      obtain ⟨h2, h3⟩ := and2 h2
      simpa only [evEs] using pa_consN (sndE e X sc fb _ A h2).pe h1 (sndEs es X sc fb _ A h3)
    · cases h
theorem sndO : ∀ (o : Eo) (X : Cx) (sc : Scope) (fb : Option Scope) (x : Option Expr), Amb X c cs lvl sc fb → chkO c sc fb o x = true → PO X x (tO X.K (evO cs o))
  | .no, X, sc, fb, x, A, h => by
    unfold chkO at h
    have e : x = none := Option.isNone_iff_eq_none.mp h
    subst e
    simpa only [evO] using po_noN (X := X)
  | .so e, X, sc, fb, x, A, h => by
    unfold chkO at h
    split at h
    · simpa only [evO] using po_soN (sndE e X sc fb _ A h).pe
    · cases h
theorem sndC : ∀ (o : Eo) (X : Cx) (sc : Scope) (fb : Option Scope) (xs : List Expr), Amb X c cs lvl sc fb → chkC c sc fb o xs = true → PTs X xs (tT X.K (evC cs o))
  | .no, X, sc, fb, x, A, h => by
    unfold chkC at h
    have e : x = [] := List.isEmpty_iff.mp h
    subst e
    refine ⟨fun pins s σ H Q I q => pts_nil.run pins s σ H Q I ?_⟩
    simp only [evC] at q
    exact tTC_rd q
  | .so e, X, sc, fb, x, A, h => by
    unfold chkC at h
    split at h
    · obtain ⟨h1, h2⟩ := and2 h
      have := pts_one ((sndE e X sc fb _ A h2).pt h1)
      simpa only [evC] using this
    · cases h
theorem sndI : ∀ (it : It) (X : Cx) (sc : Scope) (fb : Option Scope) (tg x : Expr), Amb X c cs lvl sc fb → chkI c sc fb it tg x = true → PI X tg x (tI X.K (evI cs it))
  | .seq e, X, sc, fb, tg, x, A, h => by
    unfold chkI at h
    simpa only [evI] using pi_seqN (sndE e X sc fb _ A h).pe
  | .rng1 e, X, sc, fb, tg, x, A, h => by
    unfold chkI at h
    split at h
    · obtain ⟨h1, h2⟩ := and2 h
      obtain ⟨h2, h3⟩ := and2 h2
      obtain ⟨h3, h4⟩ := and2 h3
      have e1 := of_decide_eq_true h1
      subst e1
      simpa only [evI] using pi_rng1N (A.gl h2).1 (A.freeB (x := "range") (by decide)) h3 (sndE e X sc fb _ A h4).pe
    · cases h
  | .rng2 a b, X, sc, fb, tg, x, A, h => by
    unfold chkI at h
    split at h
    · obtain ⟨h1, h2⟩ := and2 h
      obtain ⟨h2, h3⟩ := and2 h2
      obtain ⟨h3, h4⟩ := and2 h3
      obtain ⟨h4, h5⟩ := and2 h4
      obtain ⟨h5, h6⟩ := and2 h5
      have e1 := of_decide_eq_true h1
      subst e1
      simpa only [evI] using pi_rng2N (A.gl h2).1 (A.freeB (x := "range") (by decide)) h3 h4 (sndE a X sc fb _ A h5).pe (sndE b X sc fb _ A h6).pe
    · cases h
  | .zip a b, X, sc, fb, tg, x, A, h => by
    unfold chkI at h
    split at h
    · obtain ⟨h0, h1⟩ := and2 h
      obtain ⟨h1, h2⟩ := and2 h1
      obtain ⟨h2, h3⟩ := and2 h2
      obtain ⟨h3, h4⟩ := and2 h3
      obtain ⟨h4, h5⟩ := and2 h4
      obtain ⟨h5, h6⟩ := and2 h5
      have e1 := of_decide_eq_true h1
      subst e1
      obtain ⟨es, kk, p, e2⟩ := isTupE_ok h0
      subst e2
      simpa only [evI] using pi_zipN (A.gl h2).1 (A.freeB (x := "zip") (by decide)) h3 h4 (sndE a X sc fb _ A h5).pe (sndE b X sc fb _ A h6).pe
    · cases h
  | .enum a, X, sc, fb, tg, x, A, h => by
    unfold chkI at h
    split at h
    · obtain ⟨h0, h1⟩ := and2 h
      obtain ⟨h1, h2⟩ := and2 h1
      obtain ⟨h2, h3⟩ := and2 h2
      obtain ⟨h3, h4⟩ := and2 h3
      have e1 := of_decide_eq_true h1
      subst e1
      obtain ⟨es, kk, p, e2⟩ := isTupE_ok h0
      subst e2
      simpa only [evI] using pi_enumN (A.gl h2).1 (A.freeB (x := "enumerate") (by decide)) h3 (sndE a X sc fb _ A h4).pe
    · cases h
end
end
end NW

set_option Elab.async false
set_option linter.all false
set_option maxRecDepth 100000
set_option maxHeartbeats 4000000
/-! Statements: readings by what my evaluator says. -/
namespace NW
open PySem PySem.Spec PyProof.Rows L2

def PostS (K : PySem.W.Frag) (mg : Str → Option Value) (W : WX) (S : W3) (o : SO) (D : Ends) : Prop := match o with
  | .nx env' M' => ∀ (σ' : L2.St) (H' : Hp) (S' : W3), Le S S' → S'.M = M' → Ok K S' H' → EnvOk K S' σ' env' → D.nx σ' H'
  | .rt w M' => ∀ (v : V) (H' : Hp) (S' : W3), Le S S' → S'.M = M' → Ok K S' H' → RV K S' v w → D.rt v H'
  | .exc x M' => ∀ (C : Addr) (σ' : L2.St) (H' : Hp) (S' : W3), Le S S' → S'.M = M' → Ok K S' H' → mg (Str.ofString x) = some (.ref C) → W (.ref C) none σ' H'
def tS (K : PySem.W.Frag) (mg : Str → Option Value) (W : WX) (f : En → Mem → Option SO) : TS := fun D σ H => ∃ (S : W3) (env : En) (o : SO), Ok K S H ∧ EnvOk K S σ env ∧ f env S.M = some o ∧ PostS K mg W S o D
section
variable {K : PySem.W.Frag} {mg : Str → Option Value} {W : WX} {S S1 : W3} {o : SO} {D : Ends} {σ : L2.St} {H : Hp}
theorem PostS.le (l : Le S S1) (p : PostS K mg W S o D) : PostS K mg W S1 o D := by
  cases o with
  | nx env' M' => exact fun σ' H' S' l' => p σ' H' S' (l.trans l')
  | rt w M' => exact fun v H' S' l' => p v H' S' (l.trans l')
  | exc x M' => exact fun C σ' H' S' l' => p C σ' H' S' (l.trans l')
/-- one value, then a statement's end -/
theorem tS.un {fa : En → Mem → Option (Vl × Mem)} {g : Vl → En → Mem → Option SO} (h : tS K mg W (fun env M => (fa env M).bind fun r => g r.1 env r.2) D σ H) {R : V → Hp → Prop}
    (hR : ∀ (S : W3) (x : V) (H' : Hp) (a : Vl) (env : En) (o : SO), Ok K S H' → EnvOk K S σ env → RV K S x a → g a env S.M = some o → PostS K mg W S o D → R x H') : tV K fa σ H R := by
  obtain ⟨S, env, o, k, ev, e, p⟩ := h
  obtain ⟨⟨a, M1⟩, e1, e2⟩ := Option.bind_eq_some_iff.mp e
  exact ⟨S, env, a, M1, k, ev, e1, fun v H' S' l em k' r => hR S' v H' a env o k' (ev.le l) r (by rw [em]; exact e2) (p.le l)⟩
/-- values, then a statement's end -/
theorem tS.args {fs : En → Mem → Option (List Vl × Mem)} {g : List Vl → En → Mem → Option SO} (h : tS K mg W (fun env M => (fs env M).bind fun r => g r.1 env r.2) D σ H) {R : List V → Hp → Prop}
    (hR : ∀ (S : W3) (xs : List V) (H' : Hp) (ws : List Vl) (env : En) (o : SO), Ok K S H' → EnvOk K S σ env → RVs K S xs ws → g ws env S.M = some o → PostS K mg W S o D → R xs H') : tA K fs σ H R := by
  obtain ⟨S, env, o, k, ev, e, p⟩ := h
  obtain ⟨⟨ws, M1⟩, e1, e2⟩ := Option.bind_eq_some_iff.mp e
  exact ⟨S, env, ws, M1, k, ev, e1, fun vs H' S' l em k' r => hR S' vs H' ws env o k' (ev.le l) r (by rw [em]; exact e2) (p.le l)⟩
/-- a test, then a statement's end -/
theorem tS.tst {fc : En → Mem → Option (Bool × Mem)} {g : Bool → En → Mem → Option SO} (h : tS K mg W (fun env M => (fc env M).bind fun r => g r.1 env r.2) D σ H) : tT K fc σ H fun b H1 => tS K mg W (g b) D σ H1 := by
  obtain ⟨S, env, o, k, ev, e, p⟩ := h
  obtain ⟨⟨b, M1⟩, e1, e2⟩ := Option.bind_eq_some_iff.mp e
  exact ⟨S, env, b, M1, k, ev, e1, fun H' S' l em k' => ⟨S', env, o, k', ev.le l, by rw [em]; exact e2, p.le l⟩⟩
end
/-- target = value, both ways of storing -/
theorem asg_rd {K : PySem.W.Frag} {mg : Str → Option Value} {W : WX} {fe : En → Mem → Option (Vl × Mem)} {t : T} {D : Ends} {σ : L2.St} {H : Hp} (h : tS K mg W (fun env M => (fe env M).bind fun r => (evT t r.1 env).map fun env1 => .nx env1 r.2) D σ H) :
    tV K fe σ H fun x H1 => tG K t x σ H1 D.nx :=
  tS.un (g := fun v env M => (evT t v env).map fun env1 => .nx env1 M) h fun S x H' a env o k ev r e p => by
    obtain ⟨env1, e1, e2⟩ := Option.map_eq_some_iff.mp e
    subst e2
    exact ⟨S, env, env1, a, k, ev, r, e1, fun σ' ev' _ => p σ' H' S (Le.refl _) rfl k ev'⟩
theorem asgI_rd {K : PySem.W.Frag} {mg : Str → Option Value} {W : WX} {fe : En → Mem → Option (Vl × Mem)} {i : Nat} {D : Ends} {σ : L2.St} {H : Hp} (h : tS K mg W (fun env M => (fe env M).bind fun r => (evT (.name i) r.1 env).map fun env1 => .nx env1 r.2) D σ H) :
    tV K fe σ H fun x H1 => gName i x σ H1 D.nx :=
  tS.un (g := fun v env M => (evT (.name i) v env).map fun env1 => .nx env1 M) h fun S x H' a env o k ev r e p => by
    obtain ⟨env1, e1, e2⟩ := Option.map_eq_some_iff.mp e
    subst e2
    have e3 : env.set i (some a) = env1 := Option.some.inj (by simpa only [evT] using e1)
    subst e3
    exact p _ H' S (Le.refl _) rfl k (ev.set r)
section
variable {X : Cx} {W : WX} {st : Stmt} {rest : List Stmt} {f g : En → Mem → Option SO} {e : Expr} {fe fa fb : En → Mem → Option (Vl × Mem)} {pos : Pos}
theorem pss_nilN : PSs X [] (tS X.K X.mg W fun env M => some (.nx env M)) :=
  PSs.imp pss_nil fun D σ H ⟨S, env, o, k, ev, e, p⟩ => by
    have e1 : SO.nx env S.M = o := Option.some.inj e
    subst e1
    exact p σ H S (Le.refl _) rfl k ev
def seqS (f g : En → Mem → Option SO) (env : En) (M : Mem) : Option SO := (f env M).bind fun o => match o with
  | .nx env1 M1 => g env1 M1
  | o => some o
theorem seq_rd {K : PySem.W.Frag} {mg : Str → Option Value} {D : Ends} {σ : L2.St} {H : Hp} (h : tS K mg W (seqS f g) D σ H) : tSeq (tS K mg W f) (tS K mg W g) D σ H := by
  obtain ⟨S, env, o, k, ev, e, p⟩ := h
  obtain ⟨o1, e1, e2⟩ := Option.bind_eq_some_iff.mp (show ((f env S.M).bind fun o => match o with | .nx env1 M1 => g env1 M1 | o => some o) = some o from e)
  refine ⟨S, env, o1, k, ev, e1, ?_⟩
  cases o1 with
  | nx env1 M1 => exact fun σ' H' S' l em k' ev' => ⟨S', env1, o, k', ev', by rw [em]; exact e2, p.le l⟩
  | rt w M1 =>
    have e3 : SO.rt w M1 = o := Option.some.inj e2
    subst e3
    exact p
  | exc x M1 =>
    have e3 : SO.exc x M1 = o := Option.some.inj e2
    subst e3
    exact p
theorem ps_asgN {tg : Expr} {t : T} (he : PE X e (tV X.K fe)) (hg : PG X tg (tG X.K t)) (hs : swapsWithSole [tg] e pos.line X.env = pure false) (hw : swappedStores [tg] e X.env = pure none) (hn : notStar tg = true) :
    PS X (.Assign [tg] e pos) (tS X.K X.mg W fun env M => (fe env M).bind fun r => (evT t r.1 env).map fun env1 => .nx env1 r.2) :=
  PS.imp (ps_asg he hg hs hw (by rw [assign_cons hn]; rfl)) fun D σ H h => asg_rd h
theorem ps_setN {i : Nat} {x : Str} {p' : Pos} (hN : X.N.Nodup) (hi : X.N[i]? = some x) (hx : L2.Loc X.env.scope x) (hf : X.fn x = true ∨ X.env.scope.names.lookup x = some .local) (he : PE X e (tV X.K fe)) (hs : swapsWith e (some (.Name x p')) pos.line X.env = pure false) :
    PS X (.Assign [.Name x p'] e pos) (tS X.K X.mg W fun env M => (fe env M).bind fun r => (evT (.name i) r.1 env).map fun env1 => .nx env1 r.2) :=
  PS.imp (ps_set hN hi hx he hs hf) fun D σ H h => asgI_rd h
theorem ps_exN (he : PE X e (tV X.K fe)) (hs : swapsWith e none pos.line X.env = pure false) : PS X (.Expr e pos) (tS X.K X.mg W fun env M => (fe env M).map fun r => .nx env r.2) :=
  PS.imp (ps_expr he hs) fun D σ H ⟨S, env, o, k, ev, ee, p⟩ => by
    obtain ⟨⟨a, M1⟩, e1, e2⟩ := Option.map_eq_some_iff.mp ee
    subst e2
    exact ⟨S, env, a, M1, k, ev, e1, fun v H' S' l em k' r => p σ H' S' l em k' (ev.le l)⟩
theorem ps_retN2 (he : PE X e (tV X.K fe)) : PS X (.Return (some e) pos) (tS X.K X.mg W fun env M => (fe env M).map fun r => .rt r.1 r.2) :=
  PS.imp (ps_ret he) fun D σ H ⟨S, env, o, k, ev, ee, p⟩ => by
    obtain ⟨⟨a, M1⟩, e1, e2⟩ := Option.map_eq_some_iff.mp ee
    subst e2
    exact ⟨S, env, a, M1, k, ev, e1, fun v H' S' l em k' r => p v H' S' l em k' r⟩
theorem ps_ifN {c : Expr} {a b : List Stmt} {fc : En → Mem → Option (Bool × Mem)} (hc : PT X c (tT X.K fc)) (ha : PSs X a (tS X.K X.mg W f)) (hb : PSs X b (tS X.K X.mg W g)) :
    PS X (.If c a b pos) (tS X.K X.mg W fun env M => (fc env M).bind fun r => if r.1 = true then f env r.2 else g env r.2) :=
  PS.imp (ps_if hc ha hb) fun D σ H h => by
    have h2 := tS.tst (g := fun b env M => if b = true then f env M else g env M) h
    obtain ⟨S, env, b, M', k, ev, e, p⟩ := h2
    refine ⟨S, env, b, M', k, ev, e, fun H' S' l em k' => ?_⟩
    have q := p H' S' l em k'
    cases b with
    | true =>
      show if true = true then _ else _
      rw [if_pos rfl]
      simpa using q
    | false =>
      show if false = true then _ else _
      rw [if_neg Bool.false_ne_true]
      simpa using q

/-! ### loops -/
theorem ps_whilN {c : Expr} {body : List Stmt} {n : Nat} {fc : En → Mem → Option (Bool × Mem)} (hp : PassesOwn (model X.prog X.w) X.A X.env X.xe) (hc : PT X c (tT X.K fc)) (hb : PSs X body (tS X.K X.mg W f)) :
    PS X (.While c body [] pos) (tS X.K X.mg W fun env M => whilL fc f n env M) :=
  PS.imp (ps_while hp hc hb) fun D σ H ⟨S, env, o, k, ev, e, p⟩ => by
    refine ⟨fun m σ' H' => ∃ (S' : W3) (env' : En), Le S S' ∧ Ok X.K S' H' ∧ EnvOk X.K S' σ' env' ∧ whilL fc f m env' S'.M = some o, ⟨n, S, env, Le.refl _, k, ev, e⟩, ?_⟩
    rintro m σ1 H1 ⟨S1, env1, l1, k1, ev1, e1⟩
    cases m with
    | zero => cases e1
    | succ m =>
      obtain ⟨⟨b, M1⟩, e2, e3⟩ := Option.bind_eq_some_iff.mp (show ((fc env1 S1.M).bind fun r => if r.1 = true then (f env1 r.2).bind fun o => match o with
        | .nx env2 M2 => whilL fc f m env2 M2
        | o => some o
        else some (.nx env1 r.2)) = some o from e1)
      refine ⟨S1, env1, b, M1, k1, ev1, e2, fun H2 S2 l2 em2 k2 => ?_⟩
      cases b with
      | true =>
        rw [if_pos rfl] at e3
        rw [if_pos rfl]
        obtain ⟨o1, e4, e5⟩ := Option.bind_eq_some_iff.mp e3
        refine ⟨fun σ' H' => ∃ (S' : W3) (env' : En), Le S S' ∧ Ok X.K S' H' ∧ EnvOk X.K S' σ' env' ∧ whilL fc f m env' S'.M = some o, fun σ' H' q => ⟨m, Nat.lt_succ_self _, q⟩, S2, env1, o1, k2, ev1.le l2, by rw [em2]; exact e4, ?_⟩
        cases o1 with
        | nx env2 M2 => exact fun σ' H' S' l em k' ev' => ⟨S', env2, (l1.trans l2).trans l, k', ev', by rw [em]; exact e5⟩
        | rt w M2 =>
          have e6 : SO.rt w M2 = o := Option.some.inj e5
          subst e6
          exact PostS.le (l1.trans l2) p
        | exc x M2 =>
          have e6 : SO.exc x M2 = o := Option.some.inj e5
          subst e6
          exact PostS.le (l1.trans l2) p
      | false =>
        rw [if_neg Bool.false_ne_true] at e3
        rw [if_neg Bool.false_ne_true]
        have e6 : SO.nx env1 M1 = o := Option.some.inj e3
        subst e6
        exact p σ1 H2 S2 (l1.trans l2) em2 k2 (ev1.le l2)
theorem ps_forN {tg iter : Expr} {body : List Stmt} {t : T} {fi : En → Mem → Option (Src × Mem)} (hp : PassesOwn (model X.prog X.w) X.A X.env X.xe) (hc : X.calm = true) (hi : PI X tg iter (tI X.K fi)) (hg : PG X tg (tG X.K t)) (hb : PSs X body (tS X.K X.mg W f))
    (hs : ∀ x, foldedSetIterable iter X.env x = pure x) : PS X (.For tg iter body [] pos) (tS X.K X.mg W fun env M => (fi env M).bind fun r => forS (fun x env M => (evT t (.d x) env).bind fun env1 => f env1 M) r.1 env r.2) :=
  PS.imp (ps_for hp hc hi hg hb hs) fun D σ H ⟨S, env, o, k, ev, e, p⟩ => by
    obtain ⟨⟨src, M1⟩, e1, e2⟩ := Option.bind_eq_some_iff.mp e
    refine ⟨S, env, src, M1, k, ev, e1, fun J H1 S1 l1 em1 k1 wk => ?_⟩
    cases src with
    | dyn c => cases e2
    | fix xs =>
      have e3 : forL (fun x env M => (evT t (.d x) env).bind fun env1 => f env1 M) xs env M1 = some o := e2
      refine ⟨fun i m σ' H' => m = xs.length - i ∧ i ≤ xs.length ∧ ∃ (S' : W3) (env' : En), Le S1 S' ∧ Ok X.K S' H' ∧ EnvOk X.K S' σ' env' ∧ forL (fun x env M => (evT t (.d x) env).bind fun env1 => f env1 M) (xs.drop i) env' S'.M = some o,
        ⟨xs.length, rfl, Nat.zero_le _, S1, env, Le.refl _, k1, ev.le l1, by rw [em1]; exact e3⟩, ?_⟩
      rintro i m σ2 H2 ⟨rfl, hi, S2, env2, l2, k2, ev2, e4⟩
      by_cases hlt : i < xs.length
      · rw [List.drop_eq_getElem_cons hlt] at e4
        obtain ⟨o1, e5, e6⟩ := Option.bind_eq_some_iff.mp (show (((evT t (.d xs[i]) env2).bind fun env1 => f env1 S2.M).bind fun o => match o with
          | .nx env3 M3 => forL (fun x env M => (evT t (.d x) env).bind fun env1 => f env1 M) (xs.drop (i + 1)) env3 M3
          | o => some o) = some o from e4)
        obtain ⟨env3, e7, e8⟩ := Option.bind_eq_some_iff.mp e5
        refine .inr ⟨wk.go i H2 S2 hlt l2 k2, fun σ' H' => ∃ (S' : W3) (env' : En), Le S1 S' ∧ Ok X.K S' H' ∧ EnvOk X.K S' σ' env' ∧ forL (fun x env M => (evT t (.d x) env).bind fun env1 => f env1 M) (xs.drop (i + 1)) env' S'.M = some o,
          fun σ' H' q => ⟨xs.length - (i + 1), by omega, rfl, hlt, q⟩, fun x H' y => ?_⟩
        obtain ⟨S3, l3, em3, k3, px⟩ := wk.yld i H2 x H' S2 xs[i] (List.getElem?_eq_getElem hlt) l2 k2 y
        refine ⟨S3, env2, env3, .d xs[i], k3, ev2.le l3, px, e7, fun σ4 ev4 _ => ⟨S3, env3, o1, k3, ev4, by rw [em3]; exact e8, ?_⟩⟩
        cases o1 with
        | nx env5 M5 => exact fun σ' H' S' l em k' ev' => ⟨S', env5, (l2.trans l3).trans l, k', ev', by rw [em]; exact e6⟩
        | rt w M5 =>
          have e9 : SO.rt w M5 = o := Option.some.inj e6
          subst e9
          exact PostS.le ((l1.trans l2).trans l3) p
        | exc x M5 =>
          have e9 : SO.exc x M5 = o := Option.some.inj e6
          subst e9
          exact PostS.le ((l1.trans l2).trans l3) p
      · have ei : i = xs.length := by omega
        subst ei
        rw [List.drop_length] at e4
        have e5 : SO.nx env2 S2.M = o := Option.some.inj e4
        subst e5
        exact .inl ⟨wk.stop H2 S2 l2 k2, p σ2 H2 S2 (l1.trans l2) rfl k2 ev2⟩

/-! ### lists that change -/
theorem sub_plain {a i : Expr} {p : Pos} {env : Env} (hn : notSlice i = true) : ∀ v, assign (.Subscript a i p) env v = (do
    let ov ← holding [v] (eval a env)
    let iv ← holding [v, ov] (eval i env)
    standAt p
    holding [v, ov, iv] (setItem ov iv v)
    release [v, ov, iv] []) := by
  intro v
  cases i <;> first | rfl | cases hn
theorem ps_setIN {a i v : Expr} {fi fv : En → Mem → Option (Vl × Mem)} {sp : Pos} (hn : notSlice i = true) (hv : PE X v (tV X.K fv)) (ha : PE X a (tV X.K fa)) (hi : PE X i (tV X.K fi)) (hs : swapsWithSole [.Subscript a i sp] v pos.line X.env = pure false) (hw : swappedStores [.Subscript a i sp] v X.env = pure none) :
    PS X (.Assign [.Subscript a i sp] v pos) (tS X.K X.mg W fun env M => (dataV (fv env M)).bind fun r => (fa env r.2).bind fun q => (fi env q.2).bind fun p => (evSet q.1 p.1 r.1 p.2).map fun M1 => .nx env M1) :=
  PS.imp (ps_asg hv (pg_sub ha hi set_list (sub_plain hn)) hs hw rfl) fun D σ H ⟨S, env, o, k, ev, e, p⟩ => by
    obtain ⟨⟨y, M1⟩, e1, e2⟩ := Option.bind_eq_some_iff.mp e
    obtain ⟨⟨b, M2⟩, e3, e4⟩ := Option.bind_eq_some_iff.mp e2
    obtain ⟨⟨j, M3⟩, e5, e6⟩ := Option.bind_eq_some_iff.mp e4
    obtain ⟨M4, e7, e8⟩ := Option.map_eq_some_iff.mp e6
    subst e8
    refine ⟨S, env, .d y, M1, k, ev, dataV_inv e1, fun x H1 S1 l1 em1 k1 r1 => ⟨S1, env, b, M2, k1, ev.le l1, by rw [em1]; exact e3, fun x2 H2 S2 l2 em2 k2 r2 => ⟨S2, env, j, M3, k2, ev.le (l1.trans l2), by rw [em2]; exact e5, fun x3 H3 S3 l3 em3 k3 r3 => ?_⟩⟩⟩
    have r1' := r1.le (l2.trans l3)
    have r2' := r2.le l3
    have e7' : evSet b j y M3 = some M4 := e7
    unfold evSet at e7'
    split at e7'
    · rename_i n kk
      split at e7'
      · rename_i xs q
        obtain ⟨jj, e9, e10⟩ := Option.map_eq_some_iff.mp e7'
        obtain ⟨hn, rfl⟩ : n < S3.M.length ∧ x2 = .ref (S3.ad n) := r2'
        have q' : S3.M[n]? = some (.lst xs) := by rw [em3]; exact q
        obtain ⟨vs, h1, h2, h3⟩ := k3.lst q'
        refine ⟨S3.ad n, vs, kk, jj, rfl, Dp.int_inv r3, h1, by rw [h2.length]; exact e9, ?_⟩
        refine p σ _ ⟨S3.B, S3.ad, S3.M.set n (.lst (xs.set jj y))⟩ (((l1.trans l2).trans l3).trans leSet) (by rw [← e10, ← em3]) ?_ ((ev.le ((l1.trans l2).trans l3)).le leSet)
        exact k3.write q' rfl h3 ⟨h3, vs.set jj x, upd_same, h2.set r1' jj⟩
      · cases e7'
    · cases e7'
/-- a list's own extend by a list whose object may have slots -/
theorem ext_meets (l : Addr) (xs : Array Value) (n : Nat) (b : Addr) (ys : Array Value) (k : Nat) (sl : Array (Option Value)) (h1 : ¬(!xs.isEmpty && Builtin.List.listTooLong (xs.size + ys.size)) = true) (h2 : xs.size ≤ sizeLine) (h3 : xs.size + ys.size ≤ sizeLine + 1) :
    Meets (Builtin.«list.extend» ⟨[.ref l, .ref b], []⟩) (fun _ R s => s.heap.get? l = some { cls := .type "list", data := .seq xs n } ∧ s.heap.get? b = some { cls := .type "list", dict := none, data := .seq ys k, slots := sl } ∧
      R (.ok (.ret .none)) { s with heap := s.heap.update l (Obj.mapSeq (· ++ ys)), toks := s.toks }) := by
  refine .of_wp fun prog w A R s hh => ?_
  obtain ⟨hp, g, d, tk, os⟩ := s
  obtain ⟨q1, q2, q3⟩ := hh
  have t1 := sub_list_list
  have t2 := sub_list_tuple
  have h4 : (xs ++ ys).size ≤ sizeLine + 1 := by rw [Array.size_append]; exact h3
  wp_walk using (wpAny_updateSeq q1 rfl (hz := h2) (_hz' := h4)), wpAny_loadPart' q1, wpAny_loadPart' q2
  exact ⟨_, rfl, q3⟩
def rExtL (K : PySem.W.Frag) : V → List V → Hp → VK → Prop := fun x vs H Q => ∃ l b xs zs, x = .ref l ∧ vs = [.ref b] ∧ H l = some (.lst xs) ∧ SqL K H b zs ∧ xs.length + zs.length ≤ sizeLine ∧ Q .non (upd H l (.lst (xs ++ zs)))
theorem mt_extL : MtM X "list.extend" (rExtL X.K) := fun pins s σ H x vs v us Q I rx rv ⟨l, b, xs, zs, ex, evs, hH, hB, hz, q⟩ => by
  subst ex evs
  cases rx
  obtain ⟨u, hu, ru⟩ := rv.one
  subst hu
  cases ru
  obtain ⟨its2, r2, ⟨⟨c2, d2, da2, s2⟩, n2, e2, hc2, hd2, hx2⟩, _⟩ := I.list hB
  dsimp only at hc2 hd2 hx2
  subst hc2 hd2 hx2
  obtain ⟨_, its, n, r, hl, e⟩ := I.lstM hH
  have hl2 := r2.length
  have hsum : its.toArray.size + its2.toArray.size ≤ sizeLine := by simpa [← hl, ← hl2] using hz
  have hno : ¬ (!its.toArray.isEmpty && Builtin.List.listTooLong (its.toArray.size + its2.toArray.size)) = true := by
    rw [notLongL hsum, Bool.and_false]
    exact Bool.false_ne_true
  refine call_meets F.slot_list_extend ⟨_, e, rfl⟩ F.entry_list_extend (F.args_list_extend_2 _ _) (ext_meets l its.toArray n b its2.toArray n2 s2 hno (by omega) (by omega)) ⟨e, e2, .non, _, I.lset (its' := its ++ its2) hH e (by simp) (r.append r2) (by simpa using hz), rfl, q⟩
/-- a list's method as my evaluator tells it -/
def rMt (K : PySem.W.Frag) (m : Mt) : V → List V → Hp → VK → Prop := fun x vs H Q => ∃ (l : Addr) (zs : List V) (B : Hp) (xs ys : List D) (ws : List Vl) (S : W3), x = .ref l ∧ H l = some (.lst zs) ∧ DpAll K S.B zs xs ∧ L2.Same S.B H ∧ RVs K S vs ws ∧ mtL m ws xs = some ys ∧
  ∀ zs', DpAll K S.B zs' ys → Q .non (upd H l (.lst zs'))
theorem len_line {n : Nat} (h : n < big) : n < sizeLine := by
  have : big ≤ sizeLine := by rw [sizeLine_eq]; decide
  omega
theorem mt_app : MtR X "list.append" (rMt X.K .append) := fun pins s σ H x vs v us Q I rx rv ⟨l, zs, _, xs, ys, ws, S, ex, h1, h2, h3, rs, e, q⟩ => by
  unfold mtL at e
  split at e
  · split at e
    · rename_i hz
      obtain ⟨z, rfl, rz⟩ := RVs.one rs
      have e2 := Option.some.inj e
      subst ex e2
      exact mt_append pins s σ H _ _ v us Q I rx rv ⟨l, zs, z, rfl, rfl, h1, by rw [h2.length]; exact len_line hz, q _ (h2.append (.cons rz .nil))⟩
    · cases e
  all_goals first | (cases e; done) | (rename_i h; cases h)
theorem mtL_ext {ws : List Vl} {xs ys : List D} (e : mtL .extend ws xs = some ys) : ∃ zs, ws = [.d (.list zs)] ∧ xs.length + zs.length ≤ big ∧ ys = xs ++ zs := by
  unfold mtL at e
  split at e
  · rename_i h
    cases h
  · rename_i h
    cases h
  · split at e
    · exact ⟨_, rfl, by assumption, (Option.some.inj e).symm⟩
    · cases e
  · cases e
theorem mtL_ins {ws : List Vl} {xs ys : List D} (e : mtL .insert ws xs = some ys) : ∃ (j : Int) (y : D), ws = [.d (.int j), .d y] ∧ 0 ≤ j ∧ j.toNat ≤ xs.length ∧ xs.length < big ∧ ys = insAt xs j.toNat y := by
  unfold mtL at e
  split at e
  · rename_i h
    cases h
  · split at e
    · rename_i h
      exact ⟨_, _, rfl, h.1, h.2.1, h.2.2, (Option.some.inj e).symm⟩
    · cases e
  · rename_i h
    cases h
  · cases e
theorem mt_ext : MtR X "list.extend" (rMt X.K .extend) := fun pins s σ H x vs v us Q I rx rv ⟨l, zs, _, xs, ys, ws, S, ex, h1, h2, h3, rs, e, q⟩ => by
  obtain ⟨ts, rfl, hz, e2⟩ := mtL_ext e
  obtain ⟨z, rfl, rz⟩ := RVs.one rs
  obtain ⟨b, us2, rfl, s2, d2⟩ := Dp.list_inv rz
  subst ex e2
  exact mt_extL pins s σ H _ _ v us Q I rx rv ⟨l, b, zs, us2, rfl, rfl, h1, Same.seq h3 s2, by rw [h2.length, d2.length]; exact big_line hz, q _ (h2.append d2)⟩
theorem mt_ins : MtR X "list.insert" (rMt X.K .insert) := fun pins s σ H x vs v us Q I rx rv ⟨l, zs, _, xs, ys, ws, S, ex, h1, h2, h3, rs, e, q⟩ => by
  obtain ⟨j, y, rfl, hj, hj2, hz, e2⟩ := mtL_ins e
  obtain ⟨z1, z, rfl, rj, rz⟩ := RVs.two rs
  have ej := Dp.int_inv rj
  subst ex e2 ej
  have hb : big < 2 ^ 63 := by decide
  refine mt_insert pins s σ H _ _ v us Q I rx rv ⟨l, zs, j, z, rfl, rfl, h1, by rw [h2.length]; exact len_line hz, hj, ?_, q _ ?_⟩
  · omega
  · rw [List.append_assoc]
    exact (h2.take _).append (.cons rz (h2.drop _))
theorem mth_rd {K : PySem.W.Frag} {mg : Str → Option Value} {W : WX} {m : Mt} {fs : En → Mem → Option (List Vl × Mem)} {D : Ends} {σ : L2.St} {H : Hp}
    (h : tS K mg W (fun env M => (fa env M).bind fun r => if isCell r.1 r.2 = true then (fs env r.2).bind fun q => (evMt m r.1 q.1 q.2).map fun M1 => .nx env M1 else none) D σ H) :
    tDrop (tBM K "list" (rMt K m) (tV K fa) (tA K fs)) D σ H := by
  obtain ⟨S, env, o, k, ev, e, p⟩ := h
  obtain ⟨⟨a, M1⟩, e1, e2⟩ := Option.bind_eq_some_iff.mp e
  have e2' : (if isCell a M1 = true then (fs env M1).bind fun q => (evMt m a q.1 q.2).map fun M1 => SO.nx env M1 else none) = some o := e2
  split at e2'
  · rename_i hc
    obtain ⟨⟨ws, M2⟩, e3, e4⟩ := Option.bind_eq_some_iff.mp e2'
    obtain ⟨M3, e5, e6⟩ := Option.map_eq_some_iff.mp e4
    subst e6
    rcases a with a | n
    · cases hc
    refine ⟨S, env, .m n, M1, k, ev, e1, fun x H1 S1 l1 em1 k1 r1 => ⟨?_, S1, env, ws, M2, k1, ev.le l1, by rw [em1]; exact e3, fun vs H2 S2 l2 em2 k2 r2 => ?_⟩⟩
    · unfold isCell at hc
      dsimp only at hc
      split at hc
      · rename_i xs q1
        obtain ⟨hn, rfl⟩ : n < S1.M.length ∧ x = .ref (S1.ad n) := r1
        obtain ⟨zs, h1, _, _⟩ := k1.lst (by rw [em1]; exact q1)
        exact .inl ⟨rfl, zs, .inl (.inl h1)⟩
      · cases hc
    · have e5' : (match M2[n]? with
        | some (.lst xs) => (mtL m ws xs).map fun ys => M2.set n (.lst ys)
        | _ => none) = some M3 := e5
      split at e5'
      · rename_i xs q1
        obtain ⟨ys, e7, e8⟩ := Option.map_eq_some_iff.mp e5'
        obtain ⟨hn, ex⟩ : n < S2.M.length ∧ x = .ref (S2.ad n) := r1.le l2
        subst ex
        have q2 : S2.M[n]? = some (.lst xs) := by rw [em2]; exact q1
        obtain ⟨zs, h1, h2, h3⟩ := k2.lst q2
        refine ⟨S2.ad n, zs, S2.B, xs, ys, ws, S2, rfl, h1, h2, k2.same, r2, e7, fun zs' h4 => ?_⟩
        refine p σ _ ⟨S2.B, S2.ad, S2.M.set n (.lst ys)⟩ ((l1.trans l2).trans leSet) (by rw [← e8, ← em2]) ?_ ((ev.le (l1.trans l2)).le leSet)
        exact k2.write q2 rfl h3 ⟨h3, _, upd_same, h4⟩
      · cases e5'
  · cases e2'
theorem ps_mth1 {m : Mt} {name : Str} {id : String} {o : Expr} {e : Expr} {apos cpos : Pos} {fs : En → Mem → Option (List Vl × Mem)} (slot : PySem.Slot "list" name id) (hty : typeOf (.builtin id) = pure (.type "method_descriptor")) (hm : MtR X id (rMt X.K m)) (ho : PE X o (tV X.K fa)) (hb : baseOk o = true) (ha : PA X [e] (tA X.K fs))
    (hl : (apos.endLine == cpos.line) = true) (hs : notStar e = true) :
    PS X (.Expr (.Call (.Attribute o name apos) [e] [] cpos) pos) (tS X.K X.mg W fun env M => (fa env M).bind fun r => if isCell r.1 r.2 = true then (fs env r.2).bind fun q => (evMt m r.1 q.1 q.2).map fun M1 => .nx env M1 else none) :=
  PS.imp (ps_expr (pe_bm PySem.F.plainAttrs_list slot hty hm ho ha (baseOk_ok hb) (few1 hs) hl (star_cons hs) rfl) rfl) fun D σ H h => mth_rd h
theorem ps_mth2 {m : Mt} {name : Str} {id : String} {o : Expr} {e e2 : Expr} {apos cpos : Pos} {fs : En → Mem → Option (List Vl × Mem)} (slot : PySem.Slot "list" name id) (hty : typeOf (.builtin id) = pure (.type "method_descriptor")) (hm : MtR X id (rMt X.K m)) (ho : PE X o (tV X.K fa)) (hb : baseOk o = true) (ha : PA X [e, e2] (tA X.K fs))
    (hl : (apos.endLine == cpos.line) = true) (hs : notStar e = true) (hs2 : notStar e2 = true) :
    PS X (.Expr (.Call (.Attribute o name apos) [e, e2] [] cpos) pos) (tS X.K X.mg W fun env M => (fa env M).bind fun r => if isCell r.1 r.2 = true then (fs env r.2).bind fun q => (evMt m r.1 q.1 q.2).map fun M1 => .nx env M1 else none) :=
  PS.imp (ps_expr (pe_bm PySem.F.plainAttrs_list slot hty hm ho ha (baseOk_ok hb) (few2 hs hs2) hl (star_cons hs) (by rw [star_cons hs2]; rfl)) rfl) fun D σ H h => mth_rd h

/-! ### names stored together -/
theorem par2_rd {K : PySem.W.Frag} {mg : Str → Option Value} {W : WX} {i j : Nat} {fs : En → Mem → Option (List Vl × Mem)} {D : Ends} {σ : L2.St} {H : Hp}
    (h : tS K mg W (fun env M => (fs env M).bind fun r => (evPar [i, j] r.1 env).map fun env1 => .nx env1 r.2) D σ H) : tPar i j (tA K fs) D σ H :=
  tS.args (g := fun ws env M => (evPar [i, j] ws env).map fun env1 => .nx env1 M) h fun S xs H' ws env o k ev r e p => by
    obtain ⟨env1, e1, e2⟩ := Option.map_eq_some_iff.mp e
    subst e2
    cases r with
    | nil => cases e1
    | cons r1 r =>
      cases r with
      | nil => cases e1
      | cons r2 r =>
        cases r with
        | nil =>
          have e3 := Option.some.inj e1
          subst e3
          exact ⟨_, _, rfl, p _ H' S (Le.refl _) rfl k ((ev.set r1).set r2)⟩
        | cons _ _ => cases e1
theorem par3_rd {K : PySem.W.Frag} {mg : Str → Option Value} {W : WX} {i j l : Nat} {fs : En → Mem → Option (List Vl × Mem)} {D : Ends} {σ : L2.St} {H : Hp}
    (h : tS K mg W (fun env M => (fs env M).bind fun r => (evPar [i, j, l] r.1 env).map fun env1 => .nx env1 r.2) D σ H) : tPar3 i j l (tA K fs) D σ H :=
  tS.args (g := fun ws env M => (evPar [i, j, l] ws env).map fun env1 => .nx env1 M) h fun S xs H' ws env o k ev r e p => by
    obtain ⟨env1, e1, e2⟩ := Option.map_eq_some_iff.mp e
    subst e2
    cases r with
    | nil => cases e1
    | cons r1 r =>
      cases r with
      | nil => cases e1
      | cons r2 r =>
        cases r with
        | nil => cases e1
        | cons r3 r =>
          cases r with
          | nil =>
            have e3 := Option.some.inj e1
            subst e3
            exact ⟨_, _, _, rfl, p _ H' S (Le.refl _) rfl k (((ev.set r1).set r2).set r3)⟩
          | cons _ _ => cases e1

/-! ### calls that may let an exception out -/
theorem callS_rd {K : PySem.W.Frag} {mg : Str → Option Value} {W : WX} {cs : List Fn} {k : Nat} {F : Fn} {fs : En → Mem → Option (List Vl × Mem)} {g : Out → En → Mem → Option SO} {D : Ends} {σ : L2.St} {H : Hp} {R : V → Hp → Prop} (hk : cs[k]? = some F) (hg : ∀ x env M, g (.exc x) env M = some (.exc x M))
    (h : tS K mg W (fun env M => (fs env M).bind fun r => (callX cs k r.1 r.2).bind fun q => g q.1 env q.2) D σ H)
    (hR : ∀ (S : W3) (x : V) (H' : Hp) (a : Vl) (env : En) (o : SO), Ok K S H' → EnvOk K S σ env → RV K S x a → g (.ret a) env S.M = some o → PostS K mg W S o D → R x H') :
    tCallS (spF K mg F) (WE W) (tA K fs) σ H R := by
  obtain ⟨S, env, o, kk, ev, e, p⟩ := h
  obtain ⟨⟨ws, M1⟩, e1, e2⟩ := Option.bind_eq_some_iff.mp e
  obtain ⟨⟨q, M2⟩, e3, e4⟩ := Option.bind_eq_some_iff.mp e2
  refine ⟨S, env, ws, M1, kk, ev, e1, fun vs H1 S1 l1 em1 k1 r1 => ?_⟩
  unfold callX at e3
  rw [hk] at e3
  dsimp only at e3
  split at e3
  · rename_i hl
    refine ⟨by rw [Paired.length r1]; exact hl, S1, ws, q, M2, k1, r1, by rw [em1]; exact e3, ?_⟩
    cases q with
    | ret w => exact fun H' S' l' em' k' v r' => hR S' v H' w env o k' (ev.le (l1.trans l')) r' (by rw [em']; exact e4) (p.le (l1.trans l'))
    | exc x =>
      have e5 := Option.some.inj ((hg x env M2).symm.trans e4)
      subst e5
      exact fun H' S' l' em' k' C hC => p C σ H' S' (l1.trans l') em' k' hC
  · cases e3
theorem pe_callX {x : String} {F : Fn} {lvl : Nat} {es : List Expr} {p : Pos} {ta : TA} (tk : Takes X W) (hf : HasFn X.prog X.w X.K X.mg X.base lvl x F) (hr : Room lvl X.A) (hg : Gl X (Str.ofString x)) (hs : (e :: es).all notStar = true) (h : PA X (e :: es) ta) (hdb : (Str.ofString x == ("__debug__" : Str)) = false) :
    PE X (.Call (.Name (Str.ofString x) p) (e :: es) [] pos) (tCallS (spF X.K X.mg F) (WE W) ta) := by
  obtain ⟨f, fd, ps, h1, h2, h3, h4⟩ := hf
  rw [List.all_cons] at hs
  obtain ⟨hs1, hs2⟩ := Bool.and_eq_true_iff.mp hs
  exact pe_callS h4 hr hg h1 h2 h3 (passAt tk) h hdb (star_cons hs1) (star_plain hs2)
theorem ps_callSN {cs : List Fn} {k : Nat} {F : Fn} {fs : En → Mem → Option (List Vl × Mem)} (hk : cs[k]? = some F) (he : PE X e (tCallS (spF X.K X.mg F) (WE W) (tA X.K fs))) (hs : swapsWith e none pos.line X.env = pure false) :
    PS X (.Expr e pos) (tS X.K X.mg W fun env M => (fs env M).bind fun r => (callX cs k r.1 r.2).map fun q => dropOf env q.1 q.2) :=
  PS.imp (ps_expr he hs) fun D σ H h => callS_rd (g := fun q env M => some (dropOf env q M)) hk (fun _ _ _ => rfl) (by simpa only [Option.map_eq_bind, Function.comp_def] using h) fun S x H' a env o k ev r e p => by
    have e1 := Option.some.inj e
    subst e1
    exact p σ H' S (Le.refl _) rfl k ev
theorem ps_retCN {cs : List Fn} {k : Nat} {F : Fn} {fs : En → Mem → Option (List Vl × Mem)} (hk : cs[k]? = some F) (he : PE X e (tCallS (spF X.K X.mg F) (WE W) (tA X.K fs))) :
    PS X (.Return (some e) pos) (tS X.K X.mg W fun env M => (fs env M).bind fun r => (callX cs k r.1 r.2).map fun q => retOf q.1 q.2) :=
  PS.imp (ps_ret he) fun D σ H h => callS_rd (g := fun q env M => some (retOf q M)) hk (fun _ _ _ => rfl) (by simpa only [Option.map_eq_bind, Function.comp_def] using h) fun S x H' a env o k ev r e p => by
    have e1 := Option.some.inj e
    subst e1
    exact p x H' S (Le.refl _) rfl k r
theorem ps_asgCN {cs : List Fn} {k : Nat} {F : Fn} {fs : En → Mem → Option (List Vl × Mem)} {tg : Expr} {t : T} (hk : cs[k]? = some F) (he : PE X e (tCallS (spF X.K X.mg F) (WE W) (tA X.K fs))) (hg : PG X tg (tG X.K t)) (hs : swapsWithSole [tg] e pos.line X.env = pure false) (hw : swappedStores [tg] e X.env = pure none) (hn : notStar tg = true) :
    PS X (.Assign [tg] e pos) (tS X.K X.mg W fun env M => (fs env M).bind fun r => (callX cs k r.1 r.2).bind fun q => asgOf t env q.1 q.2) :=
  PS.imp (ps_asg he hg hs hw (by rw [assign_cons hn]; rfl)) fun D σ H h => callS_rd (g := fun q env M => asgOf t env q M) hk (fun _ _ _ => rfl) h fun S x H' a env o k ev r e p => by
    obtain ⟨env1, e1, e2⟩ := Option.map_eq_some_iff.mp (show ((evT t a env).map fun env1 => SO.nx env1 S.M) = some o from e)
    subst e2
    exact ⟨S, env, env1, a, k, ev, r, e1, fun σ' ev' _ => p σ' H' S (Le.refl _) rfl k ev'⟩
theorem ps_setCN {cs : List Fn} {k : Nat} {F : Fn} {fs : En → Mem → Option (List Vl × Mem)} {i : Nat} {x : Str} {p' : Pos} (hN : X.N.Nodup) (hi : X.N[i]? = some x) (hx : L2.Loc X.env.scope x) (hf : X.fn x = true ∨ X.env.scope.names.lookup x = some .local) (hk : cs[k]? = some F) (he : PE X e (tCallS (spF X.K X.mg F) (WE W) (tA X.K fs))) (hs : swapsWith e (some (.Name x p')) pos.line X.env = pure false) :
    PS X (.Assign [.Name x p'] e pos) (tS X.K X.mg W fun env M => (fs env M).bind fun r => (callX cs k r.1 r.2).bind fun q => asgOf (.name i) env q.1 q.2) :=
  PS.imp (ps_set hN hi hx he hs hf) fun D σ H h => callS_rd (g := fun q env M => asgOf (.name i) env q M) hk (fun _ _ _ => rfl) h fun S x H' a env o k ev r e p => by
    obtain ⟨env1, e1, e2⟩ := Option.map_eq_some_iff.mp (show ((evT (.name i) a env).map fun env1 => SO.nx env1 S.M) = some o from e)
    subst e2
    have e3 : env.set i (some a) = env1 := Option.some.inj (by simpa only [evT] using e1)
    subst e3
    exact p _ H' S (Le.refl _) rfl k (ev.set r)
theorem ps_raiseN {x m : Str} {xs : String} {j : Nat} {p p2 p3 : Pos} (hc : X.calm = true) (tk : Takes X W) (hx : x = Str.ofString xs) (hg : Gl X x) (hdb : (x == ("__debug__" : Str)) = false)
    (ha : ∃ (C : Addr) (bmB : List Value) (B newId initId : String), X.mg (Str.ofString xs) = some (.ref C) ∧ PySem.ExcBaseFacts B newId initId bmB ∧ PySem.W.excIn X.K C bmB newId = true ∧ PySem.W.keepIn X.K (.ref C) = true ∧
      PySem.W.subIn X.K (.ref C) (.type "BaseException") = some true ∧ PySem.W.typeIn X.K (.ref C) = some (.type "type")) :
    PS X (.Raise (some (.Call (.Name x p) [.Constant (.str m) j p2] [] p3)) none pos) (tS X.K X.mg W fun _ M => some (.exc xs M)) := by
  obtain ⟨C, bmB, B, newId, initId, h1, h2, h3, h4, h5, h6⟩ := ha
  subst hx
  exact PS.imp (ps_raise hc tk (pmk_own h2 h3 h1 h4 (raises_own h5 h6) hg hdb)) fun D σ H ⟨S, env, o, k, ev, e, p⟩ => by
    have e1 := Option.some.inj e
    subst e1
    exact p C σ H S (Le.refl _) rfl k h1
end
end NW

set_option Elab.async false
set_option linter.all false
set_option maxRecDepth 100000
set_option maxHeartbeats 4000000
/-! Statements and defs: the check, and that what passes it does what the term says. -/
namespace NW
open PySem PySem.Spec PyProof.Rows L2

/-- is the comprehension's list stored from within -/
def swB (sc : Scope) (v : Expr) (tg : Option Expr) : Option Bool := match v with
  | .ListComp _ _ s p => (match tg with
    | some (.Name t q) => some ((sc.names.lookup t == some .local) && ((q.line == p.line) && !(s.names.any fun (n, k) => n == t && (k == .local || k == .cell))))
    | some _ => some false
    | none => none)
  | .SetComp .. => none
  | .DictComp .. => none
  | _ => some false
theorem swB_no {sc : Scope} {v : Expr} {tg : Option Expr} {l : Nat} {env : Env} (h : swB sc v tg = some false) (hs : env.scope = sc) (hk : sc.kind = .function) : swapsWith v tg l env = pure false := by
  cases v <;> first | rfl | (cases h; done) | skip
  rename_i elt gs s p
  cases tg with
  | none => cases h
  | some t =>
    cases t <;> first | rfl | skip
    rename_i id pos
    have hb : env.blockKind = .function := by unfold Env.blockKind; rw [hs, hk]; rfl
    have e1 := Option.some.inj h
    unfold swapsWith
    simp only [hb]
    have e2 : (env.kindOf id == some .local) = (sc.names.lookup id == some .local) := by rw [← hs]; rfl
    simp only [Expr.pos, e2, ← Bool.and_assoc] at e1 ⊢
    simp [e1]
theorem swB_yes {sc : Scope} {elt : Expr} {gs : List Comprehension} {s : Scope} {p q : Pos} {t : Str} {l : Nat} {env : Env} (h : swB sc (.ListComp elt gs s p) (some (.Name t q)) = some true) (hs : env.scope = sc) (hk : sc.kind = .function) :
    swapsWith (.ListComp elt gs s p) (some (.Name t q)) l env = pure true ∧ env.scope.names.lookup t = some .local := by
  obtain ⟨h1, h2⟩ := and2 (Option.some.inj h)
  obtain ⟨h2, h3⟩ := and2 h2
  have h1' : sc.names.lookup t = some .local := by simpa using h1
  refine ⟨sw_true (by rw [hs, hk]) (by rw [hs]; exact h1') h2 (by simpa using h3), by rw [hs]; exact h1'⟩
def cst8 : Expr → Bool := foldedForSure 8
def lineOf : List Expr → Nat
  | t :: _ => t.pos.line
  | [] => 0
def nameAt (sc : Scope) (l : Nat) : Expr → Option Str
  | .Name id pos => if sc.names.lookup id == some .local && pos.line == l then some id else none
  | _ => none
theorem any_off {f : Expr → Bool} {vs : List Expr} (h : vs.all notStar = true) (hf : ∀ v, notStar v = true → f v = false) : vs.any f = false :=
  List.any_eq_false.mpr fun v hv => by rw [hf v (List.all_eq_true.mp h v hv)]; exact Bool.false_ne_true
theorem fm_same {f : Expr → Option Str} {g : Expr → Option Str} {ts : List Expr} (h : ∀ t, f t = g t) : ts.filterMap f = ts.filterMap g := by rw [funext h]
/-- no names stored in another order -/
def swN (sc : Scope) (tg v : Expr) : Bool := match tg, v with
  | .Tuple ts _ _, .Tuple vs _ _ => vs.all notStar && (vs.all cst8 || (ts.filterMap (nameAt sc (lineOf ts))).length != ts.length)
  | .List _ _, _ => false
  | _, _ => true
theorem swN_ok {sc : Scope} {tg v : Expr} {env : Env} (h : swN sc tg v = true) (hs : env.scope = sc) : swappedStores [tg] v env = pure none := by
  by_cases h0 : (∃ ts k p vs k2 p2, tg = .Tuple ts k p ∧ v = .Tuple vs k2 p2)
  · obtain ⟨ts, k, p, vs, k2, p2, rfl, rfl⟩ := h0
    obtain ⟨h1, h2⟩ := and2 (show (vs.all notStar && (vs.all cst8 || (ts.filterMap (nameAt sc (lineOf ts))).length != ts.length)) = true from h)
    have e2 : (ts.head?.map (·.pos.line)).getD 0 = lineOf ts := by cases ts <;> rfl
    unfold swappedStores
    dsimp only
    rw [e2, any_off h1 (by intro v hv; cases v <;> first | rfl | cases hv), fm_same (g := nameAt sc (lineOf ts)) (by intro t; cases t <;> first | rfl | (subst hs; rfl))]
    rcases Bool.or_eq_true_iff.mp h2 with h3 | h3
    · have h3' : vs.all (foldedForSure 8) = true := h3
      simp only [h3', if_true]
      split
      · rfl
      · simp
    · rw [h3]
      split
      · rfl
      · rfl
  · cases tg <;> first | (cases v <;> rfl) | (cases h; done) | (cases v <;> first | rfl | exact absurd ⟨_, _, _, _, _, _, rfl, rfl⟩ h0)
/-- the names of a, b = .. stored from the right -/
def swL (sc : Scope) (ts vs : List Expr) : Option (List Str) :=
  if (ts.length == 2 || ts.length == 3) && (vs.length == ts.length && (vs.all notStar && (!vs.all (foldedForSure 8) && !vs.all (constantsAlone 8)))) then
    (let ns := ts.filterMap (nameAt sc (lineOf ts))
     if ns.length == ts.length && ns.eraseDups.length == ns.length then some ns else none) else none
theorem swL_ok {sc : Scope} {ts vs : List Expr} {ns : List Str} {k k2 : Nat} {p p2 : Pos} {env : Env} (h : swL sc ts vs = some ns) (hs : env.scope = sc) (hk : sc.kind = .function) : swappedStores [.Tuple ts k p] (.Tuple vs k2 p2) env = pure (some ns) := by
  have hb : env.blockKind = .function := by unfold Env.blockKind; rw [hs, hk]; rfl
  unfold swL at h
  split at h
  · rename_i h1
    obtain ⟨a1, h1⟩ := and2 h1
    obtain ⟨a2, h1⟩ := and2 h1
    obtain ⟨a3, h1⟩ := and2 h1
    obtain ⟨a4, a5⟩ := and2 h1
    dsimp only at h
    split at h
    · rename_i h2
      obtain ⟨b1, b2⟩ := and2 h2
      have e1 := Option.some.inj h
      have e2 : (ts.head?.map (·.pos.line)).getD 0 = lineOf ts := by cases ts <;> rfl
      have a4' : vs.all (foldedForSure 8) = false := by simpa using a4
      have a5' : vs.all (constantsAlone 8) = false := by simpa using a5
      have c3 : (vs.length != ts.length) = false := by simpa using a2
      have c1 : (ns.length != ts.length) = false := by rw [← e1]; simpa using b1
      have c2 : (ns.eraseDups.length != ns.length) = false := by rw [← e1]; simpa using b2
      have c4 : (!(ts.length == 2 || ts.length == 3)) = false := by rw [a1]; rfl
      have c5 : (env.blockKind != .function) = false := by rw [hb]; rfl
      unfold swappedStores
      dsimp only
      rw [c4, c3, c5, e2, any_off a3 (by intro v hv; cases v <;> first | rfl | cases hv), fm_same (g := nameAt sc (lineOf ts)) (by intro t; cases t <;> first | rfl | (subst hs; rfl)), e1, c1, c2, a4', a5']
      rfl
    · cases h
  · cases h
/-- names in slots -/
def idsB (N : List Str) : List Nat → List Str → Bool
  | [], [] => true
  | i :: is, x :: xs => decide (N[i]? = some x) && idsB N is xs
  | _, _ => false
def isDoc : Expr → Bool
  | .Constant (.str _) _ _ => true
  | _ => false
def notName : Expr → Bool
  | .Name .. => false
  | _ => true
def mtId : Mt → String
  | .append => "list.append"
  | .insert => "list.insert"
  | .extend => "list.extend"
def callB (c : Ck) (sc : Scope) (fb : Option Scope) (k : Nat) (es : Es) : Expr → Bool
  | .Call (.Name x _) (y :: ys) [] _ => (match c.cn[k]? with
      | some s => decide (x = Str.ofString s)
      | none => false) && (glB sc x && ((y :: ys).all notStar && chkEs c sc fb es (y :: ys)))
  | _ => false
def tgB (c : Ck) (sc : Scope) (fb : Option Scope) (t : T) (tg : Expr) : Bool := match tg with
  | .Name x _ => (match t with
    | .name i => decide (c.N[i]? = some x) && locB sc fb x
    | _ => false)
  | _ => notStar tg && chkT c sc fb t tg
def isComp : E → Bool
  | .comp .. => true
  | _ => false
mutual
def chkS (c : Ck) (sc : Scope) (fb : Option Scope) : S → Stmt → Bool
  | .asg t e, st => (match st with
    | .Assign [tg] v _ => tgB c sc fb t tg && (chkE c sc fb e v && (swN sc tg v && (match swB sc v (some tg) with
      | some false => true
      | some true => isComp e && !notName tg
      | none => false)))
    | _ => false)
  | .par is es, st => (match st with
    | .Assign [.Tuple ts _ _] (.Tuple vs _ _) _ => (match swL sc ts vs with
      | some ns => decide is.Nodup && (idsB c.N is ns && (ns.all (fun x => sc.names.lookup x == some .local) && ((ts.map fun t => nameAt sc (lineOf ts) t) == ns.map some && chkEs c sc fb es vs)))
      | none => false)
    | _ => false)
  | .parC ts es, st => (match st with
    | .Assign [.Tuple xs k p] (.Tuple vs k2 p2) _ => swN sc (.Tuple xs k p) (.Tuple vs k2 p2) && (xs.all notStar && (decide (xs.length = ts.length) && (decide (xs.length ≤ 1000) && (chkTs c sc fb ts xs && chkEs c sc fb es vs))))
    | _ => false)
  | .setI a i e, st => (match st with
    | .Assign [.Subscript x y p] v _ => notSlice y && ((swB sc v (some (.Subscript x y p)) == some false) && (chkE c sc fb a x && (chkE c sc fb i y && chkE c sc fb e v)))
    | _ => false)
  | .mth m a es, st => (match st with
    | .Expr (.Call (.Attribute o name q) vs [] r) _ => (q.endLine == r.line) && (baseOk o && (chkE c sc fb a o && (vs.all notStar && (chkEs c sc fb es vs && (match m with
      | .append => decide (name = Str.ofString "append") && vs.length == 1
      | .insert => decide (name = Str.ofString "insert") && vs.length == 2
      | .extend => decide (name = Str.ofString "extend") && vs.length == 1)))))
    | _ => false)
  | .ex e, st => (match st with
    | .Expr v _ => (swB sc v none == some false) && chkE c sc fb e v
    | _ => false)
  | .callS k es, st => (match st with
    | .Expr v _ => (swB sc v none == some false) && callB c sc fb k es v
    | _ => false)
  | .ife d a b, st => (match st with
    | .If x y z _ => tstOk d && (chkE c sc fb d x && (chkSs c sc fb a y && chkSs c sc fb b z))
    | _ => false)
  | .for t it b, st => (match st with
    | .For tg iter body [] _ => notSet iter && (chkI c sc fb it tg iter && (chkT c sc fb t tg && chkSs c sc fb b body))
    | _ => false)
  | .whil _ d b, st => (match st with
    | .While x body [] _ => tstOk d && (chkE c sc fb d x && chkSs c sc fb b body)
    | _ => false)
  | .ret e, st => (match st with
    | .Return (some v) _ => chkE c sc fb e v
    | _ => false)
  | .retC k es, st => (match st with
    | .Return (some v) _ => callB c sc fb k es v
    | _ => false)
  | .asgC t k es, st => (match st with
    | .Assign [tg] v _ => tgB c sc fb t tg && (callB c sc fb k es v && (swN sc tg v && (swB sc v (some tg) == some false)))
    | _ => false)
  | .raise x, st => (match st with
    | .Raise (some (.Call (.Name y _) [.Constant (.str _) _ _] [] _)) none _ => decide (y = Str.ofString x) && (glB sc y && c.xc.contains x)
    | _ => false)
def chkSs (c : Ck) (sc : Scope) (fb : Option Scope) : Ss → List Stmt → Bool
  | .nil, ss => ss.isEmpty
  | .cons s ss, xs => (match xs with
    | x :: r => chkS c sc fb s x && chkSs c sc fb ss r
    | [] => false)
end
end NW

set_option Elab.async false
set_option linter.all false
set_option maxRecDepth 100000
set_option maxHeartbeats 4000000
/-! Statements that pass the check do what their term says. -/
namespace NW
open PySem PySem.Spec PyProof.Rows L2

section
variable {X : Cx} {c : Ck} {cs : List Fn} {lvl : Nat} {sc : Scope} {fb : Option Scope} {W : WX}
theorem tgB_name {t : T} {x : Str} {p : Pos} (A : Amb X c cs lvl sc fb) (h : tgB c sc fb t (.Name x p) = true) : ∃ i, t = .name i ∧ X.N[i]? = some x ∧ L2.Loc X.env.scope x ∧ (X.fn x = true ∨ X.env.scope.names.lookup x = some .local) := by
  unfold tgB at h
  dsimp only at h
  split at h
  · rename_i i
    obtain ⟨h1, h2⟩ := and2 h
    exact ⟨i, rfl, by rw [A.N]; exact of_decide_eq_true h1, A.loc h2⟩
  · cases h
theorem tgB_other {t : T} {tg : Expr} (A : Amb X c cs lvl sc fb) (hn : notName tg = true) (h : tgB c sc fb t tg = true) : notStar tg = true ∧ PG X tg (tG X.K t) := by
  unfold tgB at h
  split at h
  · cases hn
  · obtain ⟨h1, h2⟩ := and2 h
    exact ⟨h1, sndT t X sc fb tg A h2⟩
theorem callB_ok {k : Nat} {es : Es} {v : Expr} (A : Amb X c cs lvl sc fb) (tk : Takes X W) (h : callB c sc fb k es v = true) : ∃ F, cs[k]? = some F ∧ PE X v (tCallS (spF X.K X.mg F) (WE W) (tA X.K (evEs cs es))) := by
  unfold callB at h
  split at h
  · rename_i x p y ys q
    obtain ⟨h1, h2⟩ := and2 h
    obtain ⟨h2, h3⟩ := and2 h2
    obtain ⟨h3, h4⟩ := and2 h3
    split at h1
    · rename_i s hs
      have ex := of_decide_eq_true h1
      subst ex
      have hk : k < cs.length := by rw [← A.g.has]; exact (List.getElem?_eq_some_iff.mp hs).1
      refine ⟨cs[k], List.getElem?_eq_getElem hk, ?_⟩
      obtain ⟨g1, g2⟩ := A.gl h2
      exact pe_callX tk (A.g.fn k s _ hs (List.getElem?_eq_getElem hk)) (A.room.mono (Nat.le_succ _)) g1 h3 (sndEs es X sc fb _ A h4) g2
    · cases h1
  · cases h
theorem beqO {a : Option Bool} {b : Bool} (h : (a == some b) = true) : a = some b := by simpa using h
theorem ps_asgAll {t : T} {tg : Expr} {fe : En → Mem → Option (Vl × Mem)} {v : Expr} {pos : Pos} (A : Amb X c cs lvl sc fb) (hk : sc.kind = .function) (ht : tgB c sc fb t tg = true) (he : PE X v (tV X.K fe)) (hw : swN sc tg v = true) (hs : swB sc v (some tg) = some false) :
    PS X (.Assign [tg] v pos) (tS X.K X.mg W fun env M => (fe env M).bind fun r => (evT t r.1 env).map fun env1 => .nx env1 r.2) := by
  cases hn : notName tg with
  | true =>
    obtain ⟨h1, h2⟩ := tgB_other A hn ht
    exact ps_asgN he h2 (swB_no hs A.sc hk) (swN_ok hw A.sc) h1
  | false =>
    cases tg <;> first | (cases hn; done) | skip
    obtain ⟨i, rfl, h1, h2, h3⟩ := tgB_name A ht
    exact ps_setN (by rw [A.N]; exact A.nd) h1 h2 h3 he (swB_no hs A.sc hk)
theorem ps_asgCAll {t : T} {tg : Expr} {k : Nat} {F : Fn} {fs : En → Mem → Option (List Vl × Mem)} {v : Expr} {pos : Pos} (A : Amb X c cs lvl sc fb) (hk : sc.kind = .function) (ht : tgB c sc fb t tg = true) (hF : cs[k]? = some F) (he : PE X v (tCallS (spF X.K X.mg F) (WE W) (tA X.K fs))) (hw : swN sc tg v = true) (hs : swB sc v (some tg) = some false) :
    PS X (.Assign [tg] v pos) (tS X.K X.mg W fun env M => (fs env M).bind fun r => (callX cs k r.1 r.2).bind fun q => asgOf t env q.1 q.2) := by
  cases hn : notName tg with
  | true =>
    obtain ⟨h1, h2⟩ := tgB_other A hn ht
    exact ps_asgCN hF he h2 (swB_no hs A.sc hk) (swN_ok hw A.sc) h1
  | false =>
    cases tg <;> first | (cases hn; done) | skip
    obtain ⟨i, rfl, h1, h2, h3⟩ := tgB_name A ht
    exact ps_setCN (by rw [A.N]; exact A.nd) h1 h2 h3 hF he (swB_no hs A.sc hk)
theorem chk_comp {mu : Bool} {own : List (String × Nat)} {t : T} {it : It} {d : Eo} {e : E} {elt : Expr} {gs : List Comprehension} {scope : Scope} {p : Pos} (h : chkE c sc fb (.comp mu own t it d e) (.ListComp elt gs scope p) = true) :
    ∃ tg iter ifs, gs = [⟨tg, iter, ifs, 0⟩] ∧ blkC c.N sc scope (own.map fun p => (Str.ofString p.1, p.2)) = true ∧ (tvT t).all (fun i => (own.map (·.2)).contains i) = true ∧ notSet iter = true ∧ chkI c sc fb it tg iter = true ∧
      chkT c (relS scope sc) (some scope) t tg = true ∧ chkC c (relS scope sc) (some scope) d ifs = true ∧ chkE c (relS scope sc) (some scope) e elt = true := by
  unfold chkE at h
  split at h
  · rename_i q
    cases q
    obtain ⟨h1, h2⟩ := and2 h
    obtain ⟨h2, h3⟩ := and2 h2
    obtain ⟨h3, h4⟩ := and2 h3
    obtain ⟨h4, h5⟩ := and2 h4
    obtain ⟨h5, h6⟩ := and2 h5
    obtain ⟨h6, h7⟩ := and2 h6
    obtain ⟨h7, h8⟩ := and2 h7
    have e1 := of_decide_eq_true h1
    subst e1
    exact ⟨_, _, _, rfl, h2, h3, h4, h5, h6, h7, h8⟩
  · cases h
theorem ps_asgComp {t : T} {e : E} {tg v : Expr} {pos : Pos} (A : Amb X c cs lvl sc fb) (hk : sc.kind = .function) (hc : isComp e = true) (hn : notName tg = false) (ht : tgB c sc fb t tg = true) (he : chkE c sc fb e v = true) (hs : swB sc v (some tg) = some true) :
    PS X (.Assign [tg] v pos) (tS X.K X.mg W fun env M => (evE cs e env M).bind fun r => (evT t r.1 env).map fun env1 => .nx env1 r.2) := by
  cases tg <;> first | (cases hn; done) | skip
  obtain ⟨i, rfl, h1, h2, h3⟩ := tgB_name A ht
  cases e <;> first | (cases hc; done) | skip
  cases v <;> first | (cases hs; done) | skip
  rename_i x p mu own t it d e elt gs scope q
  obtain ⟨hsw, hloc⟩ := swB_yes (l := pos.line) hs A.sc hk
  obtain ⟨tg, iter, ifs, rfl, g1, g2, g3, g4, g5, g6, g7⟩ := chk_comp he
  refine PS.imp (ps_setLc (own := own.map fun p => (Str.ofString p.1, p.2)) (g := tG X.K t) (tt := tT X.K (evC cs d)) (te := tV X.K (evE cs e)) A.calm (by rw [A.N]; exact A.nd) h1 hloc hsw (sndI it X sc fb _ _ A g4) (by rw [A.N, A.sc]; exact blkOk_by g1)
    (fun s H C cl fp => sndT t _ _ _ _ (A.blk s H _ C cl fp) g5) (fun s H C cl fp => sndC d _ _ _ _ (A.blk s H _ C cl fp) g6) (fun s H C cl fp => (sndE e _ _ _ _ (A.blk s H _ C cl fp) g7).pe) (folded_of g3)) fun D σ H h => ?_
  have q := asgI_rd h
  have eo : (own.map fun p => (Str.ofString p.1, p.2)).map (·.2) = own.map (·.2) := by rw [List.map_map]; rfl
  show tLc _ _ _ _ _ σ H _
  rw [eo]
  refine lc_rd (mu := mu) (fun i hi => ?_) ?_
  · have := List.all_eq_true.mp g2 i hi
    simpa using this
  · simp only [evE] at q
    exact q
theorem names_of {sc : Scope} {l : Nat} : ∀ {ts : List Expr} {ns : List Str}, ts.map (nameAt sc l) = ns.map some → ∀ (i : Nat) (x : Str), ns[i]? = some x → ∃ p, ts[i]? = some (.Name x p)
  | [], [], _, i, x, h => by cases h
  | [], n :: ns, e, _, _, _ => by cases e
  | t :: ts, [], e, _, _, _ => by cases e
  | t :: ts, n :: ns, e, i, x, h => by
    rw [List.map_cons, List.map_cons] at e
    obtain ⟨e1, e2⟩ := List.cons.inj e
    cases i with
    | zero =>
      have e3 : n = x := Option.some.inj h
      subst e3
      unfold nameAt at e1
      split at e1
      · split at e1
        · cases e1
          exact ⟨_, rfl⟩
        · cases e1
      · cases e1
    | succ i => exact names_of e2 i x h
theorem pss_consN {st : Stmt} {rest : List Stmt} {f g : En → Mem → Option SO} (h1 : PS X st (tS X.K X.mg W f)) (h2 : PSs X rest (tS X.K X.mg W g)) : PSs X (st :: rest) (tS X.K X.mg W (seqS f g)) :=
  PSs.imp (pss_cons h1 h2) fun D σ H h => seq_rd h
theorem idsB_ok {N : List Str} : ∀ {is : List Nat} {xs : List Str}, idsB N is xs = true → is.length = xs.length ∧ ∀ (j i : Nat), is[j]? = some i → ∃ x, xs[j]? = some x ∧ N[i]? = some x
  | [], [], _ => ⟨rfl, fun j i h => by cases h⟩
  | [], _ :: _, h => by cases h
  | _ :: _, [], h => by cases h
  | a :: is, x :: xs, h => by
    obtain ⟨h1, h2⟩ := and2 (show (decide (N[a]? = some x) && idsB N is xs) = true from h)
    obtain ⟨e1, e2⟩ := idsB_ok h2
    refine ⟨by rw [List.length_cons, List.length_cons, e1], fun j i q => ?_⟩
    cases j with
    | zero =>
      have e3 : a = i := Option.some.inj q
      subst e3
      exact ⟨x, rfl, of_decide_eq_true h1⟩
    | succ j => exact e2 j i q
theorem swL_len {sc : Scope} {ts vs : List Expr} {ns : List Str} (h : swL sc ts vs = some ns) : (ns.length = 2 ∨ ns.length = 3) ∧ vs.length = ns.length ∧ vs.all notStar = true := by
  unfold swL at h
  split at h
  · rename_i h1
    obtain ⟨a1, h1⟩ := and2 h1
    obtain ⟨a2, h1⟩ := and2 h1
    obtain ⟨a3, h1⟩ := and2 h1
    dsimp only at h
    split at h
    · rename_i h2
      obtain ⟨b1, b2⟩ := and2 h2
      have e1 := Option.some.inj h
      rw [e1] at b1
      have b1 : ns.length = ts.length := by simpa using b1
      have a1 : ts.length = 2 ∨ ts.length = 3 := by simpa using a1
      have a2 : vs.length = ts.length := by simpa using a2
      exact ⟨by rw [b1]; exact a1, by rw [a2, b1], a3⟩
    · cases h
  · cases h
theorem len2 {α : Type} {l : List α} (h : l.length = 2) : ∃ a b, l = [a, b] := by
  match l, h with
  | [a, b], _ => exact ⟨a, b, rfl⟩
theorem len3 {α : Type} {l : List α} (h : l.length = 3) : ∃ a b c, l = [a, b, c] := by
  match l, h with
  | [a, b, c], _ => exact ⟨a, b, c, rfl⟩
theorem nameAt_eq {sc : Scope} {l : Nat} {t : Expr} {x : Str} (h : nameAt sc l t = some x) : ∃ p, t = .Name x p := by
  unfold nameAt at h
  split at h
  · split at h
    · cases h
      exact ⟨_, rfl⟩
    · cases h
  · cases h
theorem ps_parAll {is : List Nat} {es : Es} {ts vs : List Expr} {ns : List Str} {k k2 : Nat} {p p2 pos : Pos} (A : Amb X c cs lvl sc fb) (hk : sc.kind = .function) (h : swL sc ts vs = some ns) (hd : is.Nodup) (hi : idsB c.N is ns = true) (hl : ns.all (fun x => sc.names.lookup x == some .local) = true)
    (ht : ts.map (nameAt sc (lineOf ts)) = ns.map some) (he : chkEs c sc fb es vs = true) :
    PS X (.Assign [.Tuple ts k p] (.Tuple vs k2 p2) pos) (tS X.K X.mg W fun env M => (evEs cs es env M).bind fun r => (evPar is r.1 env).map fun env1 => .nx env1 r.2) := by
  obtain ⟨hn, hv, hs⟩ := swL_len h
  obtain ⟨il, ih⟩ := idsB_ok hi
  have ha := sndEs es X sc fb vs A he
  have hw := fun k k2 p p2 => swL_ok (k := k) (k2 := k2) (p := p) (p2 := p2) (env := X.env) h A.sc hk
  have hlo : ∀ x ∈ ns, X.env.scope.names.lookup x = some .local := fun x hx => by
    rw [A.sc]
    simpa using List.all_eq_true.mp hl x hx
  have nd : X.N.Nodup := by rw [A.N]; exact A.nd
  rcases hn with hn | hn
  · obtain ⟨x, y, rfl⟩ := len2 hn
    obtain ⟨a, b, rfl⟩ := len2 (hv.trans hn)
    obtain ⟨i, j, rfl⟩ := len2 (il.trans hn)
    have tl : ts.length = 2 := by simpa using congrArg List.length ht
    obtain ⟨t1, t2, rfl⟩ := len2 tl
    have q1 := congrArg (fun (l : List (Option Str)) => l[0]?) ht
    have q2 := congrArg (fun (l : List (Option Str)) => l[1]?) ht
    obtain ⟨p1, rfl⟩ := nameAt_eq (Option.some.inj q1)
    obtain ⟨p3, rfl⟩ := nameAt_eq (Option.some.inj q2)
    obtain ⟨x', e1, n1⟩ := ih 0 i rfl
    obtain ⟨y', e2, n2⟩ := ih 1 j rfl
    cases e1
    cases e2
    have hij : i ≠ j := fun e => by subst e; simp at hd
    exact PS.imp (ps_par A.calm nd (by rw [A.N]; exact n1) (by rw [A.N]; exact n2) hij (hlo _ (by simp)) (hlo _ (by simp)) ha (hw _ _ _ _) rfl) fun D σ H q => par2_rd q
  · obtain ⟨x, y, z, rfl⟩ := len3 hn
    obtain ⟨a, b, d, rfl⟩ := len3 (hv.trans hn)
    obtain ⟨i, j, l, rfl⟩ := len3 (il.trans hn)
    have tl : ts.length = 3 := by simpa using congrArg List.length ht
    obtain ⟨t1, t2, t3, rfl⟩ := len3 tl
    have q1 := congrArg (fun (l : List (Option Str)) => l[0]?) ht
    have q2 := congrArg (fun (l : List (Option Str)) => l[1]?) ht
    have q3 := congrArg (fun (l : List (Option Str)) => l[2]?) ht
    obtain ⟨p1, rfl⟩ := nameAt_eq (Option.some.inj q1)
    obtain ⟨p3, rfl⟩ := nameAt_eq (Option.some.inj q2)
    obtain ⟨p4, rfl⟩ := nameAt_eq (Option.some.inj q3)
    obtain ⟨x', e1, n1⟩ := ih 0 i rfl
    obtain ⟨y', e2, n2⟩ := ih 1 j rfl
    obtain ⟨z', e3, n3⟩ := ih 2 l rfl
    cases e1
    cases e2
    cases e3
    have hij : i ≠ j := fun e => by subst e; simp at hd
    have hil : i ≠ l := fun e => by subst e; simp at hd
    have hjl : j ≠ l := fun e => by subst e; simp at hd
    exact PS.imp (ps_par3 A.calm nd (by rw [A.N]; exact n1) (by rw [A.N]; exact n2) (by rw [A.N]; exact n3) hij hil hjl (hlo _ (by simp)) (hlo _ (by simp)) (hlo _ (by simp)) ha (hw _ _ _ _) rfl) fun D σ H q => par3_rd q
theorem mth_all {m : Mt} {o : Expr} {name : Str} {a : E} {es : Es} {vs : List Expr} {q r pos : Pos} (A : Amb X c cs lvl sc fb) (hq : (q.endLine == r.line) = true) (hb : baseOk o = true) (ha : chkE c sc fb a o = true) (hs : vs.all notStar = true) (he : chkEs c sc fb es vs = true)
    (hm : (match m with
      | .append => decide (name = Str.ofString "append") && vs.length == 1
      | .insert => decide (name = Str.ofString "insert") && vs.length == 2
      | .extend => decide (name = Str.ofString "extend") && vs.length == 1) = true) :
    PS X (.Expr (.Call (.Attribute o name q) vs [] r) pos) (tS X.K X.mg W fun env M => (evE cs a env M).bind fun r => if isCell r.1 r.2 = true then (evEs cs es env r.2).bind fun q => (evMt m r.1 q.1 q.2).map fun M1 => .nx env M1 else none) := by
  have h1 := (sndE a X sc fb _ A ha).pe
  have h2 := sndEs es X sc fb vs A he
  cases m with
  | append =>
    obtain ⟨g1, g2⟩ := and2 hm
    have e1 := of_decide_eq_true g1
    subst e1
    match vs, g2, hs with
    | [v], _, hs => exact ps_mth1 PySem.F.slot_list_append PySem.F.type_list_append mt_app h1 hb h2 hq (by simpa using hs)
  | insert =>
    obtain ⟨g1, g2⟩ := and2 hm
    have e1 := of_decide_eq_true g1
    subst e1
    match vs, g2, hs with
    | [v, w], _, hs =>
      have hs' : notStar v = true ∧ notStar w = true := by simpa using hs
      exact ps_mth2 PySem.F.slot_list_insert PySem.F.type_list_insert mt_ins h1 hb h2 hq hs'.1 hs'.2
  | extend =>
    obtain ⟨g1, g2⟩ := and2 hm
    have e1 := of_decide_eq_true g1
    subst e1
    match vs, g2, hs with
    | [v], _, hs => exact ps_mth1 PySem.F.slot_list_extend PySem.F.type_list_extend mt_ext h1 hb h2 hq (by simpa using hs)
/-- targets one after another, with objects among the values -/
def tPs (K : PySem.W.Frag) (ts : List T) : TGs := fun us σ H Q => ∃ (S : W3) (env env' : En) (ws : List Vl), Ok K S H ∧ EnvOk K S σ env ∧ RVs K S us ws ∧ evPs ts ws env = some env' ∧ ∀ σ', EnvOk K S σ' env' → Q σ' H
theorem sndPs (A : Amb X c cs lvl sc fb) : ∀ (ts : List T) (es : List Expr), es.all notStar = true → chkTs c sc fb ts es = true → PGs X es (tPs X.K ts)
  | [], es, hs, h => by
    cases es with
    | nil =>
      refine PGs.imp pgs_nil fun us σ H Q ⟨S, env, env', ws, k, ev, r, e, q⟩ => ?_
      cases r with
      | nil =>
        have e1 : env = env' := Option.some.inj e
        subst e1
        exact ⟨rfl, q σ ev⟩
      | cons _ _ => cases e
    | cons e es => unfold chkTs at h; cases h
  | t :: ts, es, hs, h => by
    cases es with
    | nil => unfold chkTs at h; cases h
    | cons e es =>
      unfold chkTs at h
      obtain ⟨h1, h2⟩ := and2 h
      rw [List.all_cons] at hs
      obtain ⟨h3, h4⟩ := and2 hs
      refine PGs.imp (pgs_cons (sndT t X sc fb e A h1) (sndPs A ts es h4 h2) (by rw [assign_cons h3]; rfl)) fun us σ H Q ⟨S, env, env', ws, k, ev, r, e, q⟩ => ?_
      cases r with
      | nil => cases e
      | cons r1 r =>
        obtain ⟨env1, e1, e2⟩ := Option.bind_eq_some_iff.mp e
        exact ⟨_, _, rfl, S, env, env1, _, k, ev, r1, e1, fun σ1 ev1 _ => ⟨S, env1, env', _, k, ev1, r, e2, q⟩⟩
theorem evPs_len : ∀ {ts : List T} {ws : List Vl} {env env' : En}, evPs ts ws env = some env' → ws.length = ts.length
  | [], [], _, _, _ => rfl
  | [], _ :: _, _, _, h => by cases h
  | _ :: _, [], _, _, h => by cases h
  | t :: ts, w :: ws, env, env', h => by
    obtain ⟨env1, _, e2⟩ := Option.bind_eq_some_iff.mp h
    rw [List.length_cons, List.length_cons, evPs_len e2]
theorem ps_parCAll {ts : List T} {es : Es} {xs vs : List Expr} {k k2 : Nat} {p p2 pos : Pos} (A : Amb X c cs lvl sc fb) (hk : sc.kind = .function) (h : swN sc (.Tuple xs k p) (.Tuple vs k2 p2) = true) (hx : xs.all notStar = true) (hl : xs.length = ts.length) (hb : xs.length ≤ 1000)
    (ht : chkTs c sc fb ts xs = true) (he : chkEs c sc fb es vs = true) :
    PS X (.Assign [.Tuple xs k p] (.Tuple vs k2 p2) pos) (tS X.K X.mg W fun env M => (evEs cs es env M).bind fun r => (evPs ts r.1 env).map fun env1 => .nx env1 r.2) := by
  obtain ⟨h1, h2⟩ := assign_plain (env := X.env) hx
  refine PS.imp (ps_asg (pe_tup (sndEs es X sc fb vs A he)) (pg_tup (n := ts.length) A.calm (sndPs A ts xs hx ht) (by rw [h1, hl]) h2) (by rfl) (swN_ok h A.sc) (by rfl)) fun D σ H q => ?_
  obtain ⟨S, env, o, kk, ev, e, pp⟩ := q
  obtain ⟨⟨ws, M1⟩, e1, e2⟩ := Option.bind_eq_some_iff.mp e
  obtain ⟨env1, e3, e4⟩ := Option.map_eq_some_iff.mp e2
  subst e4
  have hl2 := evPs_len e3
  refine ⟨S, env, ws, M1, kk, ev, e1, fun us H1 S1 l1 em1 k1 r1 => ⟨?_, fun a ha => ?_⟩⟩
  · rw [Paired.length r1, hl2, ← hl, sizeLine_eq]
    exact Nat.le_trans hb (by decide)
  · refine ⟨a, us, rfl, .inl (.inl upd_same), by rw [Paired.length r1, hl2], S1, env, env1, ws, k1.more ha, ev.le l1, r1, e3, fun σ' ev' => ?_⟩
    exact pp σ' _ S1 l1 em1 (k1.more ha) ev'
mutual
theorem sndS (hk : sc.kind = .function) (A : Amb X c cs lvl sc fb) (hp : PassesOwn (model X.prog X.w) X.A X.env X.xe) (tk : Takes X W) : ∀ (s : S) (st : Stmt), chkS c sc fb s st = true → PS X st (tS X.K X.mg W (evS cs s))
  | .asg t e, st, h => by
    unfold chkS at h
    split at h
    · obtain ⟨h1, h⟩ := and2 h
      obtain ⟨h2, h⟩ := and2 h
      obtain ⟨h3, h⟩ := and2 h
      simp only [evS]
      split at h
      · rename_i q
        exact ps_asgAll A hk h1 (sndE e X sc fb _ A h2).pe h3 q
      · rename_i q
        obtain ⟨g1, g2⟩ := and2 h
        exact ps_asgComp A hk g1 (by simpa using g2) h1 h2 q
      · cases h
    · cases h
  | .par is es, st, h => by
    unfold chkS at h
    split at h
    · split at h
      · rename_i ns q
        obtain ⟨h1, h⟩ := and2 h
        obtain ⟨h2, h⟩ := and2 h
        obtain ⟨h3, h⟩ := and2 h
        obtain ⟨h4, h5⟩ := and2 h
        simp only [evS]
        exact ps_parAll A hk q (of_decide_eq_true h1) h2 h3 (by simpa using h4) h5
      · cases h
    · cases h
  | .parC ts es, st, h => by
    unfold chkS at h
    split at h
    · obtain ⟨h1, h⟩ := and2 h
      obtain ⟨h2, h⟩ := and2 h
      obtain ⟨h3, h⟩ := and2 h
      obtain ⟨h4, h⟩ := and2 h
      obtain ⟨h5, h6⟩ := and2 h
      simp only [evS]
      exact ps_parCAll A hk h1 h2 (of_decide_eq_true h3) (of_decide_eq_true h4) h5 h6
    · cases h
  | .setI a i e, st, h => by
    unfold chkS at h
    split at h
    · rename_i pos
      obtain ⟨h1, h⟩ := and2 h
      obtain ⟨h2, h⟩ := and2 h
      obtain ⟨h3, h⟩ := and2 h
      obtain ⟨h4, h5⟩ := and2 h
      simp only [evS]
      refine ps_setIN h1 (sndE e X sc fb _ A h5).pe (sndE a X sc fb _ A h3).pe (sndE i X sc fb _ A h4).pe ?_ (swN_ok (sc := sc) (by rfl) A.sc)
      exact swB_no (l := pos.line) (beqO h2) A.sc hk
    · cases h
  | .mth m a es, st, h => by
    unfold chkS at h
    split at h
    · obtain ⟨h1, h⟩ := and2 h
      obtain ⟨h2, h⟩ := and2 h
      obtain ⟨h3, h⟩ := and2 h
      obtain ⟨h4, h⟩ := and2 h
      obtain ⟨h5, h6⟩ := and2 h
      simp only [evS]
      exact mth_all A h1 h2 h3 h4 h5 (by cases m <;> exact h6)
    · cases h
  | .ex e, st, h => by
    unfold chkS at h
    split at h
    · obtain ⟨h1, h2⟩ := and2 h
      simp only [evS]
      exact ps_exN (sndE e X sc fb _ A h2).pe (swB_no (beqO h1) A.sc hk)
    · cases h
  | .callS k es, st, h => by
    unfold chkS at h
    split at h
    · obtain ⟨h1, h2⟩ := and2 h
      obtain ⟨F, hF, hc⟩ := callB_ok A tk h2
      simp only [evS]
      exact ps_callSN hF hc (swB_no (beqO h1) A.sc hk)
    · cases h
  | .ife d a b, st, h => by
    unfold chkS at h
    split at h
    · obtain ⟨h1, h⟩ := and2 h
      obtain ⟨h2, h⟩ := and2 h
      obtain ⟨h3, h4⟩ := and2 h
      simp only [evS]
      exact ps_ifN ((sndE d X sc fb _ A h2).pt h1) (sndSs hk A hp tk a _ h3) (sndSs hk A hp tk b _ h4)
    · cases h
  | .for t it b, st, h => by
    unfold chkS at h
    split at h
    · obtain ⟨h1, h⟩ := and2 h
      obtain ⟨h2, h⟩ := and2 h
      obtain ⟨h3, h4⟩ := and2 h
      simp only [evS]
      exact ps_forN hp A.calm (sndI it X sc fb _ _ A h2) (sndT t X sc fb _ A h3) (sndSs hk A hp tk b _ h4) (folded_of h1)
    · cases h
  | .whil n d b, st, h => by
    unfold chkS at h
    split at h
    · obtain ⟨h1, h⟩ := and2 h
      obtain ⟨h2, h3⟩ := and2 h
      simp only [evS]
      exact ps_whilN hp ((sndE d X sc fb _ A h2).pt h1) (sndSs hk A hp tk b _ h3)
    · cases h
  | .ret e, st, h => by
    unfold chkS at h
    split at h
    · simp only [evS]
      exact ps_retN2 (sndE e X sc fb _ A h).pe
    · cases h
  | .retC k es, st, h => by
    unfold chkS at h
    split at h
    · obtain ⟨F, hF, hc⟩ := callB_ok A tk h
      simp only [evS]
      exact ps_retCN hF hc
    · cases h
  | .asgC t k es, st, h => by
    unfold chkS at h
    split at h
    · obtain ⟨h1, h⟩ := and2 h
      obtain ⟨h2, h⟩ := and2 h
      obtain ⟨h3, h4⟩ := and2 h
      obtain ⟨F, hF, hc⟩ := callB_ok A tk h2
      simp only [evS]
      exact ps_asgCAll A hk h1 hF hc h3 (beqO h4)
    · cases h
  | .raise x, st, h => by
    unfold chkS at h
    split at h
    · obtain ⟨h1, h⟩ := and2 h
      obtain ⟨h2, h3⟩ := and2 h
      obtain ⟨g1, g2⟩ := A.gl h2
      simp only [evS]
      exact ps_raiseN A.calm tk (of_decide_eq_true h1) g1 g2 (A.g.exc x (by simpa using h3))
    · cases h
theorem sndSs (hk : sc.kind = .function) (A : Amb X c cs lvl sc fb) (hp : PassesOwn (model X.prog X.w) X.A X.env X.xe) (tk : Takes X W) : ∀ (ss : Ss) (xs : List Stmt), chkSs c sc fb ss xs = true → PSs X xs (tS X.K X.mg W (evSs cs ss))
  | .nil, xs, h => by
    unfold chkSs at h
    cases xs with
    | nil =>
      simp only [evSs]
      exact pss_nilN
    | cons x r => cases h
  | .cons s ss, xs, h => by
    unfold chkSs at h
    cases xs with
    | nil => cases h
    | cons x r =>
      obtain ⟨h1, h2⟩ := and2 h
      have e : evSs cs (.cons s ss) = seqS (evS cs s) (evSs cs ss) := by
        funext env M
        first
          | (simp only [evSs, seqS]; done)
          | (simp only [evSs, seqS]; congr 1)
      rw [e]
      exact pss_consN (sndS hk A hp tk s x h1) (sndSs hk A hp tk ss r h2)
end
end
end NW

set_option Elab.async false
set_option linter.all false
set_option maxRecDepth 100000
set_option maxHeartbeats 4000000
/-! A def whose body passes the check keeps the promise of its term. -/
namespace NW
open PySem PySem.Spec PyProof.Rows L2

theorem env_start {K : PySem.W.Frag} {S : W3} {d : Df} {N : List Str} {vs : List V} {ws : List Vl} (hN : N.length = d.N.length) (r : RVs K S vs ws) : EnvOk K S (L2.start N vs) (enter d ws) := by
  have hl := Paired.length r
  refine ⟨by unfold enter L2.start; rw [List.length_append, List.length_append, List.length_map, List.length_map, List.length_replicate, List.length_replicate, hN, hl], fun i w e => ?_⟩
  unfold enter at e
  by_cases hi : i < ws.length
  · rw [List.getElem?_append_left (by simpa using hi), List.getElem?_map] at e
    have get : ∀ {vs : List V} {ws : List Vl} {i : Nat}, RVs K S vs ws → (ws[i]?).map some = some (some w) → ∃ v, vs[i]? = some v ∧ RV K S v w := by
      intro vs ws i r
      induction r generalizing i with
      | nil => intro h; cases h
      | cons p t ih =>
        intro h
        cases i with
        | zero =>
          have e2 := Option.some.inj (Option.some.inj h)
          subst e2
          exact ⟨_, rfl, p⟩
        | succ i => exact ih h
    obtain ⟨v, e1, rv⟩ := get r e
    refine ⟨v, ?_, rv⟩
    unfold L2.start
    have h2 := (List.getElem?_eq_some_iff.mp e1).1
    rw [List.getElem?_append_left (by simpa using h2), List.getElem?_map, e1]
    rfl
  · rw [List.getElem?_append_right (by simpa using hi), List.getElem?_replicate] at e
    split at e <;> cases e
theorem Ok.pack {K : PySem.W.Frag} {S S' : W3} {H : Hp} (l : Le S S') (k : Ok K S' H) {j : Nat} {c : Cl} (hj : S.M.length ≤ j) (hc : S'.M[j]? = some c) :
    ∃ S2 : W3, Le S S2 ∧ S2.M = S'.M.take S.M.length ++ [c] ∧ Ok K S2 H ∧ ∀ v, RV K S' v (.m j) → RV K S2 v (.m S.M.length) := by
  have ln : (S'.M.take S.M.length).length = S.M.length := by rw [List.length_take]; exact Nat.min_eq_left l.len
  have old : ∀ (i : Nat) (d : Cl), (S'.M.take S.M.length ++ [c])[i]? = some d → S'.M[if i = S.M.length then j else i]? = some d := fun i d e => by
    by_cases hi : i < S.M.length
    · rw [List.getElem?_append_left (by rw [ln]; exact hi), List.getElem?_take_of_lt hi] at e
      rw [if_neg (by omega)]
      exact e
    · rw [List.getElem?_append_right (by rw [ln]; omega), ln] at e
      by_cases h2 : i = S.M.length
      · subst h2
        rw [if_pos rfl, hc]
        simpa using e
      · rw [List.getElem?_eq_none (by simp; omega)] at e
        cases e
  have lt_ : ∀ (i : Nat) (d : Cl), (S'.M.take S.M.length ++ [c])[i]? = some d → i ≤ S.M.length := fun i d e => by
    have := (List.getElem?_eq_some_iff.mp e).1
    rw [List.length_append, ln] at this
    simpa using Nat.lt_succ_iff.mp this
  refine ⟨⟨S'.B, fun i => S'.ad (if i = S.M.length then j else i), S'.M.take S.M.length ++ [c]⟩, ⟨l.same, ?_, fun i hi => ?_⟩, rfl, ⟨k.same, fun i d e => k.cell _ d (old i d e), fun a b d d' e1 e2 h1 h2 h3 => ?_⟩, fun v hv => ?_⟩
  · show _ ≤ (S'.M.take S.M.length ++ [c]).length
    rw [List.length_append, ln]
    omega
  · show S'.ad (if i = S.M.length then j else i) = _
    rw [if_neg (by omega)]
    exact l.ad i hi
  · have e3 := k.inj _ _ d d' (old a d e1) (old b d' e2) h1 h2 h3
    have l1 := lt_ a d e1
    have l2 := lt_ b d' e2
    split at e3 <;> split at e3 <;> omega
  · obtain ⟨h1, h2⟩ : j < S'.M.length ∧ v = .ref (S'.ad j) := hv
    refine ⟨?_, ?_⟩
    · show S.M.length < (S'.M.take S.M.length ++ [c]).length
      rw [List.length_append, ln]
      simp
    · show v = .ref (S'.ad (if S.M.length = S.M.length then j else S.M.length))
      rw [if_pos rfl]
      exact h2
/-- what the end of the body promises, from what the def promises -/
theorem post_end {K : PySem.W.Frag} {mg : Str → Option Value} {S : W3} {so : SO} {o : Out} {M' : Mem} {Q : VK} {E : XK} (h : finish S.M.length so = some (o, M')) (p : PostF K mg S M' o Q E) :
    PostS K mg (fun cls d _ H => E cls d H) S so { nx := fun _ H' => Q .non H', rt := Q } := by
  cases so with
  | nx env M1 =>
    obtain ⟨rfl, rfl⟩ : Out.ret (.d .none) = o ∧ M1.take S.M.length = M' := by simpa [finish] using h
    intro σ' H' S' l em k _
    exact p H' _ l.take (by show S'.M.take _ = _; rw [em]) (k.take _) .non Dp.non
  | rt w M1 =>
    cases w with
    | d x =>
      obtain ⟨rfl, rfl⟩ : Out.ret (.d x) = o ∧ M1.take S.M.length = M' := by simpa [finish] using h
      intro v H' S' l em k r
      exact p H' _ l.take (by show S'.M.take _ = _; rw [em]) (k.take _) v r
    | m j =>
      intro v H' S' l em k r
      unfold finish at h
      dsimp only at h
      split at h
      · rename_i hj
        obtain ⟨rfl, rfl⟩ : Out.ret (.m j) = o ∧ M1.take S.M.length = M' := by simpa using h
        have hj' := l.take (S := S) |>.len
        obtain ⟨h1, h2⟩ : j < S'.M.length ∧ v = .ref (S'.ad j) := r
        exact p H' _ l.take (by show S'.M.take _ = _; rw [em]) (k.take _) v ⟨Nat.lt_of_lt_of_le hj hj', h2⟩
      · rename_i hj
        split at h
        · rename_i c hc
          obtain ⟨rfl, rfl⟩ : Out.ret (.m S.M.length) = o ∧ M1.take S.M.length ++ [c] = M' := by simpa using h
          obtain ⟨S2, l2, em2, k2, r2⟩ := k.pack l (j := j) (c := c) (by omega) (by rw [em]; exact hc)
          exact p H' S2 l2 (by rw [em2, em]) k2 v (r2 v r)
        · cases h
  | exc x M1 =>
    obtain ⟨rfl, rfl⟩ : Out.exc x = o ∧ M1.take S.M.length = M' := by simpa [finish] using h
    intro C σ' H' S' l em k hC
    exact p H' _ l.take (by show S'.M.take _ = _; rw [em]) (k.take _) C hC

section
variable {P : Program} {w : World} {K : PySem.W.Frag} {mg : Str → Option Value} {base : Heap} {x qual : Str} {params : Arguments} {body : List Stmt} {scope : Scope} {kws : List (Str × V)} {f : Addr} {fd : FuncData}
/-- a def's body keeps its promise -/
theorem df_fn {d : Df} {cs : List Fn} {c : Ck} {lvl : Nat} {ps : List Str} (F : FunD K x qual params body scope [] kws f fd) (hs : FnScope c.N ps scope) (hN : c.N.length = d.N.length) (hp : ps.length = d.np)
    (G : Gb P w K mg base c cs lvl) (hc : chkSs c scope none d.body body = true) : FnOk P w K mg base (L2.CX P w) (lvl + 2) f fd ps (spF K mg (fnOf cs d)) := by
  refine F.ok hs (fun vs H Q E q => by rw [hp]; exact q.1) fun cdv A outer s H vs Q E hr q => ?_
  obtain ⟨hl, S, ws, o, M', k, r, e, p⟩ := q
  have hrun : (if ws.length = d.np then (evSs cs d.body (enter d ws) S.M).bind (finish S.M.length) else none) = some (o, M') := e
  split at hrun
  · obtain ⟨so, e1, e2⟩ := Option.bind_eq_some_iff.mp hrun
    refine ⟨tS K mg (fun cls d _ H => E cls d H) (evSs cs d.body), ?_, S, enter d ws, so, k, env_start hN r, e1, post_end e2 p⟩
    have A0 : Amb (cxOf (L2.CX P w) P w K mg base c.N qual scope f cdv A outer s H E) c cs lvl scope none := ⟨rfl, rfl, rfl, hs.nd, rfl, hr, G⟩
    exact sndSs hs.kind A0 (passes_of rfl) (takes_of rfl rfl rfl rfl) d.body body hc
  · cases hrun
/-- a def of the text: what is asked of its term -/
theorem df_ok {d : Df} {cs : List Fn} {c : Ck} {lvl : Nat} {ps : List Str} {y : String} (F : FunD K x qual params body scope [] kws f fd) (hb : Binds K fd ps []) (hs : FnScope c.N ps scope) (hN : c.N.length = d.N.length) (hp : ps.length = d.np)
    (G : Gb P w K mg base c cs lvl) (hm : mg (Str.ofString y) = some (.ref f)) (hc : chkSs c scope none d.body body = true) : HasFn P w K mg base (lvl + 2) y (fnOf cs d) := by
  exact ⟨f, fd, ps, hm, F.kp, hb, df_fn F hs hN hp G hc⟩
end
end NW

set_option Elab.async false
set_option linter.all false
set_option maxRecDepth 100000
set_option maxHeartbeats 4000000
/-! What the head says of the module: defs, names, constants, tuples of ints. -/
namespace NW
open PySem PySem.Spec PyProof.Rows L2

abbrev AlZ : Type := Bool × He.AlD
def tupsB (zs : List (Str × List Int)) (K : PySem.W.Frag) : Bool := zs.all fun z => (He.Fa.glo z.1).ok K && He.tupB K z.1 (z.2.map He.Dv.int)
def obZ (zs : List (Str × List Int)) (fa : List He.Fa) (fn : List He.DefD) (K : PySem.W.Frag) : AlZ := (tupsB zs K, He.obsD fa fn K)
def obZG (n : Nat) (zs : List (Str × List Int)) (fa : List He.Fa) (fn : List He.DefD) (g : Addr → Option Obj) : AlZ := obZ zs fa fn (He.frG g (He.asD g n))
def SaysZ (zs : List (Str × List Int)) (fa : List He.Fa) (fn : List He.DefD) (K : PySem.W.Frag) : Prop := obZ zs fa fn K = (true, He.valD fn)
def hookZ (n : Nat) (zs : List (Str × List Int)) (fa : List He.Fa) (fn : List He.DefD) : PySem.W.Hook where
  α := AlZ
  obs := fun s => obZG n zs fa fn s.heap.get?
  val := fun _ => (true, He.valD fn)
  says := fun _ h => ∃ K : PySem.W.Frag, K.In h ∧ SaysZ zs fa fn K
  of := fun _ _ e => ⟨_, He.frG_in, e⟩
  keeps := fun _ _ _ ⟨K, hK, c⟩ k => ⟨K, PySem.W.Frag.In.keeps hK k, c⟩
theorem obZG_eq {n : Nat} {zs : List (Str × List Int)} {fa : List He.Fa} {fn : List He.DefD} {g : Addr → Option Obj} {s : Shared} (h : ∀ a, g a = s.heap.get? a) : obZG n zs fa fn g = (hookZ n zs fa fn).obs s := by
  rw [show g = s.heap.get? from funext h]
  rfl
theorem SaysZ.d {zs : List (Str × List Int)} {fa : List He.Fa} {fn : List He.DefD} {K : PySem.W.Frag} (c : SaysZ zs fa fn K) : He.SaysD fa fn K := congrArg (fun z : AlZ => z.2) c
theorem SaysZ.tup {zs : List (Str × List Int)} {fa : List He.Fa} {fn : List He.DefD} {K : PySem.W.Frag} (c : SaysZ zs fa fn K) {z : Str × List Int} (h : z ∈ zs) : (He.Fa.glo z.1).ok K = true ∧ He.tupB K z.1 (z.2.map He.Dv.int) = true := by
  have c1 : tupsB zs K = true := congrArg (fun z : AlZ => z.1) c
  exact and2 (List.all_eq_true.mp c1 z h)

/-! ### the promises of the defs that a def calls -/
def Fns (P : Program) (w : World) (K : PySem.W.Frag) (mg : Str → Option Value) (base : Heap) (lvl : Nat) : List String → List Fn → Prop
  | [], [] => True
  | x :: xs, F :: Fs => HasFn P w K mg base lvl x F ∧ Fns P w K mg base lvl xs Fs
  | _, _ => False
theorem Fns.get {P : Program} {w : World} {K : PySem.W.Frag} {mg : Str → Option Value} {base : Heap} {lvl : Nat} : ∀ {xs : List String} {Fs : List Fn}, Fns P w K mg base lvl xs Fs → xs.length = Fs.length ∧ ∀ (k : Nat) (x : String) (F : Fn), xs[k]? = some x → Fs[k]? = some F → HasFn P w K mg base lvl x F
  | [], [], _ => ⟨rfl, fun k x F h => by cases h⟩
  | [], _ :: _, h => h.elim
  | _ :: _, [], h => h.elim
  | y :: xs, G :: Fs, ⟨h1, h2⟩ => by
    obtain ⟨e, h⟩ := Fns.get h2
    refine ⟨by rw [List.length_cons, List.length_cons, e], fun k x F q1 q2 => ?_⟩
    cases k with
    | zero =>
      have e1 : y = x := Option.some.inj q1
      have e2 : G = F := Option.some.inj q2
      subst e1 e2
      exact h1
    | succ k => exact h k x F q1 q2
/-! ### what holds of all defs of a text -/
structure G0 (K : PySem.W.Frag) (mg : Str → Option Value) (kc : List (String × D)) (xc : List String) : Prop where
  free : ∀ x ∈ FREE, mg (Str.ofString x) = none
  con : ∀ x v, (x, v) ∈ kc → ∃ (u : Value) (v' : V), mg (Str.ofString x) = some u ∧ RelV v' u ∧ ∀ B, Dp K B v' v
  exc : ∀ x ∈ xc, ∃ (C : Addr) (bmB : List Value) (B newId initId : String), mg (Str.ofString x) = some (.ref C) ∧ PySem.ExcBaseFacts B newId initId bmB ∧ PySem.W.excIn K C bmB newId = true ∧ PySem.W.keepIn K (.ref C) = true ∧
    PySem.W.subIn K (.ref C) (.type "BaseException") = some true ∧ PySem.W.typeIn K (.ref C) = some (.type "type")
theorem G0.gb {P : Program} {w : World} {K : PySem.W.Frag} {mg : Str → Option Value} {base : Heap} {kc : List (String × D)} {xc : List String} {lvl : Nat} {N : List Str} {cn : List String} {cs : List Fn} (g : G0 K mg kc xc) (f : Fns P w K mg base lvl cn cs) : Gb P w K mg base ⟨N, cn, kc, xc⟩ cs lvl :=
  ⟨g.free, g.con, fun k x F h1 h2 => f.get.2 k x F h1 h2, f.get.1, g.exc⟩
section
variable {K : PySem.W.Frag} {h : Heap} {mg : Str → Option Value} {zs : List (Str × List Int)} {fa : List He.Fa} {fn : List He.DefD}
theorem ints_at (H : Hp) : ∀ ns : List Int, DpAll K H (ns.map V.int) (ns.map PyData.int)
  | [] => .nil
  | n :: ns => .cons (.int n) (ints_at H ns)
theorem con_int (X : K.In h) (G : h.Ns mainGlobals mg) {x : Str} {i : Int} (c : (He.Fa.int x i).ok K = true) : ∃ (u : Value) (v' : V), mg x = some u ∧ RelV v' u ∧ ∀ B, Dp K B v' (.int i) := by
  obtain ⟨t, e⟩ := He.int_ok X G c
  exact ⟨_, .int i, e, ⟨t, rfl⟩, fun B => .int i⟩
theorem con_str (X : K.In h) (G : h.Ns mainGlobals mg) {x z : Str} (hz : PyData.strOk z = true) (c : (He.Fa.str x z).ok K = true) : ∃ (u : Value) (v' : V), mg x = some u ∧ RelV v' u ∧ ∀ B, Dp K B v' (.str z) := by
  obtain ⟨t, e⟩ := He.str_ok X G c
  exact ⟨_, .str z, e, ⟨t, rfl⟩, fun B => .str z⟩
theorem con_tup (X : K.In h) (G : h.Ns mainGlobals mg) {x : Str} {is : List Int} (c : (He.Fa.glo x).ok K = true ∧ He.tupB K x (is.map He.Dv.int) = true) : ∃ (u : Value) (v' : V), mg x = some u ∧ RelV v' u ∧ ∀ B, Dp K B v' (.tuple (is.map .int)) := by
  refine ⟨_, .ref (He.ga K x), He.glo_ok X G c.1, rfl, fun B => .tup (He.tupB_ok c.2 B) ?_⟩
  have e : (is.map He.Dv.int).map (He.Dv.v K) = is.map V.int := by rw [List.map_map]; rfl
  rw [e]
  exact ints_at B is
theorem exc_fa (X : K.In h) (G : h.Ns mainGlobals mg) {x : Str} (g : (He.Fa.glo x).ok K = true) (c : (He.Fa.exc x).ok K = true) : ∃ (C : Addr) (bmB : List Value) (B newId initId : String), mg x = some (.ref C) ∧ PySem.ExcBaseFacts B newId initId bmB ∧ PySem.W.excIn K C bmB newId = true ∧ PySem.W.keepIn K (.ref C) = true ∧
    PySem.W.subIn K (.ref C) (.type "BaseException") = some true ∧ PySem.W.typeIn K (.ref C) = some (.type "type") := by
  obtain ⟨c1, c2, c3, c4⟩ := He.exc_ok c
  exact ⟨He.ga K x, He.veBase, _, _, _, He.glo_ok X G g, PySem.F.excBase_ValueError, c1, c2, c3, c4⟩
/-- the law's def, from what its term says of every script -/
theorem law_sp {F : Fn} {n : Nat} (ha : F.ar = 1) (hF : ∀ ns : List Int, ns.length ≤ n → F.run [.d (.list (ns.map .int))] [] = some (.ret (.d (.bool true)), [])) (H : Hp) (a : Addr) (ns : List Int) (hl : ns.length ≤ n) (hS : SqL K H a (ns.map V.int)) :
    spF K mg F [.ref a] H (fun v _ => v = .bl true) fun _ _ _ => False := by
  refine ⟨ha.symm, ⟨H, fun _ => 0, []⟩, [.d (.list (ns.map .int))], .ret (.d (.bool true)), [], ⟨Same.refl _, fun i c e => (by cases e), fun i j c c' e => (by cases e)⟩, .cons (.lst hS (ints_at H ns)) .nil, hF ns hl, ?_⟩
  intro H' S' l em k v r
  cases r
  rfl
/-- the law's promise lets nothing out -/
def spL (K : PySem.W.Frag) (mg : Str → Option Value) (F : Fn) : Sp := fun vs H Q _ => spF K mg F vs H Q fun _ _ _ => False
theorem ok_quiet {P : Program} {w : World} {base : Heap} {k : Nat} {f : Addr} {fd : FuncData} {ps : List Str} {F : Fn} (h : FnOk P w K mg base (L2.CX P w) k f fd ps (spF K mg F)) : FnOk P w K mg base (fun _ _ _ _ _ _ => False) k f fd ps (spL K mg F) := by
  refine ⟨fun vs H Q E q => h.len _ _ _ _ q, fun A outer s H args us vs Q E hr he hb hv q => codeAny_mono (h.run A outer s H args us vs Q (fun _ _ _ => False) hr he hb hv q) fun r s' x => ?_⟩
  cases r with
  | ok fl => cases fl <;> exact x
  | error e =>
    obtain ⟨_, _, _, _, _, _, _, _, _, _, _, _, q⟩ := (show L2.CX P w outer H s (fun _ _ _ => False) e s' from x)
    exact q.elim
end
end NW

set_option Elab.async false
set_option linter.all false
set_option maxRecDepth 100000
set_option maxHeartbeats 4000000
set_option exponentiation.threshold 100000
/-! How the runs of terms are told: sequences, loops, comprehensions without changes. -/
namespace NW
open PySem

/-! ### what operators give -/
section
variable {M : Mem} {i j : Int}
@[simp] theorem b_addI : evBin .add (.d (.int i)) (.d (.int j)) M = some (.d (.int (i + j)), M) := rfl
@[simp] theorem b_subI : evBin .sub (.d (.int i)) (.d (.int j)) M = some (.d (.int (i - j)), M) := rfl
@[simp] theorem b_mulI (h : mulOk i j = true) : evBin .mul (.d (.int i)) (.d (.int j)) M = some (.d (.int (i * j)), M) := by
  show (if mulOk i j then _ else _) = _
  rw [if_pos h]
@[simp] theorem b_fdivI (h : divOk j = true) : evBin .fdiv (.d (.int i)) (.d (.int j)) M = some (.d (.int (i / j)), M) := by
  show (if divOk j then _ else _) = _
  rw [if_pos h]
@[simp] theorem b_modI (h : j ≠ 0) : evBin .mod (.d (.int i)) (.d (.int j)) M = some (.d (.int (i.fmod j)), M) := by
  show (if j ≠ 0 then _ else _) = _
  rw [if_pos h]
@[simp] theorem b_powI (h : powOk i j = true) : evBin .pow (.d (.int i)) (.d (.int j)) M = some (.d (.int (i ^ j.toNat)), M) := by
  show (if powOk i j then _ else _) = _
  rw [if_pos h]
@[simp] theorem b_addT {xs ys : List D} (h : xs.length + ys.length ≤ big) : evBin .add (.d (.tuple xs)) (.d (.tuple ys)) M = some (.d (.tuple (xs ++ ys)), M) := by
  show (if xs.length + ys.length ≤ big then _ else _) = _
  rw [if_pos h]
@[simp] theorem b_addL {xs ys : List D} (h : xs.length + ys.length ≤ big) : evBin .add (.d (.list xs)) (.d (.list ys)) M = some (.d (.list (xs ++ ys)), M) := by
  show (if xs.length + ys.length ≤ big then _ else _) = _
  rw [if_pos h]
@[simp] theorem dat_d {x : D} : dat M (.d x) = some x := rfl
theorem dat_m {k : Nat} {xs : List D} (h : M[k]? = some (.lst xs)) : dat M (.m k) = some (.list xs) := by
  unfold dat
  dsimp only
  rw [h]
@[simp] theorem seq_l {xs : List D} : seqOf M (.d (.list xs)) = some xs := rfl
@[simp] theorem seq_t {xs : List D} : seqOf M (.d (.tuple xs)) = some xs := rfl
theorem seq_m {k : Nat} {xs : List D} (h : M[k]? = some (.lst xs)) : seqOf M (.m k) = some xs := by
  unfold seqOf
  rw [dat_m h]
@[simp] theorem ix_l {xs : List D} : evIdx (.d (.list xs)) (.d (.int i)) M = (L2.atI xs i).map fun x => (.d x, M) := rfl
@[simp] theorem ix_t {xs : List D} : evIdx (.d (.tuple xs)) (.d (.int i)) M = (L2.atI xs i).map fun x => (.d x, M) := rfl
theorem ix_m {k : Nat} {xs : List D} (h : M[k]? = some (.lst xs)) : evIdx (.m k) (.d (.int i)) M = (L2.atI xs i).map fun x => (.d x, M) := by
  unfold evIdx
  rw [seq_m h]
@[simp] theorem sl_l {xs : List D} {lo hi : Option Int} : evSlc (.d (.list xs)) lo hi M = some (.d (.list (cutN xs lo hi)), M) := rfl
@[simp] theorem sl_t {xs : List D} {lo hi : Option Int} : evSlc (.d (.tuple xs)) lo hi M = some (.d (.tuple (cutN xs lo hi)), M) := rfl
@[simp] theorem rv_l {xs : List D} : evRev (.d (.list xs)) M = some (.d (.list xs.reverse), M) := rfl
@[simp] theorem len_l {xs : List D} : evBi .len [.d (.list xs)] M = some (.d (.int xs.length), M) := rfl
@[simp] theorem len_t {xs : List D} : evBi .len [.d (.tuple xs)] M = some (.d (.int xs.length), M) := rfl
theorem len_s {x : Str} (h : x.length ≤ big) : evBi .len [.d (.str x)] M = some (.d (.int x.length), M) := by
  show (if x.length ≤ big then _ else _) = _
  rw [if_pos h]
theorem len_m {k : Nat} {xs : List D} (h : M[k]? = some (.lst xs)) : evBi .len [.m k] M = some (.d (.int xs.length), M) := by
  unfold evBi
  dsimp only
  rw [dat_m h]
@[simp] theorem bi_abs : evBi .abs [.d (.int i)] M = some (.d (.int (if i < 0 then -i else i)), M) := rfl
@[simp] theorem bi_max : evBi .max [.d (.int i), .d (.int j)] M = some (.d (.int (if j > i then j else i)), M) := rfl
@[simp] theorem bi_min : evBi .min [.d (.int i), .d (.int j)] M = some (.d (.int (if j < i then j else i)), M) := rfl
@[simp] theorem bi_tup {xs : List D} : evBi .tuple [.d (.list xs)] M = some (.d (.tuple xs), M) := rfl
@[simp] theorem bi_tupT {xs : List D} : evBi .tuple [.d (.tuple xs)] M = some (.d (.tuple xs), M) := rfl
@[simp] theorem bi_lstT {xs : List D} : evBi .list [.d (.tuple xs)] M = some (.d (.list xs), M) := rfl
@[simp] theorem bi_lst {xs : List D} : evBi .list [.d (.list xs)] M = some (.d (.list xs), M) := rfl
theorem boolsOf_map : ∀ bs : List Bool, boolsOf (bs.map .bool) = some bs
  | [] => rfl
  | b :: bs => by
    rw [List.map_cons]
    unfold boolsOf
    rw [boolsOf_map bs]
    rfl
theorem intsOf_map : ∀ ns : List Int, intsOf (ns.map .int) = some ns
  | [] => rfl
  | n :: ns => by
    rw [List.map_cons]
    unfold intsOf
    rw [intsOf_map ns]
    rfl
theorem bi_all {bs : List Bool} : evBi .all [.d (.list (bs.map .bool))] M = some (.d (.bool (bs.all id)), M) := by
  unfold evBi
  dsimp only
  rw [boolsOf_map]
  rfl
theorem bi_any {bs : List Bool} : evBi .any [.d (.list (bs.map .bool))] M = some (.d (.bool (bs.any id)), M) := by
  unfold evBi
  dsimp only
  rw [boolsOf_map]
  rfl
theorem bi_sum {ns : List Int} : evBi .sum [.d (.list (ns.map .int))] M = some (.d (.int ns.sum), M) := by
  unfold evBi
  dsimp only
  rw [intsOf_map]
  rfl
@[simp] theorem src_l {xs : List D} : srcOf M (.d (.list xs)) = some (.fix xs) := rfl
@[simp] theorem src_t {xs : List D} : srcOf M (.d (.tuple xs)) = some (.fix xs) := rfl
@[simp] theorem src_s {x : Str} : srcOf M (.d (.str x)) = some (.fix (signsD x)) := rfl
theorem src_m {k : Nat} {xs : List D} (h : M[k]? = some (.lst xs)) : srcOf M (.m k) = some (.dyn k) := by
  unfold srcOf
  dsimp only
  rw [h]
@[simp] theorem zip_l {xs ys : List D} : zipOf (.d (.list xs)) (.d (.list ys)) = some (.fix (pairD xs ys)) := rfl
@[simp] theorem zip_t {xs ys : List D} : zipOf (.d (.tuple xs)) (.d (.tuple ys)) = some (.fix (pairD xs ys)) := rfl
@[simp] theorem enum_l {xs : List D} : enumOf (.d (.list xs)) = some (.fix (pairD (rngD 0 xs.length) xs)) := rfl
theorem rng_of (h1 : -1000000 ≤ i) (h2 : i ≤ 1000000) (h3 : -1000000 ≤ j) (h4 : j ≤ 1000000) : rngOf i j = some (.fix (rngD i (j - i).toNat)) := by
  unfold rngOf
  rw [if_pos ⟨h1, h2, h3, h4⟩]
@[simp] theorem at20 (x y : D) : L2.atI [x, y] 0 = some x := rfl
@[simp] theorem at21 (x y : D) : L2.atI [x, y] 1 = some y := rfl
@[simp] theorem at30 (x y z : D) : L2.atI [x, y, z] 0 = some x := rfl
@[simp] theorem at31 (x y z : D) : L2.atI [x, y, z] 1 = some y := rfl
@[simp] theorem at32 (x y z : D) : L2.atI [x, y, z] 2 = some z := rfl
theorem at_nat {α : Type} {xs : List α} {k : Nat} : L2.atI xs (k : Int) = xs[k]? := by
  unfold L2.atI L2.ixN
  rw [if_pos (by omega)]
  split
  · rw [Option.bind_some]
    congr 1
  · rw [List.getElem?_eq_none (by omega)]
    rfl
theorem at_last {α : Type} {xs : List α} : L2.atI xs (-1) = xs[xs.length - 1]? := by
  unfold L2.atI L2.ixN
  rw [if_neg (by omega)]
  split
  · rw [Option.bind_some]
    congr 1
    omega
  · rw [List.getElem?_eq_none (by omega)]
    rfl
end
theorem run_df {cs : List Fn} {d : Df} {as : List Vl} {M : Mem} {so : SO} {r : Out × Mem} (h : evSs cs d.body (enter d as) M = some so) (hf : finish M.length so = some r) (hl : as.length = d.np) : (fnOf cs d).run as M = some r := by
  show (if as.length = d.np then (evSs cs d.body (enter d as) M).bind (finish M.length) else none) = some r
  rw [if_pos hl, h]
  exact hf
theorem run_dfR {cs : List Fn} {d : Df} {as : List Vl} {M : Mem} {r : Out × Mem} {env : En} (he : enter d as = env) (h : ∃ so, evSs cs d.body env M = some so ∧ finish M.length so = some r) (hl : as.length = d.np) : (fnOf cs d).run as M = some r := by
  obtain ⟨so, e, f⟩ := h
  exact run_df (by rw [he]; exact e) f hl
/-- what must hold behind a statement -/
def After (cs : List Fn) (ss : Ss) (R : SO → Prop) (o : SO) : Prop := match o with
  | .nx env M => ∃ o, evSs cs ss env M = some o ∧ R o
  | o => R o
theorem s_then {cs : List Fn} {s : S} {ss : Ss} {env : En} {M : Mem} {R : SO → Prop} (h : ∃ o, evS cs s env M = some o ∧ After cs ss R o) : ∃ o, evSs cs (.cons s ss) env M = some o ∧ R o := by
  obtain ⟨o, e, a⟩ := h
  cases o with
  | nx env1 M1 =>
    obtain ⟨o, e2, r⟩ := a
    exact ⟨o, by simp only [evSs, e, Option.bind_some]; exact e2, r⟩
  | rt v M1 => exact ⟨_, by simp only [evSs, e, Option.bind_some], a⟩
  | exc x M1 => exact ⟨_, by simp only [evSs, e, Option.bind_some], a⟩
theorem s_next {cs : List Fn} {s : S} {ss : Ss} {env env1 : En} {M M1 : Mem} {R : SO → Prop} (h : evS cs s env M = some (.nx env1 M1)) (h2 : ∃ o, evSs cs ss env1 M1 = some o ∧ R o) : ∃ o, evSs cs (.cons s ss) env M = some o ∧ R o := s_then ⟨_, h, h2⟩
theorem s_ret {cs : List Fn} {s : S} {ss : Ss} {env : En} {M M1 : Mem} {v : Vl} {R : SO → Prop} (h : evS cs s env M = some (.rt v M1)) (h2 : R (.rt v M1)) : ∃ o, evSs cs (.cons s ss) env M = some o ∧ R o := s_then ⟨_, h, h2⟩
theorem s_raise {cs : List Fn} {s : S} {ss : Ss} {env : En} {M M1 : Mem} {x : String} {R : SO → Prop} (h : evS cs s env M = some (.exc x M1)) (h2 : R (.exc x M1)) : ∃ o, evSs cs (.cons s ss) env M = some o ∧ R o := s_then ⟨_, h, h2⟩
theorem s_end {cs : List Fn} {env : En} {M : Mem} {R : SO → Prop} (h : R (.nx env M)) : ∃ o, evSs cs .nil env M = some o ∧ R o := ⟨_, by simp only [evSs], h⟩
theorem s_ifT {cs : List Fn} {c : E} {a b : Ss} {env : En} {M M1 : Mem} {R : SO → Prop} (h : tstB (evE cs c env M) = some (true, M1)) (h2 : ∃ o, evSs cs a env M1 = some o ∧ R o) : ∃ o, evS cs (.ife c a b) env M = some o ∧ R o := by
  obtain ⟨o, e, r⟩ := h2
  exact ⟨o, by simp only [evS, h, Option.bind_some, if_true]; exact e, r⟩
theorem s_ifF {cs : List Fn} {c : E} {a b : Ss} {env : En} {M M1 : Mem} {R : SO → Prop} (h : tstB (evE cs c env M) = some (false, M1)) (h2 : ∃ o, evSs cs b env M1 = some o ∧ R o) : ∃ o, evS cs (.ife c a b) env M = some o ∧ R o := by
  obtain ⟨o, e, r⟩ := h2
  exact ⟨o, by simp only [evS, h, Option.bind_some]; exact e, r⟩
theorem s_ifB {cs : List Fn} {c : E} {a b : Ss} {env : En} {M M1 : Mem} {R : SO → Prop} {v : Bool} (h : tstB (evE cs c env M) = some (v, M1)) (h2 : v = true → ∃ o, evSs cs a env M1 = some o ∧ R o) (h3 : v = false → ∃ o, evSs cs b env M1 = some o ∧ R o) : ∃ o, evS cs (.ife c a b) env M = some o ∧ R o := by
  cases v with
  | true => exact s_ifT h (h2 rfl)
  | false => exact s_ifF h (h3 rfl)
theorem fin_d {x : D} {M : Mem} : finish M.length (.rt (.d x) M) = some (.ret (.d x), M) := by simp
theorem fin_dA {x : D} {M M2 : Mem} : finish M.length (.rt (.d x) (M ++ M2)) = some (.ret (.d x), M) := by simp
theorem fin_n {env : En} {M : Mem} : finish M.length (.nx env M) = some (.ret (.d .none), M) := by simp
section
variable {cs : List Fn} {env env1 : En} {M M1 : Mem} {s : S} {ss : Ss} {o : SO}
theorem s_nx (h : evS cs s env M = some (.nx env1 M1)) (h2 : evSs cs ss env1 M1 = some o) : evSs cs (.cons s ss) env M = some o := by
  simp only [evSs, h, Option.bind_some]
  exact h2
theorem s_nxR {R : SO → Prop} (h : evS cs s env M = some (.nx env1 M1)) (h2 : ∃ o, evSs cs ss env1 M1 = some o ∧ R o) : ∃ o, evSs cs (.cons s ss) env M = some o ∧ R o := by
  obtain ⟨o, e, r⟩ := h2
  exact ⟨o, s_nx h e, r⟩
theorem s_rt {v : Vl} (h : evS cs s env M = some (.rt v M1)) : evSs cs (.cons s ss) env M = some (.rt v M1) := by
  simp only [evSs, h, Option.bind_some]
theorem s_exc {x : String} (h : evS cs s env M = some (.exc x M1)) : evSs cs (.cons s ss) env M = some (.exc x M1) := by
  simp only [evSs, h, Option.bind_some]
theorem s_nil : evSs cs .nil env M = some (.nx env M) := by simp only [evSs]
theorem if_t {c : E} {a b : Ss} {r : Option SO} (h : tstB (evE cs c env M) = some (true, M1)) (h2 : evSs cs a env M1 = r) : evS cs (.ife c a b) env M = r := by
  simp only [evS, h, Option.bind_some, if_true]
  exact h2
theorem if_f {c : E} {a b : Ss} {r : Option SO} (h : tstB (evE cs c env M) = some (false, M1)) (h2 : evSs cs b env M1 = r) : evS cs (.ife c a b) env M = r := by
  simp only [evS, h, Option.bind_some]
  exact h2
/-- the end of a turn: on to the next one, or out of the loop -/
def Turn (J : En → Mem → Prop) (R : SO → Prop) (o : SO) : Prop := match o with
  | .nx env M => J env M
  | o => R o
/-- while: m falls, I holds -/
theorem whil_of {c : E} {b : Ss} {R : SO → Prop} (I : Nat → En → Mem → Prop)
    (h : ∀ m env M, I m env M → (tstB (evE cs c env M) = some (false, M) ∧ R (.nx env M)) ∨ (tstB (evE cs c env M) = some (true, M) ∧ ∃ o, evSs cs b env M = some o ∧ Turn (fun env2 M2 => ∃ m2, m2 < m ∧ I m2 env2 M2) R o))
    {n m : Nat} (hm : m < n) {env : En} {M : Mem} (hI : I m env M) : ∃ o, evS cs (.whil n c b) env M = some o ∧ R o := by
  simp only [evS]
  induction n generalizing m env M with
  | zero => omega
  | succ n ih =>
    unfold whilL
    rcases h m env M hI with ⟨h1, h2⟩ | ⟨h1, o, h3, h4⟩
    · exact ⟨_, by rw [h1]; rfl, h2⟩
    · cases o with
      | nx env2 M2 =>
        obtain ⟨m2, h4, h5⟩ := h4
        obtain ⟨o, e, r⟩ := ih (m := m2) (by omega) h5
        exact ⟨o, by rw [h1]; simp only [Option.bind_some, if_true, h3]; exact e, r⟩
      | rt v M2 => exact ⟨_, by rw [h1]; simp only [Option.bind_some, if_true, h3], h4⟩
      | exc x M2 => exact ⟨_, by rw [h1]; simp only [Option.bind_some, if_true, h3], h4⟩
theorem fuel_lt {n : Nat} (h : n < 2 ^ 9000) : n < fuel := h
/-- for over plain data: I by the number of items done -/
theorem for_of {α : Type} {f : α → D} {t : T} {it : It} {b : Ss} {xs : List α} {R : SO → Prop} (I : Nat → En → Mem → Prop) (hi : evI cs it env M = some (.fix (xs.map f), M)) (h0 : I 0 env M)
    (h : ∀ i (hi : i < xs.length) env M, I i env M → ∃ env1, evT t (.d (f xs[i])) env = some env1 ∧ ∃ o, evSs cs b env1 M = some o ∧ Turn (I (i + 1)) R o)
    (hR : ∀ env M, I xs.length env M → R (.nx env M)) : ∃ o, evS cs (.for t it b) env M = some o ∧ R o := by
  have key : ∀ (k : Nat) (env : En) (M : Mem), k ≤ xs.length → I (xs.length - k) env M → ∃ o, forL (fun x env M => (evT t (.d x) env).bind fun env1 => evSs cs b env1 M) ((xs.drop (xs.length - k)).map f) env M = some o ∧ R o := by
    intro k
    induction k with
    | zero =>
      intro env M _ hI
      rw [Nat.sub_zero, List.drop_length]
      exact ⟨_, rfl, hR env M hI⟩
    | succ k ih =>
      intro env M hk hI
      have hlt : xs.length - (k + 1) < xs.length := by omega
      rw [List.drop_eq_getElem_cons hlt, List.map_cons]
      unfold forL
      obtain ⟨env1, e1, o, e2, h4⟩ := h _ hlt env M hI
      cases o with
      | nx env2 M2 =>
        have e3 : xs.length - (k + 1) + 1 = xs.length - k := by omega
        have h5 : I (xs.length - (k + 1) + 1) env2 M2 := h4
        rw [e3] at h5
        obtain ⟨o, e, r⟩ := ih env2 M2 (by omega) h5
        rw [e3]
        exact ⟨o, by simp only [e1, Option.bind_some, e2]; exact e, r⟩
      | rt v M2 => exact ⟨_, by simp only [e1, Option.bind_some, e2], h4⟩
      | exc x M2 => exact ⟨_, by simp only [e1, Option.bind_some, e2], h4⟩
  obtain ⟨o, e, r⟩ := key xs.length env M (Nat.le_refl _) (by rw [Nat.sub_self]; exact h0)
  rw [Nat.sub_self, List.drop_zero] at e
  refine ⟨o, ?_, r⟩
  simp only [evS, hi, Option.bind_some, forS]
  exact e
end
/-! ### comprehensions that change nothing: pure steps -/
section
variable {α : Type} {f : α → D} {g : α → Option D}
theorem add_to {n : Nat} {y : D} {acc : List D} {M0 : Mem} (hn : M0.length = n) (h : acc.length < big) : addTo n y (M0 ++ [.lst acc]) = some (M0 ++ [.lst (acc ++ [y])]) := by
  subst hn
  unfold addTo
  simp only [List.getElem?_concat_length]
  rw [if_pos h]
  simp
theorem compL_pure {n : Nat} {step : D → Mem → Option (Option D × Mem)} : ∀ (xs : List α) (acc : List D) (M0 : Mem), M0.length = n → acc.length + xs.length ≤ big → (∀ x ∈ xs, ∀ M, step (f x) M = some (g x, M)) →
    compL n step (xs.map f) (M0 ++ [.lst acc]) = some (M0 ++ [.lst (acc ++ xs.filterMap g)])
  | [], acc, M0, hn, hl, h => by
    rw [List.map_nil]
    unfold compL
    simp
  | x :: xs, acc, M0, hn, hl, h => by
    rw [List.map_cons]
    unfold compL compT
    rw [h x List.mem_cons_self]
    simp only [Option.bind_some]
    rw [List.length_cons] at hl
    cases hg : g x with
    | none =>
      simp only [Option.bind_some]
      rw [compL_pure xs acc M0 hn (by omega) fun y hy => h y (List.mem_cons_of_mem _ hy), List.filterMap_cons_none hg]
    | some y =>
      simp only [add_to hn (show acc.length < big by omega), Option.bind_some]
      rw [compL_pure xs (acc ++ [y]) M0 hn (by rw [List.length_append, List.length_singleton]; omega) fun z hz => h z (List.mem_cons_of_mem _ hz), List.filterMap_cons_some hg]
      simp
theorem comp_end {mu : Bool} {M0 : Mem} {xs : List D} {n : Nat} (hn : M0.length = n) : compEnd mu n (M0 ++ [.lst xs]) = some (if mu = true then (.m n, M0 ++ [.lst xs]) else (.d (.list xs), M0)) := by
  subst hn
  unfold compEnd
  simp only [List.getElem?_concat_length]
  cases mu with
  | false => simp
  | true => simp [List.take_of_length_le]
/-- one turn of a comprehension, as a plain function tells it -/
def TurnIs (cs : List Fn) (t : T) (c : Eo) (e : E) (env : En) (f : α → D) (g : α → Option D) (x : α) : Prop := ∀ M, ∃ env1 b, evT t (.d (f x)) env = some env1 ∧ evC cs c env1 M = some (b, M) ∧ (b = false → g x = none) ∧ (b = true → ∃ y, evE cs e env1 M = some (.d y, M) ∧ g x = some y)
theorem TurnIs.step {cs : List Fn} {t : T} {c : Eo} {e : E} {env : En} {x : α} (h : TurnIs cs t c e env f g x) (M : Mem) : ((evT t (.d (f x)) env).bind fun env1 => (evC cs c env1 M).bind fun q => if q.1 = true then (dataV (evE cs e env1 q.2)).map fun p => (some p.1, p.2) else some (none, q.2)) = some (g x, M) := by
  obtain ⟨env1, b, e1, e2, e3, e4⟩ := h M
  simp only [e1, Option.bind_some, e2]
  cases b with
  | false =>
    rw [e3 rfl]
    rfl
  | true =>
    obtain ⟨y, e5, e6⟩ := e4 rfl
    rw [e6]
    simp [e5]
/-- [e for t in it if c], plain data in -/
theorem comp_run {mu : Bool} {cs : List Fn} {own : List (String × Nat)} {t : T} {it : It} {c : Eo} {e : E} {env : En} {M : Mem} {xs : List α} (g : α → Option D) (hi : evI cs it env M = some (.fix (xs.map f), M)) (hl : xs.length ≤ big)
    (h : ∀ x ∈ xs, TurnIs cs t c e (wipeE env (own.map (·.2))) f g x) :
    evE cs (.comp mu own t it c e) env M = some (if mu = true then (.m M.length, M ++ [.lst (xs.filterMap g)]) else (.d (.list (xs.filterMap g)), M)) := by
  simp only [evE, hi, Option.bind_some, compS]
  rw [compL_pure (g := g) xs [] M rfl (by simpa using hl) fun x hx M => (h x hx).step M]
  rw [List.nil_append, Option.bind_some, comp_end rfl]
theorem compD_pure {n i : Nat} {step : D → Mem → Option (Option D × Mem)} {ys : List α} (M0 : Mem) (hn : M0.length = n) (hi : M0[i]? = some (.lst (ys.map f))) (hl : ys.length < 1000000) (h : ∀ x ∈ ys, ∀ M, step (f x) M = some (g x, M)) :
    ∀ (fu k : Nat) (acc : List D), ys.length < fu + k → k ≤ ys.length → acc.length + (ys.drop k).length ≤ big → compD n step i fu k (M0 ++ [.lst acc]) = some (M0 ++ [.lst (acc ++ (ys.drop k).filterMap g)]) := by
  have hilt : i < M0.length := (List.getElem?_eq_some_iff.mp hi).1
  intro fu
  induction fu with
  | zero => intro k acc h1 h2; omega
  | succ fu ih =>
    intro k acc h1 h2 h3
    unfold compD
    rw [List.getElem?_append_left hilt, hi]
    simp only [List.getElem?_map]
    by_cases hk : k < ys.length
    · rw [List.getElem?_eq_getElem hk]
      simp only [Option.map_some]
      rw [List.drop_eq_getElem_cons hk] at h3 ⊢
      rw [List.length_cons] at h3
      unfold compT
      rw [h _ (List.getElem_mem hk)]
      simp only [Option.bind_some]
      cases hg : g ys[k] with
      | none =>
        simp only [Option.bind_some]
        rw [ih (k + 1) acc (by omega) (by omega) (by omega), List.filterMap_cons_none hg]
      | some y =>
        simp only [add_to hn (show acc.length < big by omega), Option.bind_some]
        rw [ih (k + 1) (acc ++ [y]) (by omega) (by omega) (by rw [List.length_append, List.length_singleton]; omega), List.filterMap_cons_some hg]
        simp
    · rw [List.getElem?_eq_none (by omega), List.drop_eq_nil_of_le (by omega)]
      simp
/-- the same over an object that stands still meanwhile -/
theorem comp_runM {mu : Bool} {cs : List Fn} {own : List (String × Nat)} {t : T} {it : It} {c : Eo} {e : E} {env : En} {M : Mem} {i : Nat} {ys : List α} (g : α → Option D) (hi : evI cs it env M = some (.dyn i, M)) (hy : M[i]? = some (.lst (ys.map f))) (hl : ys.length < 1000000)
    (h : ∀ x ∈ ys, TurnIs cs t c e (wipeE env (own.map (·.2))) f g x) :
    evE cs (.comp mu own t it c e) env M = some (if mu = true then (.m M.length, M ++ [.lst (ys.filterMap g)]) else (.d (.list (ys.filterMap g)), M)) := by
  simp only [evE, hi, Option.bind_some, compS]
  rw [compD_pure (f := f) (g := g) M rfl hy hl (fun x hx M => (h x hx).step M) 1000000 0 [] (by omega) (by omega) (by simp [big]; omega)]
  rw [List.nil_append, Option.bind_some, comp_end rfl]
  rfl
end
/-- a filter, mapped -/
theorem fm_if {α β : Type} (p : α → Bool) (r : α → β) : ∀ xs : List α, xs.filterMap (fun x => if p x = true then some (r x) else none) = (xs.filter p).map r
  | [] => rfl
  | x :: xs => by
    cases h : p x with
    | false => rw [List.filterMap_cons_none (by simp [h]), List.filter_cons_of_neg (by simp [h]), fm_if p r xs]
    | true => rw [List.filterMap_cons_some (by rw [h]; rfl), List.filter_cons_of_pos h, List.map_cons, fm_if p r xs]
theorem fm_all {α β : Type} (r : α → β) (xs : List α) : xs.filterMap (fun x => some (r x)) = xs.map r := by
  rw [← List.filterMap_eq_map]
  rfl
/-! ### putting together -/
section
variable {cs : List Fn} {env env1 : En} {M M1 M2 M3 : Mem} {e a b c : E} {v u w : Vl}
theorem ev_asg {t : T} (h : evE cs e env M = some (v, M1)) (h2 : evT t v env = some env1) : evS cs (.asg t e) env M = some (.nx env1 M1) := by
  simp only [evS, h, Option.bind_some, h2, Option.map_some]
theorem ev_ret (h : evE cs e env M = some (v, M1)) : evS cs (.ret e) env M = some (.rt v M1) := by
  simp only [evS, h, Option.map_some]
theorem ev_es0 : evEs cs .nil env M = some ([], M) := by simp only [evEs]
theorem ev_es {es : Es} {vs : List Vl} (h : evE cs e env M = some (v, M1)) (h2 : evEs cs es env M1 = some (vs, M2)) : evEs cs (.cons e es) env M = some (v :: vs, M2) := by
  simp only [evEs, h, Option.bind_some, h2, Option.map_some]
theorem ev_es1 (h : evE cs e env M = some (v, M1)) : evEs cs (.cons e .nil) env M = some ([v], M1) := ev_es h ev_es0
theorem ev_es2 (h : evE cs a env M = some (v, M1)) (h2 : evE cs b env M1 = some (u, M2)) : evEs cs (.cons a (.cons b .nil)) env M = some ([v, u], M2) := ev_es h (ev_es1 h2)
theorem ev_es3 (h : evE cs a env M = some (v, M1)) (h2 : evE cs b env M1 = some (u, M2)) (h3 : evE cs c env M2 = some (w, M3)) : evEs cs (.cons a (.cons b (.cons c .nil))) env M = some ([v, u, w], M3) := ev_es h (ev_es2 h2 h3)
theorem ev_bi {es : Es} {vs : List Vl} {f : Bi} {r : Option (Vl × Mem)} (h : evEs cs es env M = some (vs, M1)) (h2 : evBi f vs M1 = r) : evE cs (.bi f es) env M = r := by
  simp only [evE, h, Option.bind_some]
  exact h2
theorem ev_call {k : Nat} {es : Es} {vs : List Vl} {F : Fn} (h : evEs cs es env M = some (vs, M1)) (hk : cs[k]? = some F) (h2 : F.run vs M1 = some (.ret v, M2)) (hl : vs.length = F.ar) : evE cs (.call k es) env M = some (v, M2) := by
  simp only [evE, h, Option.bind_some]
  unfold callF
  rw [hk]
  dsimp only
  rw [if_pos hl, h2]
theorem ev_callS {k : Nat} {es : Es} {vs : List Vl} {F : Fn} (h : evEs cs es env M = some (vs, M1)) (hk : cs[k]? = some F) (h2 : F.run vs M1 = some (.ret v, M2)) (hl : vs.length = F.ar) : evS cs (.callS k es) env M = some (.nx env M2) := by
  simp only [evS, h, Option.bind_some]
  unfold callX
  rw [hk]
  dsimp only
  rw [if_pos hl, h2]
  rfl
theorem ev_bin {op : BOp} {r : Option (Vl × Mem)} (h : evE cs a env M = some (v, M1)) (h2 : evE cs b env M1 = some (u, M2)) (h3 : evBin op v u M2 = r) : evE cs (.bin op a b) env M = r := by
  simp only [evE, h, h2, Option.bind_some]
  exact h3
theorem ev_idx {r : Option (Vl × Mem)} (h : evE cs a env M = some (v, M1)) (h2 : evE cs b env M1 = some (u, M2)) (h3 : evIdx v u M2 = r) : evE cs (.idx a b) env M = r := by
  simp only [evE, h, h2, Option.bind_some]
  exact h3
theorem ev_cmp {op : COp} {r : Bool} (h : evE cs a env M = some (v, M1)) (h2 : evE cs b env M1 = some (u, M2)) (h3 : evCmp op v u M2 = some r) : evE cs (.cmp op a b) env M = some (.d (.bool r), M2) := by
  simp only [evE, h, h2, Option.bind_some, h3, Option.map_some]
theorem ev_var {i : Nat} (h : env[i]? = some (some v)) : evE cs (.var i) env M = some (v, M) := by
  simp only [evE, evVar, h]
theorem ev_neg1 {k : Int} : evE cs (.neg (.int k)) env M = some (.d (.int (-k)), M) := by simp only [evE, evNeg, Option.bind_some]
theorem ev_int {k : Int} : evE cs (.int k) env M = some (.d (.int k), M) := by simp only [evE]
theorem ev_tup {es : Es} {vs : List Vl} {xs : List D} (h : evEs cs es env M = some (vs, M1)) (h2 : datasV vs = some xs) (h3 : xs.length ≤ big) : evE cs (.tup es) env M = some (.d (.tuple xs), M1) := by
  simp only [evE, h, Option.bind_some, h2, if_pos h3]
theorem ev_lst {es : Es} {vs : List Vl} {xs : List D} (h : evEs cs es env M = some (vs, M1)) (h2 : datasV vs = some xs) (h3 : xs.length ≤ big) : evE cs (.lst es) env M = some (.d (.list xs), M1) := by
  simp only [evE, h, Option.bind_some, h2, if_pos h3]
theorem ts_of {r : Bool} (h : evE cs e env M = some (.d (.bool r), M1)) : tstB (evE cs e env M) = some (r, M1) := by
  rw [h]
  rfl
theorem ev_ife {r : Bool} (h : tstB (evE cs c env M) = some (r, M1)) {q : Option (Vl × Mem)} (h2 : (if r = true then evE cs a env M1 else evE cs b env M1) = q) : evE cs (.ife c a b) env M = q := by
  simp only [evE, h, Option.bind_some]
  exact h2
theorem ev_and {r : Bool} (h : tstB (evE cs a env M) = some (r, M1)) {q : Option (Vl × Mem)} (h2 : (if r = true then evE cs b env M1 else some (.d (.bool false), M1)) = q) : evE cs (.and a b) env M = q := by
  simp only [evE, h, Option.bind_some]
  exact h2
theorem ev_or {r : Bool} (h : tstB (evE cs a env M) = some (r, M1)) {q : Option (Vl × Mem)} (h2 : (if r = true then some (.d (.bool true), M1) else evE cs b env M1) = q) : evE cs (.or a b) env M = q := by
  simp only [evE, h, Option.bind_some]
  exact h2
theorem ev_not {r : Bool} (h : tstB (evE cs a env M) = some (r, M1)) : evE cs (.not a) env M = some (.d (.bool (!r)), M1) := by
  simp only [evE, h, Option.map_some]
theorem ev_mth {m : Mt} {es : Es} {vs : List Vl} (h : evE cs a env M = some (v, M1)) (hc : isCell v M1 = true) (h2 : evEs cs es env M1 = some (vs, M2)) (h3 : evMt m v vs M2 = some M3) : evS cs (.mth m a es) env M = some (.nx env M3) := by
  simp only [evS, h, Option.bind_some, hc, if_true, h2, h3, Option.map_some]
theorem cell_at {k : Nat} {xs : List D} (h : M[k]? = some (.lst xs)) : isCell (.m k) M = true := by
  unfold isCell
  dsimp only
  rw [h]
end
end NW

set_option Elab.async false
set_option linter.all false
set_option maxRecDepth 100000
/-! Printed by gen.py: the defs of the texts as terms. -/
namespace NW
open PySem

def t_is_integer : Df := ⟨["value", "low", "high"], 3, [],
    (.cons (.ret (.and (.isI (.var 0) "int") (.and (.not (.isI (.var 0) "bool")) (.chain .le .le (.var 1) (.var 0) (.var 2)))))
    .nil)⟩
def F_is_integer : Fn := fnOf [] t_is_integer
def t_common_divisor : Df := ⟨["one", "other"], 2, [],
    (.cons (.whil fuel (.cmp .ne (.var 1) (.int 0))
    (.cons (.par [0, 1] (.cons (.var 1) (.cons (.bin .mod (.var 0) (.var 1)) .nil)))
    .nil))
    (.cons (.ret (.bi .abs (.cons (.var 0) .nil)))
    .nil))⟩
def F_common_divisor : Fn := fnOf [] t_common_divisor
def t_fraction : Df := ⟨["top", "bottom", "common"], 2, ["common_divisor"],
    (.cons (.asg (.name 2) (.call 0 (.cons (.var 0) (.cons (.var 1) .nil))))
    (.cons (.ret (.tup (.cons (.bin .fdiv (.var 0) (.var 2)) (.cons (.bin .fdiv (.var 1) (.var 2)) .nil))))
    .nil))⟩
def F_fraction : Fn := fnOf [F_common_divisor] t_fraction
def t_is_fraction : Df := ⟨["value", "one"], 1, ["common_divisor"],
    (.cons (.ife (.or (.not (.isI (.var 0) "tuple")) (.cmp .ne (.bi .len (.cons (.var 0) .nil)) (.int 2)))
    (.cons (.ret (.bl false))
    .nil)
    .nil)
    (.cons (.ife (.not (.bi .all (.cons (.comp false [("one", 1)] (.name 1) (.seq (.var 0)) .no (.and (.isI (.var 1) "int") (.not (.isI (.var 1) "bool")))) .nil)))
    (.cons (.ret (.bl false))
    .nil)
    .nil)
    (.cons (.ret (.and (.cmp .ge (.idx (.var 0) (.int 1)) (.int 1)) (.cmp .eq (.call 0 (.cons (.idx (.var 0) (.int 0)) (.cons (.idx (.var 0) (.int 1)) .nil))) (.int 1))))
    .nil)))⟩
def F_is_fraction : Fn := fnOf [F_common_divisor] t_is_fraction
def t_is_time : Df := ⟨["value"], 1, ["is_fraction"],
    (.cons (.ret (.and (.call 0 (.cons (.var 0) .nil)) (.cmp .ge (.idx (.var 0) (.int 0)) (.int 0))))
    .nil)⟩
def F_is_time : Fn := fnOf [F_is_fraction] t_is_time
def t_plus : Df := ⟨["one", "other"], 2, ["fraction"],
    (.cons (.ret (.call 0 (.cons (.bin .add (.bin .mul (.idx (.var 0) (.int 0)) (.idx (.var 1) (.int 1))) (.bin .mul (.idx (.var 1) (.int 0)) (.idx (.var 0) (.int 1)))) (.cons (.bin .mul (.idx (.var 0) (.int 1)) (.idx (.var 1) (.int 1))) .nil))))
    .nil)⟩
def F_plus : Fn := fnOf [F_fraction] t_plus
def t_minus : Df := ⟨["one", "other"], 2, ["fraction"],
    (.cons (.ret (.call 0 (.cons (.bin .sub (.bin .mul (.idx (.var 0) (.int 0)) (.idx (.var 1) (.int 1))) (.bin .mul (.idx (.var 1) (.int 0)) (.idx (.var 0) (.int 1)))) (.cons (.bin .mul (.idx (.var 0) (.int 1)) (.idx (.var 1) (.int 1))) .nil))))
    .nil)⟩
def F_minus : Fn := fnOf [F_fraction] t_minus
def t_times : Df := ⟨["one", "factor"], 2, ["fraction"],
    (.cons (.ret (.call 0 (.cons (.bin .mul (.idx (.var 0) (.int 0)) (.var 1)) (.cons (.idx (.var 0) (.int 1)) .nil))))
    .nil)⟩
def F_times : Fn := fnOf [F_fraction] t_times
def t_is_less : Df := ⟨["one", "other"], 2, [],
    (.cons (.ret (.cmp .lt (.bin .mul (.idx (.var 0) (.int 0)) (.idx (.var 1) (.int 1))) (.bin .mul (.idx (.var 1) (.int 0)) (.idx (.var 0) (.int 1)))))
    .nil)⟩
def F_is_less : Fn := fnOf [] t_is_less
def t_greatest : Df := ⟨["some", "found", "one"], 1, ["is_less"],
    (.cons (.asg (.name 1) (.con "ZERO" (.tuple [(.int 0), (.int 1)])))
    (.cons (.for (.name 2) (.seq (.var 0))
    (.cons (.asg (.name 1) (.ife (.call 0 (.cons (.var 1) (.cons (.var 2) .nil))) (.var 2) (.var 1)))
    .nil))
    (.cons (.ret (.var 1))
    .nil)))⟩
def F_greatest : Fn := fnOf [F_is_less] t_greatest
def t_ascending : Df := ⟨["some", "found", "one", "at", "other"], 1, ["is_less"],
    (.cons (.asg (.name 1) (.new .nil))
    (.cons (.for (.name 2) (.seq (.var 0))
    (.cons (.asg (.name 3) (.bi .len (.cons (.comp false [("other", 4)] (.name 4) (.seq (.var 1)) (.so (.call 0 (.cons (.var 4) (.cons (.var 2) .nil)))) (.var 4)) .nil)))
    (.cons (.ife (.cmp .nmem (.var 2) (.var 1))
    (.cons (.mth .insert (.var 1) (.cons (.var 3) (.cons (.var 2) .nil)))
    .nil)
    .nil)
    .nil)))
    (.cons (.ret (.frz (.var 1)))
    .nil)))⟩
def F_ascending : Fn := fnOf [F_is_less] t_ascending
def t_is_name : Df := ⟨["value", "sign"], 1, [],
    (.cons (.ret (.and (.isI (.var 0) "str") (.and (.chain .le .le (.int 1) (.bi .len (.cons (.var 0) .nil)) (.con "MAX_NAME" (.int 8))) (.bi .all (.cons (.comp false [("sign", 1)] (.name 1) (.seq (.var 0)) .no (.cmp .mem (.var 1) (.con "LETTERS" (.str (Str.ofString "abcdefghijklmnopqrstuvwxyz"))))) .nil)))))
    .nil)⟩
def F_is_name : Fn := fnOf [] t_is_name
def t_are_walkers : Df := ⟨["value", "row", "one", "other"], 1, ["is_name", "is_fraction"],
    (.cons (.ife (.or (.not (.isI (.var 0) "tuple")) (.not (.chain .le .le (.int 1) (.bi .len (.cons (.var 0) .nil)) (.con "MAX_WALKERS" (.int 8)))))
    (.cons (.ret (.bl false))
    .nil)
    .nil)
    (.cons (.for (.name 1) (.seq (.var 0))
    (.cons (.ife (.or (.not (.isI (.var 1) "tuple")) (.or (.cmp .ne (.bi .len (.cons (.var 1) .nil)) (.int 2)) (.or (.not (.call 0 (.cons (.idx (.var 1) (.int 0)) .nil))) (.not (.call 1 (.cons (.idx (.var 1) (.int 1)) .nil))))))
    (.cons (.ret (.bl false))
    .nil)
    .nil)
    .nil))
    (.cons (.ret (.bi .all (.cons (.comp false [("one", 2), ("other", 3)] (.tup [(.name 2), (.name 3)]) (.zip (.var 0) (.slc (.var 0) (.so (.int 1)) .no)) .no (.cmp .lt (.idx (.var 2) (.int 0)) (.idx (.var 3) (.int 0)))) .nil)))
    .nil)))⟩
def F_are_walkers : Fn := fnOf [F_is_name, F_is_fraction] t_are_walkers
def t_are_positions : Df := ⟨["value", "most", "one", "other"], 2, ["is_fraction", "is_less"],
    (.cons (.ife (.or (.not (.isI (.var 0) "tuple")) (.or (.cmp .gt (.bi .len (.cons (.var 0) .nil)) (.var 1)) (.not (.bi .all (.cons (.comp false [("one", 2)] (.name 2) (.seq (.var 0)) .no (.call 0 (.cons (.var 2) .nil))) .nil)))))
    (.cons (.ret (.bl false))
    .nil)
    .nil)
    (.cons (.ret (.bi .all (.cons (.comp false [("one", 2), ("other", 3)] (.tup [(.name 2), (.name 3)]) (.zip (.var 0) (.slc (.var 0) (.so (.int 1)) .no)) .no (.call 1 (.cons (.var 2) (.cons (.var 3) .nil)))) .nil)))
    .nil))⟩
def F_are_positions : Fn := fnOf [F_is_fraction, F_is_less] t_are_positions
def t_is_world : Df := ⟨["value"], 1, ["are_walkers", "are_positions"],
    (.cons (.ife (.or (.not (.isI (.var 0) "tuple")) (.cmp .ne (.bi .len (.cons (.var 0) .nil)) (.int 2)))
    (.cons (.ret (.bl false))
    .nil)
    .nil)
    (.cons (.ret (.and (.call 0 (.cons (.idx (.var 0) (.int 0)) .nil)) (.call 1 (.cons (.idx (.var 0) (.int 1)) (.cons (.con "MAX_POSTS" (.int 4)) .nil)))))
    .nil))⟩
def F_is_world : Fn := fnOf [F_are_walkers, F_are_positions] t_is_world
def t_require_world : Df := ⟨["world"], 1, ["is_world"],
    (.cons (.ife (.not (.call 0 (.cons (.var 0) .nil)))
    (.cons (.raise "InvalidWorld")
    .nil)
    .nil)
    .nil)⟩
def F_require_world : Fn := fnOf [F_is_world] t_require_world
def t_names_of : Df := ⟨["world", "name", "position"], 1, [],
    (.cons (.ret (.comp false [("name", 1), ("position", 2)] (.tup [(.name 1), (.name 2)]) (.seq (.idx (.var 0) (.int 0))) .no (.var 1)))
    .nil)⟩
def F_names_of : Fn := fnOf [] t_names_of
def t_require_name : Df := ⟨["world", "name"], 2, ["names_of"],
    (.cons (.ife (.or (.not (.isI (.var 1) "str")) (.cmp .nmem (.var 1) (.call 0 (.cons (.var 0) .nil))))
    (.cons (.raise "Unknown")
    .nil)
    .nil)
    .nil)⟩
def F_require_name : Fn := fnOf [F_names_of] t_require_name
def t_require_time : Df := ⟨["time"], 1, ["is_time"],
    (.cons (.ife (.not (.call 0 (.cons (.var 0) .nil)))
    (.cons (.raise "InvalidTime")
    .nil)
    .nil)
    .nil)⟩
def F_require_time : Fn := fnOf [F_is_time] t_require_time
def t_first_sites : Df := ⟨["world", "walkers", "posts", "rows", "position", "row", "names", "name", "place"], 1, ["ascending"],
    (.cons (.asg (.tup [(.name 1), (.name 2)]) (.var 0))
    (.cons (.asg (.name 3) (.new .nil))
    (.cons (.for (.name 4) (.seq (.call 0 (.cons (.bin .add (.comp false [("row", 5)] (.name 5) (.seq (.var 1)) .no (.idx (.var 5) (.int 1))) (.bi .list (.cons (.var 2) .nil))) .nil)))
    (.cons (.asg (.name 6) (.bi .tuple (.cons (.comp false [("name", 7), ("place", 8)] (.tup [(.name 7), (.name 8)]) (.seq (.var 1)) (.so (.cmp .eq (.var 8) (.var 4))) (.var 7)) .nil)))
    (.cons (.mth .append (.var 3) (.cons (.tup (.cons (.var 4) (.cons (.var 6) (.cons (.cmp .mem (.var 4) (.var 2)) .nil)))) .nil))
    .nil)))
    (.cons (.ret (.frz (.var 3)))
    .nil))))⟩
def F_first_sites : Fn := fnOf [F_ascending] t_first_sites
def t_speed_of : Df := ⟨["sites", "at", "position", "names", "is_post", "to_left", "to_right"], 2, ["minus", "is_less"],
    (.cons (.asg (.tup [(.name 2), (.name 3), (.name 4)]) (.idx (.var 0) (.var 1)))
    (.cons (.ife (.or (.var 4) (.cmp .eq (.bi .len (.cons (.var 0) .nil)) (.int 1)))
    (.cons (.ret (.int 0))
    .nil)
    .nil)
    (.cons (.ife (.cmp .eq (.var 1) (.int 0))
    (.cons (.ret (.int 1))
    .nil)
    .nil)
    (.cons (.ife (.cmp .eq (.var 1) (.bin .sub (.bi .len (.cons (.var 0) .nil)) (.int 1)))
    (.cons (.ret (.neg (.int 1)))
    .nil)
    .nil)
    (.cons (.par [5, 6] (.cons (.call 0 (.cons (.var 2) (.cons (.idx (.idx (.var 0) (.bin .sub (.var 1) (.int 1))) (.int 0)) .nil))) (.cons (.call 0 (.cons (.idx (.idx (.var 0) (.bin .add (.var 1) (.int 1))) (.int 0)) (.cons (.var 2) .nil))) .nil)))
    (.cons (.ret (.ife (.call 1 (.cons (.var 5) (.cons (.var 6) .nil))) (.neg (.int 1)) (.int 1)))
    .nil))))))⟩
def F_speed_of : Fn := fnOf [F_minus, F_is_less] t_speed_of
def t_speeds_of : Df := ⟨["sites", "at"], 1, ["speed_of"],
    (.cons (.ret (.comp false [("at", 1)] (.name 1) (.rng1 (.bi .len (.cons (.var 0) .nil))) .no (.call 0 (.cons (.var 0) (.cons (.var 1) .nil)))))
    .nil)⟩
def F_speeds_of : Fn := fnOf [F_speed_of] t_speeds_of
def t_next_contact : Df := ⟨["sites", "speeds", "best", "at", "closing", "gap", "wait"], 1, ["speeds_of", "minus", "fraction", "is_less"],
    (.cons (.par [1, 2] (.cons (.call 0 (.cons (.var 0) .nil)) (.cons .non .nil)))
    (.cons (.for (.name 3) (.rng1 (.bin .sub (.bi .len (.cons (.var 0) .nil)) (.int 1)))
    (.cons (.asg (.name 4) (.bin .sub (.idx (.var 1) (.var 3)) (.idx (.var 1) (.bin .add (.var 3) (.int 1)))))
    (.cons (.ife (.cmp .gt (.var 4) (.int 0))
    (.cons (.asg (.name 5) (.call 1 (.cons (.idx (.idx (.var 0) (.bin .add (.var 3) (.int 1))) (.int 0)) (.cons (.idx (.idx (.var 0) (.var 3)) (.int 0)) .nil))))
    (.cons (.asg (.name 6) (.call 2 (.cons (.idx (.var 5) (.int 0)) (.cons (.bin .mul (.idx (.var 5) (.int 1)) (.var 4)) .nil))))
    (.cons (.asg (.name 2) (.ife (.or (.isN (.var 2)) (.call 3 (.cons (.var 6) (.cons (.var 2) .nil)))) (.var 6) (.var 2)))
    .nil)))
    .nil)
    .nil)))
    (.cons (.ret (.var 2))
    .nil)))⟩
def F_next_contact : Fn := fnOf [F_speeds_of, F_minus, F_fraction, F_is_less] t_next_contact
def t_moved : Df := ⟨["sites", "wait", "rows", "position", "names", "is_post", "speed", "place"], 2, ["speeds_of", "times", "plus"],
    (.cons (.asg (.name 2) (.new .nil))
    (.cons (.for (.tup [(.tup [(.name 3), (.name 4), (.name 5)]), (.name 6)]) (.zip (.var 0) (.call 0 (.cons (.var 0) .nil)))
    (.cons (.asg (.name 7) (.call 2 (.cons (.var 3) (.cons (.call 1 (.cons (.var 1) (.cons (.var 6) .nil))) .nil))))
    (.cons (.ife (.and (.cmp .ne (.var 2) (.lst .nil)) (.cmp .eq (.idx (.idx (.var 2) (.neg (.int 1))) (.int 0)) (.var 7)))
    (.cons (.setI (.var 2) (.neg (.int 1)) (.tup (.cons (.var 7) (.cons (.bi .tuple (.cons (.bi .sorted (.cons (.bin .add (.idx (.idx (.var 2) (.neg (.int 1))) (.int 1)) (.var 4)) .nil)) .nil)) (.cons (.or (.idx (.idx (.var 2) (.neg (.int 1))) (.int 2)) (.var 5)) .nil)))))
    .nil)
    (.cons (.mth .append (.var 2) (.cons (.tup (.cons (.var 7) (.cons (.var 4) (.cons (.var 5) .nil)))) .nil))
    .nil))
    .nil)))
    (.cons (.ret (.frz (.var 2)))
    .nil)))⟩
def F_moved : Fn := fnOf [F_speeds_of, F_times, F_plus] t_moved
def t_history : Df := ⟨["world", "found", "time", "sites", "wait"], 1, ["first_sites", "next_contact", "plus", "moved"],
    (.cons (.asg (.name 1) (.new (.cons (.tup (.cons (.con "ZERO" (.tuple [(.int 0), (.int 1)])) (.cons (.call 0 (.cons (.var 0) .nil)) .nil))) .nil)))
    (.cons (.whil fuel (.bl true)
    (.cons (.asg (.tup [(.name 2), (.name 3)]) (.idx (.var 1) (.neg (.int 1))))
    (.cons (.asg (.name 4) (.call 1 (.cons (.var 3) .nil)))
    (.cons (.ife (.isN (.var 4))
    (.cons (.ret (.frz (.var 1)))
    .nil)
    .nil)
    (.cons (.mth .append (.var 1) (.cons (.tup (.cons (.call 2 (.cons (.var 2) (.cons (.var 4) .nil))) (.cons (.call 3 (.cons (.var 3) (.cons (.var 4) .nil))) .nil))) .nil))
    .nil)))))
    .nil))⟩
def F_history : Fn := fnOf [F_first_sites, F_next_contact, F_plus, F_moved] t_history
def t_sites_at : Df := ⟨["states", "time", "row", "state"], 2, ["is_less", "minus", "moved"],
    (.cons (.asg (.name 2) (.idx (.comp false [("state", 3)] (.name 3) (.seq (.var 0)) (.so (.not (.call 0 (.cons (.var 1) (.cons (.idx (.var 3) (.int 0)) .nil))))) (.var 3)) (.neg (.int 1))))
    (.cons (.ret (.ife (.cmp .ne (.idx (.var 2) (.int 0)) (.var 1)) (.call 2 (.cons (.idx (.var 2) (.int 1)) (.cons (.call 1 (.cons (.var 1) (.cons (.idx (.var 2) (.int 0)) .nil))) .nil))) (.idx (.var 2) (.int 1))))
    .nil))⟩
def F_sites_at : Fn := fnOf [F_is_less, F_minus, F_moved] t_sites_at
def t_place_of : Df := ⟨["sites", "name", "at", "row"], 2, [],
    (.cons (.ret (.idx (.comp false [("at", 2), ("row", 3)] (.tup [(.name 2), (.name 3)]) (.enum (.var 0)) (.so (.cmp .mem (.var 1) (.idx (.var 3) (.int 1)))) (.var 2)) (.int 0)))
    .nil)⟩
def F_place_of : Fn := fnOf [] t_place_of
def t_all_positions : Df := ⟨["world", "states", "time", "sites", "name"], 3, ["sites_at", "names_of", "place_of"],
    (.cons (.asg (.name 3) (.call 0 (.cons (.var 1) (.cons (.var 2) .nil))))
    (.cons (.ret (.comp true [("name", 4)] (.name 4) (.seq (.call 1 (.cons (.var 0) .nil))) .no (.tup (.cons (.var 4) (.cons (.idx (.idx (.var 3) (.call 2 (.cons (.var 3) (.cons (.var 4) .nil)))) (.int 0)) .nil)))))
    .nil))⟩
def F_all_positions : Fn := fnOf [F_sites_at, F_names_of, F_place_of] t_all_positions
def t_positions_at : Df := ⟨["world", "time"], 2, ["require_world", "require_time", "history", "all_positions"],
    (.cons (.callS 0 (.cons (.var 0) .nil))
    (.cons (.callS 1 (.cons (.var 1) .nil))
    (.cons (.ret (.call 3 (.cons (.var 0) (.cons (.call 2 (.cons (.var 0) .nil)) (.cons (.var 1) .nil)))))
    .nil)))⟩
def F_positions_at : Fn := fnOf [F_require_world, F_require_time, F_history, F_all_positions] t_positions_at
def t_direction : Df := ⟨["world", "name", "time", "sites"], 3, ["require_world", "require_name", "require_time", "history", "sites_at", "place_of", "speed_of"],
    (.cons (.callS 0 (.cons (.var 0) .nil))
    (.cons (.callS 1 (.cons (.var 0) (.cons (.var 1) .nil)))
    (.cons (.callS 2 (.cons (.var 2) .nil))
    (.cons (.asg (.name 3) (.call 4 (.cons (.call 3 (.cons (.var 0) .nil)) (.cons (.var 2) .nil))))
    (.cons (.ret (.call 6 (.cons (.var 3) (.cons (.call 5 (.cons (.var 3) (.cons (.var 1) .nil))) .nil))))
    .nil)))))⟩
def F_direction : Fn := fnOf [F_require_world, F_require_name, F_require_time, F_history, F_sites_at, F_place_of, F_speed_of] t_direction
def t_target : Df := ⟨["world", "name", "time", "sites", "at", "speed", "here", "there"], 3, ["require_world", "require_name", "require_time", "history", "sites_at", "place_of", "speed_of", "minus", "times"],
    (.cons (.callS 0 (.cons (.var 0) .nil))
    (.cons (.callS 1 (.cons (.var 0) (.cons (.var 1) .nil)))
    (.cons (.callS 2 (.cons (.var 2) .nil))
    (.cons (.asg (.name 3) (.call 4 (.cons (.call 3 (.cons (.var 0) .nil)) (.cons (.var 2) .nil))))
    (.cons (.asg (.name 4) (.call 5 (.cons (.var 3) (.cons (.var 1) .nil))))
    (.cons (.asg (.name 5) (.call 6 (.cons (.var 3) (.cons (.var 4) .nil))))
    (.cons (.ife (.cmp .eq (.var 5) (.int 0))
    (.cons (.ret .non)
    .nil)
    .nil)
    (.cons (.par [6, 7] (.cons (.idx (.idx (.var 3) (.var 4)) (.int 0)) (.cons (.idx (.idx (.var 3) (.bin .add (.var 4) (.var 5))) (.int 0)) .nil)))
    (.cons (.ret (.tup (.cons (.call 8 (.cons (.call 7 (.cons (.var 7) (.cons (.var 6) .nil))) (.cons (.var 5) .nil))) (.cons (.var 7) .nil))))
    .nil)))))))))⟩
def F_target : Fn := fnOf [F_require_world, F_require_name, F_require_time, F_history, F_sites_at, F_place_of, F_speed_of, F_minus, F_times] t_target
def t_gaps_at : Df := ⟨["world", "time", "sites", "speeds", "found", "at"], 2, ["require_world", "require_time", "history", "sites_at", "speeds_of", "minus"],
    (.cons (.callS 0 (.cons (.var 0) .nil))
    (.cons (.callS 1 (.cons (.var 1) .nil))
    (.cons (.asg (.name 2) (.call 3 (.cons (.call 2 (.cons (.var 0) .nil)) (.cons (.var 1) .nil))))
    (.cons (.par [3, 4] (.cons (.call 4 (.cons (.var 2) .nil)) (.cons (.new .nil) .nil)))
    (.cons (.for (.name 5) (.rng1 (.bin .sub (.bi .len (.cons (.var 2) .nil)) (.int 1)))
    (.cons (.mth .append (.var 4) (.cons (.tup (.cons (.call 5 (.cons (.idx (.idx (.var 2) (.bin .add (.var 5) (.int 1))) (.int 0)) (.cons (.idx (.idx (.var 2) (.var 5)) (.int 0)) .nil))) (.cons (.bin .sub (.idx (.var 3) (.bin .add (.var 5) (.int 1))) (.idx (.var 3) (.var 5))) .nil))) .nil))
    .nil))
    (.cons (.ret (.frz (.var 4)))
    .nil))))))⟩
def F_gaps_at : Fn := fnOf [F_require_world, F_require_time, F_history, F_sites_at, F_speeds_of, F_minus] t_gaps_at
def t_group_names : Df := ⟨["group"], 1, [],
    (.cons (.ret (.idx (.var 0) (.int 1)))
    .nil)⟩
def F_group_names : Fn := fnOf [] t_group_names
def t_joined_rows : Df := ⟨["state", "later", "time", "found", "position", "names", "is_post", "groups", "at", "row", "speed", "group"], 2, ["speed_of", "group_names"],
    (.cons (.parC [(.name 2), (.name 3)] (.cons (.idx (.var 1) (.int 0)) (.cons (.new .nil) .nil)))
    (.cons (.for (.tup [(.name 4), (.name 5), (.name 6)]) (.seq (.idx (.var 1) (.int 1)))
    (.cons (.asg (.name 7) (.new .nil))
    (.cons (.for (.tup [(.name 8), (.name 9)]) (.enum (.idx (.var 0) (.int 1)))
    (.cons (.asg (.name 10) (.call 0 (.cons (.idx (.var 0) (.int 1)) (.cons (.var 8) .nil))))
    (.cons (.ife (.and (.cmp .ne (.idx (.var 9) (.int 1)) (.tup .nil)) (.and (.cmp .mem (.idx (.idx (.var 9) (.int 1)) (.int 0)) (.var 5)) (.or (.cmp .ne (.var 10) (.int 0)) (.not (.var 6)))))
    (.cons (.mth .append (.var 7) (.cons (.tup (.cons (.var 10) (.cons (.idx (.var 9) (.int 1)) .nil))) .nil))
    .nil)
    .nil)
    .nil)))
    (.cons (.ife (.var 6)
    (.cons (.mth .extend (.var 3) (.cons (.comp false [("speed", 10), ("group", 11)] (.tup [(.name 10), (.name 11)]) (.seq (.sortK 1 (.var 7))) .no (.tup (.cons (.var 2) (.cons (.var 4) (.cons (.var 11) (.cons (.bl true) .nil)))))) .nil))
    .nil)
    (.cons (.ife (.cmp .gt (.bi .len (.cons (.var 7) .nil)) (.int 1))
    (.cons (.mth .append (.var 3) (.cons (.tup (.cons (.var 2) (.cons (.var 4) (.cons (.var 5) (.cons (.bl false) .nil))))) .nil))
    .nil)
    .nil)
    .nil))
    .nil))))
    (.cons (.ret (.frz (.var 3)))
    .nil)))⟩
def F_joined_rows : Fn := fnOf [F_speed_of, F_group_names] t_joined_rows
def t_all_meetings : Df := ⟨["states", "found", "state", "later"], 1, ["joined_rows"],
    (.cons (.asg (.name 1) (.new .nil))
    (.cons (.for (.tup [(.name 2), (.name 3)]) (.zip (.var 0) (.slc (.var 0) (.so (.int 1)) .no))
    (.cons (.mth .extend (.var 1) (.cons (.call 0 (.cons (.var 2) (.cons (.var 3) .nil))) .nil))
    .nil))
    (.cons (.ret (.frz (.var 1)))
    .nil)))⟩
def F_all_meetings : Fn := fnOf [F_joined_rows] t_all_meetings
def t_meetings : Df := ⟨["world"], 1, ["require_world", "history", "all_meetings"],
    (.cons (.callS 0 (.cons (.var 0) .nil))
    (.cons (.ret (.call 2 (.cons (.call 1 (.cons (.var 0) .nil)) .nil)))
    .nil))⟩
def F_meetings : Fn := fnOf [F_require_world, F_history, F_all_meetings] t_meetings
def t_together_since : Df := ⟨["states", "first", "second", "time", "sites"], 3, ["place_of"],
    (.cons (.for (.tup [(.name 3), (.name 4)]) (.seq (.var 0))
    (.cons (.ife (.cmp .eq (.call 0 (.cons (.var 4) (.cons (.var 1) .nil))) (.call 0 (.cons (.var 4) (.cons (.var 2) .nil))))
    (.cons (.ret (.var 3))
    .nil)
    .nil)
    .nil))
    (.cons (.ret .non)
    .nil))⟩
def F_together_since : Fn := fnOf [F_place_of] t_together_since
def t_first_together : Df := ⟨["world", "first", "second"], 3, ["require_world", "require_name", "history", "together_since"],
    (.cons (.callS 0 (.cons (.var 0) .nil))
    (.cons (.callS 1 (.cons (.var 0) (.cons (.var 1) .nil)))
    (.cons (.callS 1 (.cons (.var 0) (.cons (.var 2) .nil)))
    (.cons (.ret (.call 3 (.cons (.call 2 (.cons (.var 0) .nil)) (.cons (.var 1) (.cons (.var 2) .nil)))))
    .nil))))⟩
def F_first_together : Fn := fnOf [F_require_world, F_require_name, F_history, F_together_since] t_first_together
def t_steps_of : Df := ⟨["states", "name", "found", "time", "sites", "at"], 2, ["place_of", "speed_of"],
    (.cons (.asg (.name 2) (.new .nil))
    (.cons (.for (.tup [(.name 3), (.name 4)]) (.seq (.var 0))
    (.cons (.asg (.name 5) (.call 0 (.cons (.var 4) (.cons (.var 1) .nil))))
    (.cons (.mth .append (.var 2) (.cons (.tup (.cons (.var 3) (.cons (.idx (.idx (.var 4) (.var 5)) (.int 0)) (.cons (.call 1 (.cons (.var 4) (.cons (.var 5) .nil))) .nil)))) .nil))
    .nil)))
    (.cons (.ret (.frz (.var 2)))
    .nil)))⟩
def F_steps_of : Fn := fnOf [F_place_of, F_speed_of] t_steps_of
def t_turns : Df := ⟨["world", "name", "rows", "row", "later"], 2, ["require_world", "require_name", "history", "steps_of"],
    (.cons (.callS 0 (.cons (.var 0) .nil))
    (.cons (.callS 1 (.cons (.var 0) (.cons (.var 1) .nil)))
    (.cons (.asg (.name 2) (.call 3 (.cons (.call 2 (.cons (.var 0) .nil)) (.cons (.var 1) .nil))))
    (.cons (.ret (.comp false [("row", 3), ("later", 4)] (.tup [(.name 3), (.name 4)]) (.zip (.var 2) (.slc (.var 2) (.so (.int 1)) .no)) (.so (.cmp .eq (.bin .mul (.idx (.var 3) (.int 2)) (.idx (.var 4) (.int 2))) (.neg (.int 1)))) (.slc (.var 4) .no (.so (.int 2)))))
    .nil))))⟩
def F_turns : Fn := fnOf [F_require_world, F_require_name, F_history, F_steps_of] t_turns
def t_end_of : Df := ⟨["states", "name", "rows", "found", "row"], 2, ["steps_of"],
    (.cons (.asg (.name 2) (.call 0 (.cons (.var 0) (.cons (.var 1) .nil))))
    (.cons (.asg (.name 3) (.idx (.var 2) (.neg (.int 1))))
    (.cons (.for (.name 4) (.seq (.rev (.var 2)))
    (.cons (.ife (.cmp .eq (.idx (.var 4) (.int 2)) (.int 0))
    (.cons (.asg (.name 3) (.var 4))
    .nil)
    .nil)
    .nil))
    (.cons (.ret (.slc (.var 3) .no (.so (.int 2))))
    .nil))))⟩
def F_end_of : Fn := fnOf [F_steps_of] t_end_of
def t_final : Df := ⟨["world", "name"], 2, ["require_world", "require_name", "history", "end_of"],
    (.cons (.callS 0 (.cons (.var 0) .nil))
    (.cons (.callS 1 (.cons (.var 0) (.cons (.var 1) .nil)))
    (.cons (.ret (.call 3 (.cons (.call 2 (.cons (.var 0) .nil)) (.cons (.var 1) .nil))))
    .nil)))⟩
def F_final : Fn := fnOf [F_require_world, F_require_name, F_history, F_end_of] t_final
def t_finished : Df := ⟨["world", "states", "ends", "name", "last", "time"], 1, ["require_world", "history", "names_of", "end_of", "greatest"],
    (.cons (.callS 0 (.cons (.var 0) .nil))
    (.cons (.asg (.name 1) (.call 1 (.cons (.var 0) .nil)))
    (.cons (.asg (.name 2) (.comp false [("name", 3)] (.name 3) (.seq (.call 2 (.cons (.var 0) .nil))) .no (.tup (.cons (.var 3) (.cons (.idx (.call 3 (.cons (.var 1) (.cons (.var 3) .nil))) (.int 0)) .nil)))))
    (.cons (.asg (.name 4) (.call 4 (.cons (.comp false [("name", 3), ("time", 5)] (.tup [(.name 3), (.name 5)]) (.seq (.var 2)) .no (.var 5)) .nil)))
    (.cons (.ret (.tup (.cons (.var 4) (.cons (.bi .tuple (.cons (.comp false [("name", 3), ("time", 5)] (.tup [(.name 3), (.name 5)]) (.seq (.var 2)) (.so (.cmp .eq (.var 5) (.var 4))) (.var 3)) .nil)) .nil))))
    .nil)))))⟩
def F_finished : Fn := fnOf [F_require_world, F_history, F_names_of, F_end_of, F_greatest] t_finished
def t_separations : Df := ⟨["world", "states", "found", "left", "right", "inner", "name", "place"], 1, ["require_world", "history", "is_less", "end_of"],
    (.cons (.callS 0 (.cons (.var 0) .nil))
    (.cons (.parC [(.name 1), (.name 2)] (.cons (.call 1 (.cons (.var 0) .nil)) (.cons (.new .nil) .nil)))
    (.cons (.for (.tup [(.name 3), (.name 4)]) (.zip (.idx (.var 0) (.int 1)) (.slc (.idx (.var 0) (.int 1)) (.so (.int 1)) .no))
    (.cons (.asg (.name 5) (.comp false [("name", 6), ("place", 7)] (.tup [(.name 6), (.name 7)]) (.seq (.idx (.var 0) (.int 0))) (.so (.and (.call 2 (.cons (.var 3) (.cons (.var 7) .nil))) (.call 2 (.cons (.var 7) (.cons (.var 4) .nil))))) (.var 6)))
    (.cons (.ife (.cmp .ne (.var 5) (.lst .nil))
    (.cons (.mth .append (.var 2) (.cons (.tup (.cons (.var 3) (.cons (.var 4) (.cons (.bi .len (.cons (.comp false [("name", 6)] (.name 6) (.seq (.var 5)) (.so (.cmp .eq (.idx (.call 3 (.cons (.var 1) (.cons (.var 6) .nil))) (.int 1)) (.var 3))) (.var 6)) .nil)) .nil)))) .nil))
    .nil)
    .nil)
    .nil)))
    (.cons (.ret (.frz (.var 2)))
    .nil))))⟩
def F_separations : Fn := fnOf [F_require_world, F_history, F_is_less, F_end_of] t_separations
def t_path_of : Df := ⟨["states", "name", "rows", "found", "row"], 2, ["steps_of"],
    (.cons (.asg (.name 2) (.call 0 (.cons (.var 0) (.cons (.var 1) .nil))))
    (.cons (.asg (.name 3) (.slcM (.var 2) .no (.so (.int 1))))
    (.cons (.for (.name 4) (.seq (.slc (.var 2) (.so (.int 1)) .no))
    (.cons (.ife (.cmp .ne (.idx (.var 4) (.int 2)) (.idx (.idx (.var 3) (.neg (.int 1))) (.int 2)))
    (.cons (.mth .append (.var 3) (.cons (.var 4) .nil))
    .nil)
    .nil)
    .nil))
    (.cons (.ret (.frz (.var 3)))
    .nil))))⟩
def F_path_of : Fn := fnOf [F_steps_of] t_path_of
def t_undisturbed : Df := ⟨["world", "states", "other", "name"], 3, ["names_of", "path_of"],
    (.cons (.ret (.bi .all (.cons (.comp false [("name", 3)] (.name 3) (.seq (.call 0 (.cons (.var 0) .nil))) .no (.cmp .eq (.call 1 (.cons (.var 1) (.cons (.var 3) .nil))) (.call 1 (.cons (.var 2) (.cons (.var 3) .nil))))) .nil)))
    .nil)⟩
def F_undisturbed : Fn := fnOf [F_names_of, F_path_of] t_undisturbed
def t_removable : Df := ⟨["world", "walkers", "posts", "states", "found", "row", "rest", "one"], 1, ["require_world", "history", "undisturbed"],
    (.cons (.callS 0 (.cons (.var 0) .nil))
    (.cons (.asg (.tup [(.name 1), (.name 2)]) (.var 0))
    (.cons (.par [3, 4] (.cons (.call 1 (.cons (.var 0) .nil)) (.cons (.new .nil) .nil)))
    (.cons (.for (.name 5) (.seq (.var 1))
    (.cons (.asg (.name 6) (.tup (.cons (.bi .tuple (.cons (.comp false [("one", 7)] (.name 7) (.seq (.var 1)) (.so (.cmp .ne (.var 7) (.var 5))) (.var 7)) .nil)) (.cons (.var 2) .nil))))
    (.cons (.ife (.and (.cmp .ne (.idx (.var 6) (.int 0)) (.tup .nil)) (.call 2 (.cons (.var 6) (.cons (.var 3) (.cons (.call 1 (.cons (.var 6) .nil)) .nil)))))
    (.cons (.mth .append (.var 4) (.cons (.idx (.var 5) (.int 0)) .nil))
    .nil)
    .nil)
    .nil)))
    (.cons (.ret (.bi .tuple (.cons (.var 4) .nil)))
    .nil)))))⟩
def F_removable : Fn := fnOf [F_require_world, F_history, F_undisturbed] t_removable
def t_require_range : Df := ⟨["low", "high", "value"], 2, ["is_integer"],
    (.cons (.for (.name 2) (.seq (.tup (.cons (.var 0) (.cons (.var 1) .nil))))
    (.cons (.ife (.not (.call 0 (.cons (.var 2) (.cons (.neg (.con "MAX_NUMBER" (.int 1000000))) (.cons (.con "MAX_NUMBER" (.int 1000000)) .nil)))))
    (.cons (.raise "InvalidRange")
    .nil)
    .nil)
    .nil))
    (.cons (.ife (.not (.chain .le .le (.int 0) (.bin .sub (.var 1) (.var 0)) (.con "MAX_RANGE" (.int 200))))
    (.cons (.raise "InvalidRange")
    .nil)
    .nil)
    .nil))⟩
def F_require_range : Fn := fnOf [F_is_integer] t_require_range
def t_harmless : Df := ⟨["world", "low", "high", "states", "found", "place", "wider"], 3, ["require_world", "require_range", "history", "undisturbed"],
    (.cons (.callS 0 (.cons (.var 0) .nil))
    (.cons (.callS 1 (.cons (.var 1) (.cons (.var 2) .nil)))
    (.cons (.ife (.cmp .eq (.bi .len (.cons (.idx (.var 0) (.int 0)) .nil)) (.con "MAX_WALKERS" (.int 8)))
    (.cons (.raise "TooMany")
    .nil)
    .nil)
    (.cons (.par [3, 4] (.cons (.call 2 (.cons (.var 0) .nil)) (.cons (.new .nil) .nil)))
    (.cons (.for (.name 5) (.rng2 (.var 1) (.bin .add (.var 2) (.int 1)))
    (.cons (.asg (.name 6) (.tup (.cons (.bin .add (.tup (.cons (.tup (.cons (.con "NEWCOMER" (.str (Str.ofString "A"))) (.cons (.tup (.cons (.var 5) (.cons (.int 1) .nil))) .nil))) .nil)) (.idx (.var 0) (.int 0))) (.cons (.idx (.var 0) (.int 1)) .nil))))
    (.cons (.ife (.call 3 (.cons (.var 0) (.cons (.var 3) (.cons (.call 2 (.cons (.var 6) .nil)) .nil))))
    (.cons (.mth .append (.var 4) (.cons (.var 5) .nil))
    .nil)
    .nil)
    .nil)))
    (.cons (.ret (.frz (.var 4)))
    .nil))))))⟩
def F_harmless : Fn := fnOf [F_require_world, F_require_range, F_history, F_undisturbed] t_harmless
def t_possible_starts : Df := ⟨["world", "name", "first", "second", "time", "low", "high", "one", "found", "place", "walkers", "where"], 7, ["require_world", "require_name", "require_time", "require_range", "history", "together_since"],
    (.cons (.callS 0 (.cons (.var 0) .nil))
    (.cons (.for (.name 7) (.seq (.tup (.cons (.var 1) (.cons (.var 2) (.cons (.var 3) .nil)))))
    (.cons (.callS 1 (.cons (.var 0) (.cons (.var 7) .nil)))
    .nil))
    (.cons (.ife (.notN (.var 4))
    (.cons (.callS 2 (.cons (.var 4) .nil))
    .nil)
    .nil)
    (.cons (.callS 3 (.cons (.var 5) (.cons (.var 6) .nil)))
    (.cons (.asg (.name 8) (.new .nil))
    (.cons (.for (.name 9) (.rng2 (.var 5) (.bin .add (.var 6) (.int 1)))
    (.cons (.asg (.name 10) (.bi .tuple (.cons (.comp false [("one", 7), ("where", 11)] (.tup [(.name 7), (.name 11)]) (.seq (.idx (.var 0) (.int 0))) .no (.tup (.cons (.var 7) (.cons (.ife (.cmp .eq (.var 7) (.var 1)) (.tup (.cons (.var 9) (.cons (.int 1) .nil))) (.var 11)) .nil)))) .nil)))
    (.cons (.ife (.cmp .eq (.call 5 (.cons (.call 4 (.cons (.tup (.cons (.var 10) (.cons (.idx (.var 0) (.int 1)) .nil))) .nil)) (.cons (.var 2) (.cons (.var 3) .nil)))) (.var 4))
    (.cons (.mth .append (.var 8) (.cons (.var 9) .nil))
    .nil)
    .nil)
    .nil)))
    (.cons (.ret (.frz (.var 8)))
    .nil)))))))⟩
def F_possible_starts : Fn := fnOf [F_require_world, F_require_name, F_require_time, F_require_range, F_history, F_together_since] t_possible_starts
def t_subsets : Df := ⟨["some", "found", "size", "row", "begin", "at"], 1, [],
    (.cons (.asg (.name 1) (.lst (.cons (.tup .nil) .nil)))
    (.cons (.for (.name 2) (.rng1 (.bi .len (.cons (.var 0) .nil)))
    (.cons (.for (.name 3) (.seq (.comp false [("row", 3)] (.name 3) (.seq (.var 1)) (.so (.cmp .eq (.bi .len (.cons (.var 3) .nil)) (.var 2))) (.var 3)))
    (.cons (.asg (.name 4) (.ife (.cmp .ne (.var 3) (.tup .nil)) (.bin .add (.idx (.var 3) (.neg (.int 1))) (.int 1)) (.int 0)))
    (.cons (.asg (.name 1) (.bin .add (.var 1) (.comp false [("at", 5)] (.name 5) (.rng2 (.var 4) (.bi .len (.cons (.var 0) .nil))) .no (.bin .add (.var 3) (.tup (.cons (.var 5) .nil))))))
    .nil)))
    .nil))
    (.cons (.ret (.comp false [("row", 3)] (.name 3) (.seq (.var 1)) .no (.bi .tuple (.cons (.comp false [("at", 5)] (.name 5) (.seq (.var 3)) .no (.idx (.var 0) (.var 5))) .nil))))
    .nil)))⟩
def F_subsets : Fn := fnOf [] t_subsets
def t_all_home : Df := ⟨["world", "time", "states", "name", "when", "where"], 2, ["history", "names_of", "end_of", "is_less"],
    (.cons (.asg (.name 2) (.call 0 (.cons (.var 0) .nil)))
    (.cons (.for (.name 3) (.seq (.call 1 (.cons (.var 0) .nil)))
    (.cons (.asg (.tup [(.name 4), (.name 5)]) (.call 2 (.cons (.var 2) (.cons (.var 3) .nil))))
    (.cons (.ife (.or (.cmp .nmem (.var 5) (.idx (.var 0) (.int 1))) (.call 3 (.cons (.var 1) (.cons (.var 4) .nil))))
    (.cons (.ret (.bl false))
    .nil)
    .nil)
    .nil)))
    (.cons (.ret (.bl true))
    .nil)))⟩
def F_all_home : Fn := fnOf [F_history, F_names_of, F_end_of, F_is_less] t_all_home
def t_merged : Df := ⟨["posts", "more", "found", "one", "post"], 2, ["is_less"],
    (.cons (.asg (.name 2) (.newL (.var 0)))
    (.cons (.for (.name 3) (.seq (.var 1))
    (.cons (.mth .insert (.var 2) (.cons (.bi .len (.cons (.comp false [("post", 4)] (.name 4) (.seq (.var 2)) (.so (.call 0 (.cons (.var 4) (.cons (.var 3) .nil)))) (.var 4)) .nil)) (.cons (.var 3) .nil)))
    .nil))
    (.cons (.ret (.bi .tuple (.cons (.var 2) .nil)))
    .nil)))⟩
def F_merged : Fn := fnOf [F_is_less] t_merged
def t_fewest_posts : Df := ⟨["world", "candidates", "time", "one", "more"], 3, ["require_world", "are_positions", "require_time", "subsets", "merged", "all_home"],
    (.cons (.callS 0 (.cons (.var 0) .nil))
    (.cons (.ife (.or (.not (.call 1 (.cons (.var 1) (.cons (.con "MAX_CANDIDATES" (.int 6)) .nil)))) (.bi .any (.cons (.comp false [("one", 3)] (.name 3) (.seq (.var 1)) .no (.cmp .mem (.var 3) (.idx (.var 0) (.int 1)))) .nil)))
    (.cons (.raise "InvalidPosition")
    .nil)
    .nil)
    (.cons (.callS 2 (.cons (.var 2) .nil))
    (.cons (.for (.name 4) (.seq (.call 3 (.cons (.var 1) .nil)))
    (.cons (.ife (.call 5 (.cons (.tup (.cons (.idx (.var 0) (.int 0)) (.cons (.call 4 (.cons (.idx (.var 0) (.int 1)) (.cons (.var 4) .nil))) .nil))) (.cons (.var 2) .nil)))
    (.cons (.ret (.var 4))
    .nil)
    .nil)
    .nil))
    (.cons (.ret .non)
    .nil)))))⟩
def F_fewest_posts : Fn := fnOf [F_require_world, F_are_positions, F_require_time, F_subsets, F_merged, F_all_home] t_fewest_posts
def t_require_two : Df := ⟨["one", "other"], 2, ["require_world", "names_of"],
    (.cons (.callS 0 (.cons (.var 0) .nil))
    (.cons (.callS 0 (.cons (.var 1) .nil))
    (.cons (.ife (.cmp .ne (.call 1 (.cons (.var 0) .nil)) (.call 1 (.cons (.var 1) .nil)))
    (.cons (.raise "InvalidWorld")
    .nil)
    .nil)
    .nil)))⟩
def F_require_two : Fn := fnOf [F_require_world, F_names_of] t_require_two
def t_directions : Df := ⟨["world", "states", "time", "sites", "name"], 3, ["sites_at", "names_of", "place_of", "speed_of"],
    (.cons (.asg (.name 3) (.call 0 (.cons (.var 1) (.cons (.var 2) .nil))))
    (.cons (.ret (.comp false [("name", 4)] (.name 4) (.seq (.call 1 (.cons (.var 0) .nil))) .no (.call 3 (.cons (.var 3) (.cons (.call 2 (.cons (.var 3) (.cons (.var 4) .nil))) .nil)))))
    .nil))⟩
def F_directions : Fn := fnOf [F_sites_at, F_names_of, F_place_of, F_speed_of] t_directions
def t_same_until : Df := ⟨["one", "other", "first", "second", "time", "state"], 2, ["require_two", "history", "all_positions", "ascending", "directions"],
    (.cons (.callS 0 (.cons (.var 0) (.cons (.var 1) .nil)))
    (.cons (.par [2, 3] (.cons (.call 1 (.cons (.var 0) .nil)) (.cons (.call 1 (.cons (.var 1) .nil)) .nil)))
    (.cons (.ife (.cmp .ne (.call 2 (.cons (.var 0) (.cons (.var 2) (.cons (.con "ZERO" (.tuple [(.int 0), (.int 1)])) .nil)))) (.call 2 (.cons (.var 1) (.cons (.var 3) (.cons (.con "ZERO" (.tuple [(.int 0), (.int 1)])) .nil)))))
    (.cons (.ret (.con "ZERO" (.tuple [(.int 0), (.int 1)])))
    .nil)
    .nil)
    (.cons (.for (.name 4) (.seq (.call 3 (.cons (.comp false [("state", 5)] (.name 5) (.seq (.bin .add (.var 2) (.var 3))) .no (.idx (.var 5) (.int 0))) .nil)))
    (.cons (.ife (.cmp .ne (.call 4 (.cons (.var 0) (.cons (.var 2) (.cons (.var 4) .nil)))) (.call 4 (.cons (.var 1) (.cons (.var 3) (.cons (.var 4) .nil)))))
    (.cons (.ret (.var 4))
    .nil)
    .nil)
    .nil))
    (.cons (.ret .non)
    .nil)))))⟩
def F_same_until : Fn := fnOf [F_require_two, F_history, F_all_positions, F_ascending, F_directions] t_same_until
def t_same_groups : Df := ⟨["one", "other", "rows", "meeting", "world"], 2, ["require_two", "history", "all_meetings"],
    (.cons (.callS 0 (.cons (.var 0) (.cons (.var 1) .nil)))
    (.cons (.asg (.name 2) (.comp false [("world", 4)] (.name 4) (.seq (.tup (.cons (.var 0) (.cons (.var 1) .nil)))) .no (.comp false [("meeting", 3)] (.name 3) (.seq (.call 2 (.cons (.call 1 (.cons (.var 4) .nil)) .nil))) .no (.slc (.var 3) (.so (.int 2)) .no))))
    (.cons (.ret (.cmp .eq (.idx (.var 2) (.int 0)) (.idx (.var 2) (.int 1))))
    .nil)))⟩
def F_same_groups : Fn := fnOf [F_require_two, F_history, F_all_meetings] t_same_groups
def t_law_source : Df := ⟨["script", "k", "cell", "primes", "seed"], 2, [],
    (.cons (.asg (.name 2) (.int 0))
    (.cons (.ife (.cmp .lt (.var 1) (.bi .len (.cons (.var 0) .nil)))
    (.cons (.asg (.name 2) (.idx (.var 0) (.var 1)))
    .nil)
    .nil)
    (.cons (.asg (.name 3) (.lst (.cons (.int 2147483647) (.cons (.int 2147483629) (.cons (.int 2147483587) (.cons (.int 2147483579) (.cons (.int 2147483563) (.cons (.int 2147483549) (.cons (.int 2147483543) (.cons (.int 2147483497) .nil))))))))))
    (.cons (.asg (.name 4) (.bin .mod (.bin .mul (.bin .add (.bin .mod (.var 2) (.int 2147483489)) (.int 1)) (.bin .add (.int 48271) (.bin .mul (.int 2) (.var 1)))) (.int 2147483489)))
    (.cons (.asg (.name 4) (.bin .add (.bin .add (.bin .mod (.bin .mul (.var 4) (.var 4)) (.int 2147483477)) (.var 1)) (.int 1)))
    (.cons (.ife (.cmp .ge (.var 2) (.bin .pow (.int 10) (.int 18)))
    (.cons (.ret (.new (.cons (.var 2) (.cons (.var 4) (.cons (.idx (.var 3) (.bin .mod (.var 1) (.int 8))) .nil)))))
    .nil)
    .nil)
    (.cons (.ret (.new (.cons (.int 0) (.cons (.var 4) (.cons (.idx (.var 3) (.bin .mod (.var 1) (.int 8))) .nil)))))
    .nil)))))))⟩
def F_law_source : Fn := fnOf [] t_law_source
def t_law_pick : Df := ⟨["source", "size", "drawn"], 2, [],
    (.cons (.ife (.cmp .gt (.idx (.var 0) (.int 0)) (.int 0))
    (.cons (.asg (.name 2) (.bin .mod (.idx (.var 0) (.int 0)) (.var 1)))
    (.cons (.setI (.var 0) (.int 0) (.bin .fdiv (.idx (.var 0) (.int 0)) (.var 1)))
    (.cons (.ret (.var 2))
    .nil)))
    .nil)
    (.cons (.setI (.var 0) (.int 1) (.bin .add (.bin .mod (.bin .mul (.idx (.var 0) (.int 1)) (.int 48271)) (.idx (.var 0) (.int 2))) (.int 1)))
    (.cons (.ret (.bin .mod (.bin .fdiv (.bin .mod (.bin .mul (.idx (.var 0) (.int 1)) (.idx (.var 0) (.int 1))) (.int 2147483423)) (.int 7)) (.var 1)))
    .nil)))⟩
def F_law_pick : Fn := fnOf [] t_law_pick
def t_law_is_bool : Df := ⟨["actual", "expected"], 2, [],
    (.cons (.ret (.and (.isI (.var 0) "bool") (.cmp .eq (.var 0) (.var 1))))
    .nil)⟩
def F_law_is_bool : Fn := fnOf [] t_law_is_bool
def t_law_fraction : Df := ⟨["top", "bottom", "one", "other"], 2, [],
    (.cons (.par [2, 3] (.cons (.bi .abs (.cons (.var 0) .nil)) (.cons (.bi .abs (.cons (.var 1) .nil)) .nil)))
    (.cons (.whil fuel (.cmp .gt (.var 3) (.int 0))
    (.cons (.par [2, 3] (.cons (.var 3) (.cons (.bin .mod (.var 2) (.var 3)) .nil)))
    .nil))
    (.cons (.asg (.name 2) (.ife (.cmp .gt (.var 1) (.int 0)) (.var 2) (.neg (.var 2))))
    (.cons (.ret (.tup (.cons (.bin .fdiv (.var 0) (.var 2)) (.cons (.bin .fdiv (.var 1) (.var 2)) .nil))))
    .nil))))⟩
def F_law_fraction : Fn := fnOf [] t_law_fraction
def t_law_is_less : Df := ⟨["one", "other"], 2, [],
    (.cons (.ret (.cmp .lt (.bin .mul (.idx (.var 0) (.int 0)) (.idx (.var 1) (.int 1))) (.bin .mul (.idx (.var 1) (.int 0)) (.idx (.var 0) (.int 1)))))
    .nil)⟩
def F_law_is_less : Fn := fnOf [] t_law_is_less
def t_law_is_fraction : Df := ⟨["value", "part"], 1, ["_law_fraction"],
    (.cons (.ife (.or (.not (.isI (.var 0) "tuple")) (.cmp .ne (.bi .len (.cons (.var 0) .nil)) (.int 2)))
    (.cons (.ret (.bl false))
    .nil)
    .nil)
    (.cons (.for (.name 1) (.seq (.var 0))
    (.cons (.ife (.or (.not (.isI (.var 1) "int")) (.isI (.var 1) "bool"))
    (.cons (.ret (.bl false))
    .nil)
    .nil)
    .nil))
    (.cons (.ret (.and (.cmp .gt (.idx (.var 0) (.int 1)) (.int 0)) (.cmp .eq (.call 0 (.cons (.idx (.var 0) (.int 0)) (.cons (.idx (.var 0) (.int 1)) .nil))) (.var 0))))
    .nil)))⟩
def F_law_is_fraction : Fn := fnOf [F_law_fraction] t_law_is_fraction
def t_law_ordered : Df := ⟨["some", "found", "one", "other"], 1, ["_law_is_less"],
    (.cons (.asg (.name 1) (.new .nil))
    (.cons (.for (.name 2) (.seq (.var 0))
    (.cons (.ife (.cmp .nmem (.var 2) (.var 1))
    (.cons (.mth .insert (.var 1) (.cons (.bi .len (.cons (.comp false [("other", 3)] (.name 3) (.seq (.var 1)) (.so (.call 0 (.cons (.var 3) (.cons (.var 2) .nil)))) (.var 3)) .nil)) (.cons (.var 2) .nil)))
    .nil)
    .nil)
    .nil))
    (.cons (.ret (.frz (.var 1)))
    .nil)))⟩
def F_law_ordered : Fn := fnOf [F_law_is_less] t_law_ordered
def t_law_position : Df := ⟨["source", "wide", "bottom"], 2, ["_law_pick", "_law_fraction"],
    (.cons (.asg (.name 2) (.idx (.lst (.cons (.int 1) (.cons (.int 1) (.cons (.int 1) (.cons (.int 2) (.cons (.int 3) .nil)))))) (.call 0 (.cons (.var 0) (.cons (.int 5) .nil)))))
    (.cons (.ret (.call 1 (.cons (.bin .sub (.call 0 (.cons (.var 0) (.cons (.bin .add (.bin .mul (.var 1) (.var 2)) (.int 1)) .nil))) (.bin .mul (.var 2) (.bin .fdiv (.var 1) (.int 3)))) (.cons (.var 2) .nil))))
    .nil))⟩
def F_law_position : Fn := fnOf [F_law_pick, F_law_fraction] t_law_position
def t_law_world : Df := ⟨["source", "most", "most_posts", "wide", "names", "rows", "name", "places", "turn"], 3, ["_law_pick", "_law_position", "_law_ordered"],
    (.cons (.asg (.name 3) (.idx (.lst (.cons (.int 6) (.cons (.int 20) (.cons (.int 100) .nil)))) (.call 0 (.cons (.var 0) (.cons (.int 3) .nil)))))
    (.cons (.asg (.name 4) (.slc (.lst (.cons (.str "ann") (.cons (.str "bo") (.cons (.str "cy") (.cons (.str "dee") (.cons (.str "eve") (.cons (.str "fay") (.cons (.str "gus") (.cons (.str "hal") .nil))))))))) .no (.so (.bin .add (.int 1) (.call 0 (.cons (.var 0) (.cons (.var 1) .nil)))))))
    (.cons (.asg (.name 5) (.bi .tuple (.cons (.comp false [("name", 6)] (.name 6) (.seq (.var 4)) .no (.tup (.cons (.var 6) (.cons (.call 1 (.cons (.var 0) (.cons (.var 3) .nil))) .nil)))) .nil)))
    (.cons (.asg (.name 7) (.comp false [("turn", 8)] (.name 8) (.rng1 (.call 0 (.cons (.var 0) (.cons (.bin .add (.var 2) (.int 1)) .nil)))) .no (.call 1 (.cons (.var 0) (.cons (.var 3) .nil)))))
    (.cons (.ret (.tup (.cons (.var 5) (.cons (.bi .tuple (.cons (.call 2 (.cons (.var 7) .nil)) .nil)) .nil))))
    .nil)))))⟩
def F_law_world : Fn := fnOf [F_law_pick, F_law_position, F_law_ordered] t_law_world
def t_law_is_name : Df := ⟨["value", "sign"], 1, [],
    (.cons (.ife (.or (.not (.isI (.var 0) "str")) (.not (.chain .le .le (.int 1) (.bi .len (.cons (.var 0) .nil)) (.int 8))))
    (.cons (.ret (.bl false))
    .nil)
    .nil)
    (.cons (.ret (.cmp .eq (.comp false [("sign", 1)] (.name 1) (.seq (.var 0)) (.so (.cmp .nmem (.var 1) (.str "abcdefghijklmnopqrstuvwxyz"))) (.var 1)) (.lst .nil)))
    .nil))⟩
def F_law_is_name : Fn := fnOf [] t_law_is_name
def t_law_is_world : Df := ⟨["value", "row", "one", "other"], 1, ["_law_is_name", "_law_is_fraction", "_law_is_less"],
    (.cons (.ife (.or (.not (.isI (.var 0) "tuple")) (.or (.cmp .ne (.bi .len (.cons (.var 0) .nil)) (.int 2)) (.not (.isI (.idx (.var 0) (.int 0)) "tuple"))))
    (.cons (.ret (.bl false))
    .nil)
    .nil)
    (.cons (.ife (.or (.not (.chain .le .le (.int 1) (.bi .len (.cons (.idx (.var 0) (.int 0)) .nil)) (.int 8))) (.or (.not (.isI (.idx (.var 0) (.int 1)) "tuple")) (.cmp .gt (.bi .len (.cons (.idx (.var 0) (.int 1)) .nil)) (.int 4))))
    (.cons (.ret (.bl false))
    .nil)
    .nil)
    (.cons (.for (.name 1) (.seq (.idx (.var 0) (.int 0)))
    (.cons (.ife (.or (.not (.isI (.var 1) "tuple")) (.or (.cmp .ne (.bi .len (.cons (.var 1) .nil)) (.int 2)) (.or (.not (.call 0 (.cons (.idx (.var 1) (.int 0)) .nil))) (.not (.call 1 (.cons (.idx (.var 1) (.int 1)) .nil))))))
    (.cons (.ret (.bl false))
    .nil)
    .nil)
    .nil))
    (.cons (.ife (.cmp .ne (.comp false [("one", 2), ("other", 3)] (.tup [(.name 2), (.name 3)]) (.zip (.idx (.var 0) (.int 0)) (.slc (.idx (.var 0) (.int 0)) (.so (.int 1)) .no)) (.so (.not (.cmp .lt (.idx (.var 2) (.int 0)) (.idx (.var 3) (.int 0))))) (.int 1)) (.lst .nil))
    (.cons (.ret (.bl false))
    .nil)
    .nil)
    (.cons (.ife (.cmp .ne (.comp false [("one", 2)] (.name 2) (.seq (.idx (.var 0) (.int 1))) (.so (.not (.call 1 (.cons (.var 2) .nil)))) (.var 2)) (.lst .nil))
    (.cons (.ret (.bl false))
    .nil)
    .nil)
    (.cons (.ret (.cmp .eq (.comp false [("one", 2), ("other", 3)] (.tup [(.name 2), (.name 3)]) (.zip (.idx (.var 0) (.int 1)) (.slc (.idx (.var 0) (.int 1)) (.so (.int 1)) .no)) (.so (.not (.call 2 (.cons (.var 2) (.cons (.var 3) .nil))))) (.int 1)) (.lst .nil)))
    .nil))))))⟩
def F_law_is_world : Fn := fnOf [F_law_is_name, F_law_is_fraction, F_law_is_less] t_law_is_world
def t_law_plus : Df := ⟨["one", "other"], 2, ["_law_fraction"],
    (.cons (.ret (.call 0 (.cons (.bin .add (.bin .mul (.idx (.var 0) (.int 0)) (.idx (.var 1) (.int 1))) (.bin .mul (.idx (.var 1) (.int 0)) (.idx (.var 0) (.int 1)))) (.cons (.bin .mul (.idx (.var 0) (.int 1)) (.idx (.var 1) (.int 1))) .nil))))
    .nil)⟩
def F_law_plus : Fn := fnOf [F_law_fraction] t_law_plus
def t_law_minus : Df := ⟨["one", "other"], 2, ["_law_fraction"],
    (.cons (.ret (.call 0 (.cons (.bin .sub (.bin .mul (.idx (.var 0) (.int 0)) (.idx (.var 1) (.int 1))) (.bin .mul (.idx (.var 1) (.int 0)) (.idx (.var 0) (.int 1)))) (.cons (.bin .mul (.idx (.var 0) (.int 1)) (.idx (.var 1) (.int 1))) .nil))))
    .nil)⟩
def F_law_minus : Fn := fnOf [F_law_fraction] t_law_minus
def t_law_times : Df := ⟨["one", "other"], 2, ["_law_fraction"],
    (.cons (.ret (.call 0 (.cons (.bin .mul (.idx (.var 0) (.int 0)) (.idx (.var 1) (.int 0))) (.cons (.bin .mul (.idx (.var 0) (.int 1)) (.idx (.var 1) (.int 1))) .nil))))
    .nil)⟩
def F_law_times : Fn := fnOf [F_law_fraction] t_law_times
def t_law_speed : Df := ⟨["places", "posts", "place", "left", "one", "right", "before", "after"], 3, ["_law_is_less", "_law_minus"],
    (.cons (.asg (.name 3) (.comp false [("one", 4)] (.name 4) (.seq (.var 0)) (.so (.call 0 (.cons (.var 4) (.cons (.var 2) .nil)))) (.var 4)))
    (.cons (.asg (.name 5) (.comp false [("one", 4)] (.name 4) (.seq (.var 0)) (.so (.call 0 (.cons (.var 2) (.cons (.var 4) .nil)))) (.var 4)))
    (.cons (.ife (.or (.cmp .mem (.var 2) (.var 1)) (.and (.cmp .eq (.var 3) (.lst .nil)) (.cmp .eq (.var 5) (.lst .nil))))
    (.cons (.ret (.int 0))
    .nil)
    .nil)
    (.cons (.ife (.or (.cmp .eq (.var 3) (.lst .nil)) (.cmp .eq (.var 5) (.lst .nil)))
    (.cons (.ret (.ife (.cmp .eq (.var 3) (.lst .nil)) (.int 1) (.neg (.int 1))))
    .nil)
    .nil)
    (.cons (.par [6, 7] (.cons (.call 1 (.cons (.var 2) (.cons (.idx (.var 3) (.neg (.int 1))) .nil))) (.cons (.call 1 (.cons (.idx (.var 5) (.int 0)) (.cons (.var 2) .nil))) .nil)))
    (.cons (.ret (.ife (.call 0 (.cons (.var 6) (.cons (.var 7) .nil))) (.neg (.int 1)) (.int 1)))
    .nil))))))⟩
def F_law_speed : Fn := fnOf [F_law_is_less, F_law_minus] t_law_speed
def t_law_states : Df := ⟨["world", "posts", "here", "row", "found", "now", "places", "speeds", "place", "waits", "one", "other", "closing", "wait", "speed"], 1, ["_law_ordered", "_law_speed", "_law_minus", "_law_times", "_law_plus"],
    (.cons (.parC [(.name 1), (.name 2)] (.cons (.bi .list (.cons (.idx (.var 0) (.int 1)) .nil)) (.cons (.comp false [("row", 3)] (.name 3) (.seq (.idx (.var 0) (.int 0))) .no (.idx (.var 3) (.int 1))) .nil)))
    (.cons (.par [4, 5] (.cons (.new .nil) (.cons (.tup (.cons (.int 0) (.cons (.int 1) .nil))) .nil)))
    (.cons (.whil fuel (.bl true)
    (.cons (.asg (.name 6) (.call 0 (.cons (.bin .add (.var 2) (.var 1)) .nil)))
    (.cons (.asg (.name 7) (.comp false [("place", 8)] (.name 8) (.seq (.var 2)) .no (.call 1 (.cons (.var 6) (.cons (.var 1) (.cons (.var 8) .nil))))))
    (.cons (.mth .append (.var 4) (.cons (.tup (.cons (.var 5) (.cons (.var 2) (.cons (.var 7) .nil)))) .nil))
    (.cons (.asg (.name 9) (.new .nil))
    (.cons (.for (.tup [(.name 10), (.name 11)]) (.zip (.var 6) (.slc (.var 6) (.so (.int 1)) .no))
    (.cons (.asg (.name 12) (.bin .sub (.call 1 (.cons (.var 6) (.cons (.var 1) (.cons (.var 10) .nil)))) (.call 1 (.cons (.var 6) (.cons (.var 1) (.cons (.var 11) .nil))))))
    (.cons (.ife (.cmp .gt (.var 12) (.int 0))
    (.cons (.mth .append (.var 9) (.cons (.call 3 (.cons (.call 2 (.cons (.var 11) (.cons (.var 10) .nil))) (.cons (.tup (.cons (.int 1) (.cons (.var 12) .nil))) .nil))) .nil))
    .nil)
    .nil)
    .nil)))
    (.cons (.ife (.cmp .eq (.var 9) (.lst .nil))
    (.cons (.ret (.frz (.var 4)))
    .nil)
    .nil)
    (.cons (.asg (.name 13) (.idx (.call 0 (.cons (.frz (.var 9)) .nil)) (.int 0)))
    (.cons (.asg (.name 5) (.call 4 (.cons (.var 5) (.cons (.var 13) .nil))))
    (.cons (.asg (.name 2) (.comp false [("place", 8), ("speed", 14)] (.tup [(.name 8), (.name 14)]) (.zip (.var 2) (.var 7)) .no (.call 4 (.cons (.var 8) (.cons (.call 3 (.cons (.var 13) (.cons (.tup (.cons (.var 14) (.cons (.int 1) .nil))) .nil))) .nil)))))
    .nil))))))))))
    .nil)))⟩
def F_law_states : Fn := fnOf [F_law_ordered, F_law_speed, F_law_minus, F_law_times, F_law_plus] t_law_states
def t_law_places : Df := ⟨["states", "when", "now", "here", "speeds", "row", "wait", "place", "speed"], 2, ["_law_is_less", "_law_minus", "_law_times", "_law_plus"],
    (.cons (.asg (.tup [(.name 2), (.name 3), (.name 4)]) (.idx (.comp false [("row", 5)] (.name 5) (.seq (.var 0)) (.so (.not (.call 0 (.cons (.var 1) (.cons (.idx (.var 5) (.int 0)) .nil))))) (.var 5)) (.neg (.int 1))))
    (.cons (.asg (.name 6) (.call 1 (.cons (.var 1) (.cons (.var 2) .nil))))
    (.cons (.ret (.comp false [("place", 7), ("speed", 8)] (.tup [(.name 7), (.name 8)]) (.zip (.var 3) (.var 4)) .no (.call 3 (.cons (.var 7) (.cons (.call 2 (.cons (.var 6) (.cons (.tup (.cons (.var 8) (.cons (.int 1) .nil))) .nil))) .nil)))))
    .nil)))⟩
def F_law_places : Fn := fnOf [F_law_is_less, F_law_minus, F_law_times, F_law_plus] t_law_places
def t_law_times_of : Df := ⟨["states", "found", "row", "one", "other"], 1, ["_law_plus", "_law_times", "_law_ordered"],
    (.cons (.asg (.name 1) (.comp false [("row", 2)] (.name 2) (.seq (.var 0)) .no (.idx (.var 2) (.int 0))))
    (.cons (.for (.tup [(.name 3), (.name 4)]) (.zip (.var 1) (.slc (.var 1) (.so (.int 1)) .no))
    (.cons (.asg (.name 1) (.bin .add (.var 1) (.lst (.cons (.call 1 (.cons (.call 0 (.cons (.var 3) (.cons (.var 4) .nil))) (.cons (.tup (.cons (.int 1) (.cons (.int 2) .nil))) .nil))) .nil))))
    .nil))
    (.cons (.ret (.call 2 (.cons (.bin .add (.var 1) (.lst (.cons (.call 0 (.cons (.idx (.idx (.var 0) (.neg (.int 1))) (.int 0)) (.cons (.tup (.cons (.int 7) (.cons (.int 3) .nil))) .nil))) .nil))) .nil)))
    .nil)))⟩
def F_law_times_of : Fn := fnOf [F_law_plus, F_law_times, F_law_ordered] t_law_times_of
def t_law_names : Df := ⟨["world", "row"], 1, [],
    (.cons (.ret (.comp false [("row", 1)] (.name 1) (.seq (.idx (.var 0) (.int 0))) .no (.idx (.var 1) (.int 0))))
    .nil)⟩
def F_law_names : Fn := fnOf [] t_law_names
def t_law_target : Df := ⟨["places", "posts", "place", "speed", "there", "gap"], 3, ["_law_speed", "_law_minus"],
    (.cons (.asg (.name 3) (.call 0 (.cons (.var 0) (.cons (.var 1) (.cons (.var 2) .nil)))))
    (.cons (.ife (.cmp .eq (.var 3) (.int 0))
    (.cons (.ret .non)
    .nil)
    .nil)
    (.cons (.asg (.name 4) (.idx (.var 0) (.bin .add (.ixOf (.var 0) (.var 2)) (.var 3))))
    (.cons (.asg (.name 5) (.call 1 (.cons (.var 4) (.cons (.var 2) .nil))))
    (.cons (.ret (.tup (.cons (.tup (.cons (.bi .abs (.cons (.idx (.var 5) (.int 0)) .nil)) (.cons (.idx (.var 5) (.int 1)) .nil))) (.cons (.var 4) .nil))))
    .nil)))))⟩
def F_law_target : Fn := fnOf [F_law_speed, F_law_minus] t_law_target
def t_law_worldC : Df := ⟨["source", "most", "most_posts", "wide", "names", "rows", "name", "places", "turn"], 3, ["_law_pick", "_law_position", "_law_ordered"],
    (.cons (.asg (.name 3) (.idx (.lst (.cons (.int 6) (.cons (.int 20) (.cons (.int 100) .nil)))) (.call 0 (.cons (.var 0) (.cons (.int 3) .nil)))))
    (.cons (.asg (.name 4) (.slc (.lst (.cons (.str "ann") (.cons (.str "bo") (.cons (.str "cy") (.cons (.str "dee") (.cons (.str "eve") (.cons (.str "fay") (.cons (.str "gus") (.cons (.str "hal") .nil))))))))) .no (.so (.bin .add (.int 1) (.call 0 (.cons (.var 0) (.cons (.var 1) .nil)))))))
    (.cons (.asg (.name 5) (.bi .tupC (.cons (.comp false [("name", 6)] (.name 6) (.seq (.var 4)) .no (.tup (.cons (.var 6) (.cons (.call 1 (.cons (.var 0) (.cons (.var 3) .nil))) .nil)))) .nil)))
    (.cons (.asg (.name 7) (.comp false [("turn", 8)] (.name 8) (.rng1 (.call 0 (.cons (.var 0) (.cons (.bin .add (.var 2) (.int 1)) .nil)))) .no (.call 1 (.cons (.var 0) (.cons (.var 3) .nil)))))
    (.cons (.ret (.wdC (.var 5) (.bi .tuple (.cons (.call 2 (.cons (.var 7) .nil)) .nil))))
    .nil)))))⟩
def F_law_worldC : Fn := fnOf [F_law_pick, F_law_position, F_law_ordered] t_law_worldC
def t_law_postedC : Df := ⟨["source", "world"], 1, ["_law_world", "_law_position"],
    (.cons (.asg (.name 1) (.call 0 (.cons (.var 0) (.cons (.int 8) (.cons (.int 4) .nil)))))
    (.cons (.ret (.ife (.cmp .ne (.idx (.frz (.var 1)) (.int 1)) (.tup .nil)) (.var 1) (.wdC (.idx (.var 1) (.int 0)) (.tup (.cons (.call 1 (.cons (.var 0) (.cons (.int 20) .nil))) .nil)))))
    .nil))⟩
def F_law_postedC : Fn := fnOf [F_law_worldC, F_law_position] t_law_postedC
def t_law_path : Df := ⟨["states", "at", "found", "now", "here", "speeds"], 2, [],
    (.cons (.asg (.name 2) (.new .nil))
    (.cons (.for (.tup [(.name 3), (.name 4), (.name 5)]) (.seq (.var 0))
    (.cons (.ife (.or (.cmp .eq (.var 2) (.lst .nil)) (.cmp .ne (.idx (.idx (.var 2) (.neg (.int 1))) (.int 2)) (.idx (.var 5) (.var 1))))
    (.cons (.mth .append (.var 2) (.cons (.tup (.cons (.var 3) (.cons (.idx (.var 4) (.var 1)) (.cons (.idx (.var 5) (.var 1)) .nil)))) .nil))
    .nil)
    .nil)
    .nil))
    (.cons (.ret (.frz (.var 2)))
    .nil)))⟩
def F_law_path : Fn := fnOf [] t_law_path
def t_law_meetings : Df := ⟨["world", "states", "names", "posts", "found", "at", "old", "now", "new", "speeds", "place", "group", "k", "came", "sides", "side", "some"], 1, ["_law_states", "_law_names", "_law_ordered"],
    (.cons (.parC [(.name 1), (.name 2)] (.cons (.call 0 (.cons (.var 0) .nil)) (.cons (.call 1 (.cons (.var 0) .nil)) .nil)))
    (.cons (.asg (.name 3) (.bi .list (.cons (.idx (.var 0) (.int 1)) .nil)))
    (.cons (.asg (.name 4) (.new .nil))
    (.cons (.for (.name 5) (.rng1 (.bin .sub (.bi .len (.cons (.var 1) .nil)) (.int 1)))
    (.cons (.parC [(.name 6), (.tup [(.name 7), (.name 8), (.name 9)])] (.cons (.idx (.var 1) (.var 5)) (.cons (.idx (.var 1) (.bin .add (.var 5) (.int 1))) .nil)))
    (.cons (.for (.name 10) (.seq (.call 2 (.cons (.var 8) .nil)))
    (.cons (.asg (.name 11) (.comp false [("k", 12)] (.name 12) (.rng1 (.bi .len (.cons (.var 8) .nil))) (.so (.cmp .eq (.idx (.var 8) (.var 12)) (.var 10))) (.var 12)))
    (.cons (.ife (.cmp .mem (.var 10) (.var 3))
    (.cons (.asg (.name 13) (.comp false [("k", 12)] (.name 12) (.seq (.var 11)) (.so (.cmp .ne (.idx (.idx (.var 6) (.int 1)) (.var 12)) (.var 10))) (.var 12)))
    (.cons (.asg (.name 14) (.comp false [("side", 15)] (.name 15) (.seq (.lst (.cons (.int 1) (.cons (.neg (.int 1)) .nil)))) .no (.comp false [("k", 12)] (.name 12) (.seq (.var 13)) (.so (.cmp .eq (.idx (.idx (.var 6) (.int 2)) (.var 12)) (.var 15))) (.idx (.var 2) (.var 12)))))
    (.cons (.asg (.name 4) (.bin .add (.var 4) (.comp false [("some", 16)] (.name 16) (.seq (.bi .sorted (.cons (.var 14) .nil))) (.so (.cmp .ne (.var 16) (.lst .nil))) (.tup (.cons (.var 7) (.cons (.var 10) (.cons (.bi .tuple (.cons (.var 16) .nil)) (.cons (.bl true) .nil))))))))
    .nil)))
    (.cons (.ife (.cmp .gt (.bi .len (.cons (.call 2 (.cons (.comp false [("k", 12)] (.name 12) (.seq (.var 11)) .no (.idx (.idx (.var 6) (.int 1)) (.var 12))) .nil)) .nil)) (.int 1))
    (.cons (.mth .append (.var 4) (.cons (.tup (.cons (.var 7) (.cons (.var 10) (.cons (.bi .tuple (.cons (.comp false [("k", 12)] (.name 12) (.seq (.var 11)) .no (.idx (.var 2) (.var 12))) .nil)) (.cons (.bl false) .nil))))) .nil))
    .nil)
    .nil)
    .nil))
    .nil)))
    .nil)))
    (.cons (.ret (.frz (.var 4)))
    .nil)))))⟩
def F_law_meetings : Fn := fnOf [F_law_states, F_law_names, F_law_ordered] t_law_meetings
def t_law_first : Df := ⟨["states", "one", "other", "now", "here", "speeds"], 3, [],
    (.cons (.for (.tup [(.name 3), (.name 4), (.name 5)]) (.seq (.var 0))
    (.cons (.ife (.cmp .eq (.idx (.var 4) (.var 1)) (.idx (.var 4) (.var 2)))
    (.cons (.ret (.var 3))
    .nil)
    .nil)
    .nil))
    (.cons (.ret .non)
    .nil))⟩
def F_law_first : Fn := fnOf [] t_law_first
def t_law_separation : Df := ⟨["world", "left", "right", "rows", "row", "inner", "starts", "others"], 3, ["final", "_law_is_less", "_law_ordered"],
    (.cons (.asg (.name 3) (.comp false [("row", 4)] (.name 4) (.seq (.idx (.var 0) (.int 0))) .no (.tup (.cons (.idx (.var 4) (.int 1)) (.cons (.idx (.call 0 (.cons (.var 0) (.cons (.idx (.var 4) (.int 0)) .nil))) (.int 1)) .nil)))))
    (.cons (.asg (.name 5) (.comp false [("row", 4)] (.name 4) (.seq (.var 3)) (.so (.and (.call 1 (.cons (.var 1) (.cons (.idx (.var 4) (.int 0)) .nil))) (.call 1 (.cons (.idx (.var 4) (.int 0)) (.cons (.var 2) .nil))))) (.var 4)))
    (.cons (.asg (.name 6) (.comp false [("row", 4)] (.name 4) (.seq (.var 5)) (.so (.cmp .eq (.idx (.var 4) (.int 1)) (.var 1))) (.idx (.var 4) (.int 0))))
    (.cons (.asg (.name 7) (.comp false [("row", 4)] (.name 4) (.seq (.var 5)) (.so (.cmp .eq (.idx (.var 4) (.int 1)) (.var 2))) (.idx (.var 4) (.int 0))))
    (.cons (.ife (.cmp .ne (.bin .add (.bi .len (.cons (.var 6) .nil)) (.bi .len (.cons (.var 7) .nil))) (.bi .len (.cons (.var 5) .nil)))
    (.cons (.ret .non)
    .nil)
    .nil)
    (.cons (.ife (.and (.cmp .ne (.var 6) (.lst .nil)) (.and (.cmp .ne (.var 7) (.lst .nil)) (.not (.call 1 (.cons (.idx (.call 2 (.cons (.var 6) .nil)) (.neg (.int 1))) (.cons (.idx (.call 2 (.cons (.var 7) .nil)) (.int 0)) .nil))))))
    (.cons (.ret .non)
    .nil)
    .nil)
    (.cons (.ret (.tup (.cons (.var 1) (.cons (.var 2) (.cons (.bi .len (.cons (.var 6) .nil)) .nil)))))
    .nil)))))))⟩
def F_law_separation : Fn := fnOf [F_final, F_law_is_less, F_law_ordered] t_law_separation
def t_law_rate : Df := ⟨["gaps", "at", "smaller", "other"], 2, ["_law_is_less"],
    (.cons (.asg (.name 2) (.comp false [("other", 3)] (.name 3) (.seq (.bin .add (.slc (.var 0) (.so (.bi .max (.cons (.int 0) (.cons (.bin .sub (.var 1) (.int 1)) .nil)))) (.so (.var 1))) (.slc (.var 0) (.so (.bin .add (.var 1) (.int 1))) (.so (.bin .add (.var 1) (.int 2)))))) (.so (.call 0 (.cons (.var 3) (.cons (.idx (.var 0) (.var 1)) .nil)))) (.int 1)))
    (.cons (.ife (.cmp .eq (.var 2) (.lst .nil))
    (.cons (.ret (.neg (.int 2)))
    .nil)
    .nil)
    (.cons (.ret (.ife (.cmp .eq (.bi .len (.cons (.var 2) .nil)) (.int 2)) (.int 2) (.int 0)))
    .nil)))⟩
def F_law_rate : Fn := fnOf [F_law_is_less] t_law_rate
def t_law_rank : Df := ⟨["world", "members", "low", "k", "row"], 2, ["_law_ordered", "_law_is_less"],
    (.cons (.asg (.name 2) (.idx (.call 0 (.cons (.comp false [("k", 3)] (.name 3) (.seq (.var 1)) .no (.idx (.idx (.idx (.var 0) (.int 0)) (.var 3)) (.int 1))) .nil)) (.int 0)))
    (.cons (.ret (.bi .len (.cons (.comp false [("row", 4)] (.name 4) (.seq (.idx (.var 0) (.int 0))) (.so (.call 1 (.cons (.idx (.var 4) (.int 1)) (.cons (.var 2) .nil)))) (.var 4)) .nil)))
    .nil))⟩
def F_law_rank : Fn := fnOf [F_law_ordered, F_law_is_less] t_law_rank
def t_law_tree : Df := ⟨["world", "parts", "k", "row", "now", "here", "speeds", "joined", "place", "group", "part", "first", "second"], 1, ["_law_states", "_law_ordered", "_law_rank"],
    (.cons (.asg (.name 1) (.comp false [("k", 2), ("row", 3)] (.tup [(.name 2), (.name 3)]) (.enum (.idx (.var 0) (.int 0))) .no (.tup (.cons (.lst (.cons (.var 2) .nil)) (.cons (.idx (.var 3) (.int 0)) .nil)))))
    (.cons (.for (.tup [(.name 4), (.name 5), (.name 6)]) (.seq (.call 0 (.cons (.var 0) .nil)))
    (.cons (.asg (.name 7) (.lst .nil))
    (.cons (.for (.name 8) (.seq (.call 1 (.cons (.var 5) .nil)))
    (.cons (.asg (.name 9) (.comp false [("part", 10)] (.name 10) (.seq (.var 1)) (.so (.cmp .eq (.idx (.var 5) (.idx (.idx (.var 10) (.int 0)) (.int 0))) (.var 8))) (.var 10)))
    (.cons (.ife (.cmp .gt (.bi .len (.cons (.var 9) .nil)) (.int 2))
    (.cons (.ret .non)
    .nil)
    .nil)
    (.cons (.ife (.cmp .eq (.bi .len (.cons (.var 9) .nil)) (.int 2))
    (.cons (.asg (.name 9) (.bi .sorted (.cons (.comp false [("part", 10)] (.name 10) (.seq (.var 9)) .no (.tup (.cons (.call 2 (.cons (.var 0) (.cons (.idx (.var 10) (.int 0)) .nil))) (.cons (.var 10) .nil)))) .nil)))
    (.cons (.par [11, 12] (.cons (.idx (.idx (.var 9) (.int 0)) (.int 1)) (.cons (.idx (.idx (.var 9) (.int 1)) (.int 1)) .nil)))
    (.cons (.asg (.name 9) (.lst (.cons (.tup (.cons (.bin .add (.idx (.var 11) (.int 0)) (.idx (.var 12) (.int 0))) (.cons (.tup (.cons (.idx (.var 11) (.int 1)) (.cons (.idx (.var 12) (.int 1)) .nil))) .nil))) .nil)))
    .nil)))
    .nil)
    (.cons (.asg (.name 7) (.bin .add (.var 7) (.var 9)))
    .nil)))))
    (.cons (.asg (.name 1) (.var 7))
    .nil))))
    (.cons (.ret (.idx (.idx (.var 1) (.int 0)) (.int 1)))
    .nil)))⟩
def F_law_tree : Fn := fnOf [F_law_states, F_law_ordered, F_law_rank] t_law_tree
def t_law_joined : Df := ⟨["states", "one", "other", "now", "here", "speeds"], 3, [],
    (.cons (.ret (.idx (.comp false [("now", 3), ("here", 4), ("speeds", 5)] (.tup [(.name 3), (.name 4), (.name 5)]) (.seq (.var 0)) (.so (.cmp .eq (.idx (.var 4) (.var 1)) (.idx (.var 4) (.var 2)))) (.var 3)) (.int 0)))
    .nil)⟩
def F_law_joined : Fn := fnOf [] t_law_joined
def t_law_without : Df := ⟨["world", "at"], 2, [],
    (.cons (.ret (.tup (.cons (.bin .add (.slc (.idx (.var 0) (.int 0)) .no (.so (.var 1))) (.slc (.idx (.var 0) (.int 0)) (.so (.bin .add (.var 1) (.int 1))) .no)) (.cons (.idx (.var 0) (.int 1)) .nil))))
    .nil)⟩
def F_law_without : Fn := fnOf [] t_law_without
def t_law_started : Df := ⟨["world", "name", "place", "one", "where"], 3, [],
    (.cons (.ret (.tup (.cons (.bi .tuple (.cons (.comp false [("one", 3), ("where", 4)] (.tup [(.name 3), (.name 4)]) (.seq (.idx (.var 0) (.int 0))) .no (.tup (.cons (.var 3) (.cons (.ife (.cmp .eq (.var 3) (.var 1)) (.tup (.cons (.var 2) (.cons (.int 1) .nil))) (.var 4)) .nil)))) .nil)) (.cons (.idx (.var 0) (.int 1)) .nil))))
    .nil)⟩
def F_law_started : Fn := fnOf [] t_law_started
def t_law_home : Df := ⟨["world", "when", "place"], 2, ["_law_states", "_law_places"],
    (.cons (.ret (.cmp .eq (.comp false [("place", 2)] (.name 2) (.seq (.call 1 (.cons (.call 0 (.cons (.var 0) .nil)) (.cons (.var 1) .nil)))) (.so (.cmp .nmem (.var 2) (.idx (.var 0) (.int 1)))) (.var 2)) (.lst .nil)))
    .nil)⟩
def F_law_home : Fn := fnOf [F_law_states, F_law_places] t_law_home
def t_law_subsets : Df := ⟨["some", "found", "at", "part", "rows", "size"], 1, [],
    (.cons (.asg (.name 1) (.lst (.cons (.tup .nil) .nil)))
    (.cons (.for (.name 2) (.rng1 (.bi .len (.cons (.var 0) .nil)))
    (.cons (.asg (.name 1) (.bin .add (.var 1) (.comp false [("part", 3)] (.name 3) (.seq (.var 1)) .no (.bin .add (.var 3) (.tup (.cons (.var 2) .nil))))))
    .nil))
    (.cons (.asg (.name 4) (.bi .sorted (.cons (.comp false [("part", 3)] (.name 3) (.seq (.var 1)) .no (.tup (.cons (.bi .len (.cons (.var 3) .nil)) (.cons (.var 3) .nil)))) .nil)))
    (.cons (.ret (.comp false [("size", 5), ("part", 3)] (.tup [(.name 5), (.name 3)]) (.seq (.var 4)) .no (.bi .tuple (.cons (.comp false [("at", 2)] (.name 2) (.seq (.var 3)) .no (.idx (.var 0) (.var 2))) .nil))))
    .nil))))⟩
def F_law_subsets : Fn := fnOf [] t_law_subsets
def t_law_changed : Df := ⟨["source", "world", "kind", "posts", "at", "row"], 2, ["_law_pick", "_law_position", "_law_ordered"],
    (.cons (.par [2, 3] (.cons (.call 0 (.cons (.var 0) (.cons (.int 5) .nil))) (.cons (.idx (.var 1) (.int 1)) .nil)))
    (.cons (.ife (.and (.cmp .eq (.var 2) (.int 0)) (.cmp .lt (.bi .len (.cons (.var 3) .nil)) (.int 4)))
    (.cons (.ret (.tup (.cons (.idx (.var 1) (.int 0)) (.cons (.bi .tuple (.cons (.call 2 (.cons (.bin .add (.bi .list (.cons (.var 3) .nil)) (.lst (.cons (.call 1 (.cons (.var 0) (.cons (.int 100) .nil))) .nil))) .nil)) .nil)) .nil))))
    .nil)
    .nil)
    (.cons (.ife (.and (.cmp .eq (.var 2) (.int 1)) (.cmp .ne (.var 3) (.tup .nil)))
    (.cons (.asg (.name 4) (.call 0 (.cons (.var 0) (.cons (.bi .len (.cons (.var 3) .nil)) .nil))))
    (.cons (.ret (.tup (.cons (.idx (.var 1) (.int 0)) (.cons (.bin .add (.slc (.var 3) .no (.so (.var 4))) (.slc (.var 3) (.so (.bin .add (.var 4) (.int 1))) .no)) .nil))))
    .nil))
    .nil)
    (.cons (.ife (.cmp .eq (.var 2) (.int 2))
    (.cons (.asg (.name 4) (.call 0 (.cons (.var 0) (.cons (.bi .len (.cons (.idx (.var 1) (.int 0)) .nil)) .nil))))
    (.cons (.asg (.name 5) (.tup (.cons (.idx (.idx (.idx (.var 1) (.int 0)) (.var 4)) (.int 0)) (.cons (.call 1 (.cons (.var 0) (.cons (.int 20) .nil))) .nil))))
    (.cons (.ret (.tup (.cons (.bin .add (.bin .add (.slc (.idx (.var 1) (.int 0)) .no (.so (.var 4))) (.tup (.cons (.var 5) .nil))) (.slc (.idx (.var 1) (.int 0)) (.so (.bin .add (.var 4) (.int 1))) .no)) (.cons (.var 3) .nil))))
    .nil)))
    .nil)
    (.cons (.ret (.ife (.cmp .eq (.var 2) (.int 3)) (.var 1) (.tup (.cons (.idx (.var 1) (.int 0)) (.cons (.tup .nil) .nil)))))
    .nil)))))⟩
def F_law_changed : Fn := fnOf [F_law_pick, F_law_position, F_law_ordered] t_law_changed
def t_law_same_until : Df := ⟨["one", "other", "first", "second", "when", "row", "speeds", "states"], 2, ["_law_states", "_law_ordered", "_law_is_less"],
    (.cons (.par [2, 3] (.cons (.call 0 (.cons (.var 0) .nil)) (.cons (.call 0 (.cons (.var 1) .nil)) .nil)))
    (.cons (.ife (.cmp .ne (.idx (.idx (.var 2) (.int 0)) (.int 1)) (.idx (.idx (.var 3) (.int 0)) (.int 1)))
    (.cons (.ret (.tup (.cons (.int 0) (.cons (.int 1) .nil))))
    .nil)
    .nil)
    (.cons (.for (.name 4) (.seq (.call 1 (.cons (.comp false [("row", 5)] (.name 5) (.seq (.bin .add (.var 2) (.var 3))) .no (.idx (.var 5) (.int 0))) .nil)))
    (.cons (.asg (.name 6) (.comp false [("states", 7)] (.name 7) (.seq (.lst (.cons (.var 2) (.cons (.var 3) .nil)))) .no (.idx (.comp false [("row", 5)] (.name 5) (.seq (.var 7)) (.so (.not (.call 2 (.cons (.var 4) (.cons (.idx (.var 5) (.int 0)) .nil))))) (.idx (.var 5) (.int 2))) (.neg (.int 1)))))
    (.cons (.ife (.cmp .ne (.idx (.var 6) (.int 0)) (.idx (.var 6) (.int 1)))
    (.cons (.ret (.var 4))
    .nil)
    .nil)
    .nil)))
    (.cons (.ret .non)
    .nil))))⟩
def F_law_same_until : Fn := fnOf [F_law_states, F_law_ordered, F_law_is_less] t_law_same_until
def t_require_ring : Df := ⟨["length", "walkers", "name", "place"], 2, ["is_integer", "are_walkers", "is_less"],
    (.cons (.ife (.or (.not (.call 0 (.cons (.var 0) (.cons (.int 1) (.cons (.con "MAX_LENGTH" (.int 1000000)) .nil))))) (.not (.call 1 (.cons (.var 1) .nil))))
    (.cons (.raise "InvalidRing")
    .nil)
    .nil)
    (.cons (.ife (.not (.bi .all (.cons (.comp false [("name", 2), ("place", 3)] (.tup [(.name 2), (.name 3)]) (.seq (.var 1)) .no (.and (.cmp .ge (.idx (.var 3) (.int 0)) (.int 0)) (.call 2 (.cons (.var 3) (.cons (.tup (.cons (.var 0) (.cons (.int 1) .nil))) .nil))))) .nil)))
    (.cons (.raise "InvalidRing")
    .nil)
    .nil)
    .nil))⟩
def F_require_ring : Fn := fnOf [F_is_integer, F_are_walkers, F_is_less] t_require_ring
def t_largest_cut : Df := ⟨["length", "walkers", "places", "name", "place", "rows", "one", "other", "best", "gap", "found"], 2, ["ascending", "minus", "plus", "is_less"],
    (.cons (.asg (.name 2) (.call 0 (.cons (.comp false [("name", 3), ("place", 4)] (.tup [(.name 3), (.name 4)]) (.seq (.var 1)) .no (.var 4)) .nil)))
    (.cons (.asg (.name 5) (.comp true [("one", 6), ("other", 7)] (.tup [(.name 6), (.name 7)]) (.zip (.var 2) (.slc (.var 2) (.so (.int 1)) .no)) .no (.tup (.cons (.call 1 (.cons (.var 7) (.cons (.var 6) .nil))) (.cons (.var 7) .nil)))))
    (.cons (.mth .append (.var 5) (.cons (.tup (.cons (.call 1 (.cons (.call 2 (.cons (.idx (.var 2) (.int 0)) (.cons (.tup (.cons (.var 0) (.cons (.int 1) .nil))) .nil))) (.cons (.idx (.var 2) (.neg (.int 1))) .nil))) (.cons (.idx (.var 2) (.int 0)) .nil))) .nil))
    (.cons (.asg (.name 8) (.idx (.idx (.var 5) (.int 0)) (.int 0)))
    (.cons (.for (.tup [(.name 9), (.name 4)]) (.seq (.frz (.var 5)))
    (.cons (.asg (.name 8) (.ife (.call 3 (.cons (.var 8) (.cons (.var 9) .nil))) (.var 9) (.var 8)))
    .nil))
    (.cons (.asg (.name 10) (.comp false [("gap", 9), ("place", 4)] (.tup [(.name 9), (.name 4)]) (.seq (.var 5)) (.so (.cmp .eq (.var 9) (.var 8))) (.var 4)))
    (.cons (.ret (.ife (.cmp .eq (.bi .len (.cons (.var 10) .nil)) (.int 1)) (.idx (.var 10) (.int 0)) .non))
    .nil)))))))⟩
def F_largest_cut : Fn := fnOf [F_ascending, F_minus, F_plus, F_is_less] t_largest_cut
def t_on_line : Df := ⟨["length", "walkers", "begin", "rows", "name", "place"], 3, ["is_less", "plus"],
    (.cons (.asg (.name 3) (.comp false [("name", 4), ("place", 5)] (.tup [(.name 4), (.name 5)]) (.seq (.var 1)) .no (.tup (.cons (.var 4) (.cons (.ife (.call 0 (.cons (.var 5) (.cons (.var 2) .nil))) (.call 1 (.cons (.var 5) (.cons (.tup (.cons (.var 0) (.cons (.int 1) .nil))) .nil))) (.var 5)) .nil)))))
    (.cons (.ret (.tup (.cons (.bi .tuple (.cons (.var 3) .nil)) (.cons (.tup .nil) .nil))))
    .nil))⟩
def F_on_line : Fn := fnOf [F_is_less, F_plus] t_on_line
def t_on_ring : Df := ⟨["length", "place"], 2, [],
    (.cons (.ret (.tup (.cons (.bin .mod (.idx (.var 1) (.int 0)) (.bin .mul (.var 0) (.idx (.var 1) (.int 1)))) (.cons (.idx (.var 1) (.int 1)) .nil))))
    .nil)⟩
def F_on_ring : Fn := fnOf [] t_on_ring
def t_ring_end : Df := ⟨["length", "walkers", "begin", "time", "sites"], 2, ["require_ring", "largest_cut", "on_line", "history", "on_ring"],
    (.cons (.callS 0 (.cons (.var 0) (.cons (.var 1) .nil)))
    (.cons (.asg (.name 2) (.call 1 (.cons (.var 0) (.cons (.var 1) .nil))))
    (.cons (.ife (.isN (.var 2))
    (.cons (.ret .non)
    .nil)
    .nil)
    (.cons (.asg (.tup [(.name 3), (.name 4)]) (.idx (.call 3 (.cons (.call 2 (.cons (.var 0) (.cons (.var 1) (.cons (.var 2) .nil)))) .nil)) (.neg (.int 1))))
    (.cons (.ret (.tup (.cons (.var 3) (.cons (.call 4 (.cons (.var 0) (.cons (.idx (.idx (.var 4) (.int 0)) (.int 0)) .nil))) .nil))))
    .nil)))))⟩
def F_ring_end : Fn := fnOf [F_require_ring, F_largest_cut, F_on_line, F_history, F_on_ring] t_ring_end
def t_ring_positions : Df := ⟨["length", "walkers", "time", "begin", "world", "name", "place"], 3, ["require_ring", "require_time", "largest_cut", "on_line", "history", "all_positions", "on_ring"],
    (.cons (.callS 0 (.cons (.var 0) (.cons (.var 1) .nil)))
    (.cons (.callS 1 (.cons (.var 2) .nil))
    (.cons (.asg (.name 3) (.call 2 (.cons (.var 0) (.cons (.var 1) .nil))))
    (.cons (.ife (.isN (.var 3))
    (.cons (.ret .non)
    .nil)
    .nil)
    (.cons (.asg (.name 4) (.call 3 (.cons (.var 0) (.cons (.var 1) (.cons (.var 3) .nil)))))
    (.cons (.ret (.comp false [("name", 5), ("place", 6)] (.tup [(.name 5), (.name 6)]) (.seq (.call 5 (.cons (.var 4) (.cons (.call 4 (.cons (.var 4) .nil)) (.cons (.var 2) .nil))))) .no (.tup (.cons (.var 5) (.cons (.call 6 (.cons (.var 0) (.cons (.var 6) .nil))) .nil)))))
    .nil))))))⟩
def F_ring_positions : Fn := fnOf [F_require_ring, F_require_time, F_largest_cut, F_on_line, F_history, F_all_positions, F_on_ring] t_ring_positions
def t_law_ring : Df := ⟨["source", "size", "names", "rows", "name", "bottom"], 1, ["_law_pick", "_law_fraction"],
    (.cons (.asg (.name 1) (.bin .add (.int 1) (.call 0 (.cons (.var 0) (.cons (.idx (.lst (.cons (.int 6) (.cons (.int 20) (.cons (.int 200) .nil)))) (.call 0 (.cons (.var 0) (.cons (.int 3) .nil)))) .nil)))))
    (.cons (.par [2, 3] (.cons (.slc (.lst (.cons (.str "ann") (.cons (.str "bo") (.cons (.str "cy") (.cons (.str "dee") (.cons (.str "eve") (.cons (.str "fay") (.cons (.str "gus") (.cons (.str "hal") .nil))))))))) .no (.so (.bin .add (.int 1) (.call 0 (.cons (.var 0) (.cons (.int 8) .nil)))))) (.cons (.new .nil) .nil)))
    (.cons (.for (.name 4) (.seq (.var 2))
    (.cons (.asg (.name 5) (.idx (.lst (.cons (.int 1) (.cons (.int 1) (.cons (.int 2) (.cons (.int 3) .nil))))) (.call 0 (.cons (.var 0) (.cons (.int 4) .nil)))))
    (.cons (.mth .append (.var 3) (.cons (.tup (.cons (.var 4) (.cons (.call 1 (.cons (.call 0 (.cons (.var 0) (.cons (.bin .mul (.var 1) (.var 5)) .nil))) (.cons (.var 5) .nil))) .nil))) .nil))
    .nil)))
    (.cons (.ret (.tup (.cons (.var 1) (.cons (.bi .tuple (.cons (.var 3) .nil)) .nil))))
    .nil))))⟩
def F_law_ring : Fn := fnOf [F_law_pick, F_law_fraction] t_law_ring
def t_law_round : Df := ⟨["size", "place"], 2, ["_law_fraction"],
    (.cons (.ret (.call 0 (.cons (.bin .mod (.idx (.var 1) (.int 0)) (.bin .mul (.var 0) (.idx (.var 1) (.int 1)))) (.cons (.idx (.var 1) (.int 1)) .nil))))
    .nil)⟩
def F_law_round : Fn := fnOf [F_law_fraction] t_law_round
def t_law_ring_gaps : Df := ⟨["size", "places", "found", "one", "other"], 2, ["_law_minus", "_law_plus"],
    (.cons (.asg (.name 2) (.comp false [("one", 3), ("other", 4)] (.tup [(.name 3), (.name 4)]) (.zip (.var 1) (.slc (.var 1) (.so (.int 1)) .no)) .no (.call 0 (.cons (.var 4) (.cons (.var 3) .nil)))))
    (.cons (.ret (.bin .add (.var 2) (.lst (.cons (.call 0 (.cons (.call 1 (.cons (.idx (.var 1) (.int 0)) (.cons (.tup (.cons (.var 0) (.cons (.int 1) .nil))) .nil))) (.cons (.idx (.var 1) (.neg (.int 1))) .nil))) .nil))))
    .nil))⟩
def F_law_ring_gaps : Fn := fnOf [F_law_minus, F_law_plus] t_law_ring_gaps
def t_law_ring_speed : Df := ⟨["size", "places", "place", "gaps", "at"], 3, ["_law_ring_gaps", "_law_is_less"],
    (.cons (.ife (.cmp .eq (.bi .len (.cons (.var 1) .nil)) (.int 1))
    (.cons (.ret (.int 0))
    .nil)
    .nil)
    (.cons (.par [3, 4] (.cons (.call 0 (.cons (.var 0) (.cons (.var 1) .nil))) (.cons (.ixOf (.var 1) (.var 2)) .nil)))
    (.cons (.ret (.ife (.call 1 (.cons (.idx (.var 3) (.bin .sub (.var 4) (.int 1))) (.cons (.idx (.var 3) (.var 4)) .nil))) (.neg (.int 1)) (.int 1)))
    .nil)))⟩
def F_law_ring_speed : Fn := fnOf [F_law_ring_gaps, F_law_is_less] t_law_ring_speed
def t_law_mapped : Df := ⟨["world", "factor", "shift", "letter", "rows", "name", "place", "posts", "post"], 4, ["_law_times", "_law_plus"],
    (.cons (.asg (.name 4) (.comp false [("name", 5), ("place", 6)] (.tup [(.name 5), (.name 6)]) (.seq (.idx (.var 0) (.int 0))) .no (.tup (.cons (.bin .add (.var 3) (.var 5)) (.cons (.call 1 (.cons (.call 0 (.cons (.var 6) (.cons (.tup (.cons (.var 1) (.cons (.int 1) .nil))) .nil))) (.cons (.var 2) .nil))) .nil)))))
    (.cons (.asg (.name 7) (.comp false [("post", 8)] (.name 8) (.seq (.idx (.var 0) (.int 1))) .no (.call 1 (.cons (.call 0 (.cons (.var 8) (.cons (.tup (.cons (.var 1) (.cons (.int 1) .nil))) .nil))) (.cons (.var 2) .nil)))))
    (.cons (.ret (.tup (.cons (.bi .tuple (.cons (.var 4) .nil)) (.cons (.bi .tuple (.cons (.var 7) .nil)) .nil))))
    .nil)))⟩
def F_law_mapped : Fn := fnOf [F_law_times, F_law_plus] t_law_mapped
def t_law_action : Df := ⟨["source", "state", "rows", "posts", "now", "names", "kind", "odd", "row", "some"], 2, ["_law_pick", "_law_position", "_law_fraction"],
    (.cons (.asg (.tup [(.name 2), (.name 3), (.name 4)]) (.var 1))
    (.cons (.par [5, 6] (.cons (.lst (.cons (.str "ann") (.cons (.str "bo") (.cons (.str "cy") (.cons (.str "dee") (.cons (.str "eve") (.cons (.str "fay") (.cons (.str "gus") (.cons (.str "hal") (.cons (.str "ivy") .nil)))))))))) (.cons (.call 0 (.cons (.var 0) (.cons (.int 18) .nil))) .nil)))
    (.cons (.asg (.name 7) (.idx (.lst (.cons .non (.cons (.str "") (.cons (.str "A") (.cons (.int 7) (.cons (.tup (.cons (.int 1) (.cons (.int 2) (.cons (.int 3) .nil)))) (.cons (.tup (.cons (.int 2) (.cons (.int 4) .nil))) (.cons (.tup (.cons (.int 0) (.cons (.int 0) .nil))) (.cons (.bl true) (.cons (.lst (.cons (.int 1) (.cons (.int 2) .nil))) .nil)))))))))) (.call 0 (.cons (.var 0) (.cons (.int 9) .nil)))))
    (.cons (.ife (.cmp .lt (.var 6) (.int 7))
    (.cons (.ret (.tup (.cons (.str "add walker") (.cons (.idx (.var 5) (.call 0 (.cons (.var 0) (.cons (.int 9) .nil)))) (.cons (.call 1 (.cons (.var 0) (.cons (.int 30) .nil))) .nil)))))
    .nil)
    .nil)
    (.cons (.ife (.cmp .lt (.var 6) (.int 9))
    (.cons (.ret (.tup (.cons (.str "remove walker") (.cons (.ife (.cmp .ne (.var 2) (.tup .nil)) (.idx (.comp false [("row", 8)] (.name 8) (.seq (.var 2)) .no (.idx (.var 8) (.int 0))) (.call 0 (.cons (.var 0) (.cons (.bi .len (.cons (.var 2) .nil)) .nil)))) (.str "ann")) .nil))))
    .nil)
    .nil)
    (.cons (.ife (.cmp .lt (.var 6) (.int 11))
    (.cons (.ret (.tup (.cons (.str "add post") (.cons (.idx (.bin .add (.var 3) (.tup (.cons (.call 1 (.cons (.var 0) (.cons (.int 30) .nil))) .nil))) (.call 0 (.cons (.var 0) (.cons (.bin .add (.bi .len (.cons (.var 3) .nil)) (.int 1)) .nil)))) .nil))))
    .nil)
    .nil)
    (.cons (.ife (.cmp .eq (.var 6) (.int 11))
    (.cons (.ret (.tup (.cons (.str "remove post") (.cons (.idx (.bin .add (.var 3) (.tup (.cons (.tup (.cons (.int 77) (.cons (.int 1) .nil))) .nil))) (.call 0 (.cons (.var 0) (.cons (.bin .add (.bi .len (.cons (.var 3) .nil)) (.int 1)) .nil)))) .nil))))
    .nil)
    .nil)
    (.cons (.ife (.cmp .lt (.var 6) (.int 14))
    (.cons (.ret (.tup (.cons (.str "wait") (.cons (.call 2 (.cons (.call 0 (.cons (.var 0) (.cons (.int 12) .nil))) (.cons (.bin .add (.int 1) (.call 0 (.cons (.var 0) (.cons (.int 3) .nil)))) .nil))) .nil))))
    .nil)
    .nil)
    (.cons (.ife (.cmp .eq (.var 6) (.int 14))
    (.cons (.ret (.tup (.cons (.str "undo") .nil)))
    .nil)
    .nil)
    (.cons (.ife (.cmp .eq (.var 6) (.int 15))
    (.cons (.ret (.tup (.cons (.str "add walker") (.cons (.idx (.lst (.cons (.var 7) (.cons (.str "ann") .nil))) (.call 0 (.cons (.var 0) (.cons (.int 2) .nil)))) (.cons (.var 7) .nil)))))
    .nil)
    .nil)
    (.cons (.asg (.name 9) (.lst (.cons (.tup (.cons (.str "add post") (.cons (.var 7) .nil))) (.cons (.tup (.cons (.str "remove post") (.cons (.var 7) .nil))) (.cons (.tup (.cons (.str "remove walker") (.cons (.var 7) .nil))) (.cons (.tup (.cons (.str "wait") (.cons (.var 7) .nil))) (.cons (.tup (.cons (.str "wait") (.cons (.tup (.cons (.neg (.int 1)) (.cons (.int 2) .nil))) .nil))) .nil)))))))
    (.cons (.ret (.idx (.var 9) (.call 0 (.cons (.var 0) (.cons (.int 5) .nil)))))
    .nil))))))))))))⟩
def F_law_action : Fn := fnOf [F_law_pick, F_law_position, F_law_fraction] t_law_action
end NW

set_option Elab.async false
set_option linter.all false
set_option maxRecDepth 100000
set_option maxHeartbeats 4000000
set_option exponentiation.threshold 100000
/-! Numbers: what the defs on fractions compute. -/
namespace NW
open PySem

/-- a fraction as data -/
def fr (q : Rat) : D := .tuple [.int q.num, .int (q.den : Int)]
theorem eqv_int (i j : Int) : PyData.eqv (.int i) (.int j) = decide (i = j) := by
  simp only [PyData.eqv]
  rw [Bool.eq_iff_iff, beq_iff_eq, decide_eq_true_eq]
theorem evEq_int (i j : Int) (M : Mem) : evEq (.d (.int i)) (.d (.int j)) M = some (decide (i = j)) := by
  simp [evEq, flatD, eqv_int]
theorem fmod_pos {i j : Int} (h : 0 ≤ j) : i.fmod j = i % j := Int.fmod_eq_emod_of_nonneg i h
@[simp] theorem cmp_eq_int (i j : Int) (M : Mem) : evCmp .eq (.d (.int i)) (.d (.int j)) M = some (decide (i = j)) := evEq_int i j M
@[simp] theorem cmp_ne_int (i j : Int) (M : Mem) : evCmp .ne (.d (.int i)) (.d (.int j)) M = some (!decide (i = j)) := by
  unfold evCmp
  dsimp only
  rw [evEq_int]
  rfl
@[simp] theorem cmp_lt_int (i j : Int) (M : Mem) : evCmp .lt (.d (.int i)) (.d (.int j)) M = some (decide (i < j)) := rfl
@[simp] theorem cmp_le_int (i j : Int) (M : Mem) : evCmp .le (.d (.int i)) (.d (.int j)) M = some (decide (i ≤ j)) := rfl
@[simp] theorem cmp_gt_int (i j : Int) (M : Mem) : evCmp .gt (.d (.int i)) (.d (.int j)) M = some (decide (j < i)) := rfl
@[simp] theorem cmp_ge_int (i j : Int) (M : Mem) : evCmp .ge (.d (.int i)) (.d (.int j)) M = some (decide (j ≤ i)) := rfl
theorem gcd_step {x y : Int} (h : 0 ≤ y) : Int.gcd y (x.fmod y) = Int.gcd x y := by
  have e : x % y = x + (-(x / y)) * y := by
    have := Int.emod_add_mul_ediv x y
    grind
  rw [fmod_pos h, e, Int.gcd_add_mul_right_right, Int.gcd_comm]
theorem gcd_run {a b : Int} (hb : 0 ≤ b) (hs : b < 2 ^ 8999) (M : Mem) : F_common_divisor.run [.d (.int a), .d (.int b)] M = some (.ret (.d (.int (Int.gcd a b))), M) := by
  refine run_dfR rfl (s_then (whil_of (fun m env M' => M' = M ∧ ∃ x y : Int, env = [some (.d (.int x)), some (.d (.int y))] ∧ 0 ≤ y ∧ y.toNat = m ∧ Int.gcd x y = Int.gcd a b) ?_ (m := b.toNat) (fuel_lt ?_) ⟨rfl, a, b, rfl, hb, rfl, rfl⟩)) rfl
  · rintro m env M' ⟨rfl, x, y, rfl, hy, hm, hg⟩
    by_cases h0 : y = 0
    · subst h0
      refine .inl ⟨by simp, s_ret (v := .d (.int (Int.gcd a b))) (M1 := M') ?_ fin_d⟩
      rw [← hg, Int.gcd_zero_right]
      simp
      omega
    · refine .inr ⟨by simp [h0], s_next (env1 := [some (.d (.int y)), some (.d (.int (x.fmod y)))]) (M1 := M') (by simp [h0]) (s_end ⟨(x.fmod y).toNat, ?_, rfl, y, x.fmod y, rfl, ?_, rfl, by rw [gcd_step hy, hg]⟩)⟩
      · rw [fmod_pos hy, ← hm]
        have := Int.emod_lt_of_pos x (show 0 < y by omega)
        have := Int.emod_nonneg x h0
        omega
      · rw [fmod_pos hy]
        exact Int.emod_nonneg x h0
  · have : (2 : Nat) ^ 8999 < 2 ^ 9000 := Nat.pow_lt_pow_right (by decide) (by decide)
    omega
theorem callF_at {cs : List Fn} {k : Nat} {vs : List Vl} {M M' : Mem} {v : Vl} {F : Fn} (hk : cs[k]? = some F) (h : F.run vs M = some (.ret v, M')) (hl : vs.length = F.ar) : callF cs k vs M = some (v, M') := by
  unfold callF
  rw [hk]
  dsimp only
  rw [if_pos hl, h]
theorem callX_at {cs : List Fn} {k : Nat} {vs : List Vl} {M : Mem} {r : Out × Mem} {F : Fn} (hk : cs[k]? = some F) (h : F.run vs M = some r) (hl : vs.length = F.ar) : callX cs k vs M = some r := by
  unfold callX
  rw [hk]
  dsimp only
  rw [if_pos hl, h]
theorem log2_lt {n k : Nat} (hk : 0 < k) (h : n < 2 ^ k) : n.log2 < k := by
  by_cases h0 : n = 0
  · subst h0
    simpa using hk
  · exact (Nat.log2_lt h0).mpr h
theorem divOk_of {j : Int} (h0 : 0 < j) (h : j < 2 ^ 8999) : divOk j = true := by
  unfold divOk
  rw [decide_eq_true h0, Bool.true_and]
  refine decide_eq_true ?_
  have h1 : j.natAbs < 2 ^ 8999 := by omega
  have := log2_lt (by decide) h1
  omega
theorem mulOk_of {i j : Int} (hi : i.natAbs < 2 ^ 100000) (hj : j.natAbs < 2 ^ 100000) : mulOk i j = true := by
  unfold mulOk
  refine decide_eq_true ?_
  have := log2_lt (by decide) hi
  have := log2_lt (by decide) hj
  omega
theorem fraction_run {t b : Int} (hb : 0 < b) (hs : b < 2 ^ 8999) (M : Mem) : F_fraction.run [.d (.int t), .d (.int b)] M = some (.ret (.d (fr (mkRat t b.toNat))), M) := by
  have hg := gcd_run (a := t) (Int.le_of_lt hb) hs M
  have g0 : 0 < Int.gcd t b := Int.gcd_pos_of_ne_zero_right _ (by omega)
  have gl : (Int.gcd t b : Int) ≤ b := Int.le_of_dvd hb (Int.gcd_dvd_right ..)
  have hc : callF [F_common_divisor] 0 [.d (.int t), .d (.int b)] M = some (.d (.int (Int.gcd t b)), M) := callF_at rfl hg rfl
  have hd : divOk (Int.gcd t b : Int) = true := divOk_of (by omega) (by omega)
  have e1 : (mkRat t b.toNat).num = t / (Int.gcd t b : Int) := by
    rw [Rat.num_mkRat, if_neg (by omega)]
    congr 2
    unfold Int.gcd
    rw [Nat.gcd_comm]
    congr 1
    omega
  have e2 : ((mkRat t b.toNat).den : Int) = b / (Int.gcd t b : Int) := by
    rw [Rat.den_mkRat, if_neg (by omega)]
    have : b.toNat.gcd t.natAbs = Int.gcd t b := by
      unfold Int.gcd
      rw [Nat.gcd_comm]
      congr 1
      omega
    rw [this]
    have hb2 : (b.toNat : Int) = b := by omega
    rw [Int.natCast_ediv, hb2]
  unfold F_fraction t_fraction
  refine run_df (s_nx (env1 := [some (.d (.int t)), some (.d (.int b)), some (.d (.int (Int.gcd t b)))]) (M1 := M) (by simp [hc]) (s_rt (v := .d (fr (mkRat t b.toNat))) (M1 := M) ?_)) fin_d rfl
  simp [hd, fr, e1, e2, big]
/-- numbers of no great size -/
def sm (q : Rat) : Prop := q.num.natAbs < 2 ^ 1000 ∧ q.den < 2 ^ 1000
theorem mul_sm {i j : Int} (hi : i.natAbs < 2 ^ 1000) (hj : j.natAbs < 2 ^ 1000) : mulOk i j = true := by
  have : (2 : Nat) ^ 1000 ≤ 2 ^ 100000 := Nat.pow_le_pow_right (by decide) (by decide)
  exact mulOk_of (by omega) (by omega)
theorem den_mul {a b : Rat} (ha : sm a) (hb : sm b) : 0 < (a.den : Int) * (b.den : Int) ∧ (a.den : Int) * (b.den : Int) < 2 ^ 8999 := by
  have h1 := a.den_pos
  have h2 := b.den_pos
  refine ⟨Int.mul_pos (by omega) (by omega), ?_⟩
  have h3 : a.den * b.den < 2 ^ 1000 * 2 ^ 1000 := Nat.mul_lt_mul'' ha.2 hb.2
  have h4 : (2 : Nat) ^ 1000 * 2 ^ 1000 < 2 ^ 8999 := by rw [← Nat.pow_add]; exact Nat.pow_lt_pow_right (by decide) (by decide)
  have h5 : a.den * b.den < 2 ^ 8999 := by omega
  have h6 : ((a.den * b.den : Nat) : Int) < ((2 ^ 8999 : Nat) : Int) := Int.ofNat_lt.mpr h5
  rw [Int.natCast_mul, Int.natCast_pow] at h6
  exact h6
theorem natAbs_den (a : Rat) : (a.den : Int).natAbs = a.den := Int.natAbs_natCast _
theorem plus_run {a b : Rat} (ha : sm a) (hb : sm b) (M : Mem) : F_plus.run [.d (fr a), .d (fr b)] M = some (.ret (.d (fr (a + b))), M) := by
  have m1 : mulOk a.num b.den = true := mul_sm ha.1 (by rw [natAbs_den]; exact hb.2)
  have m2 : mulOk b.num a.den = true := mul_sm hb.1 (by rw [natAbs_den]; exact ha.2)
  have m3 : mulOk (a.den : Int) b.den = true := mul_sm (by rw [natAbs_den]; exact ha.2) (by rw [natAbs_den]; exact hb.2)
  obtain ⟨d1, d2⟩ := den_mul ha hb
  have hc := callF_at (cs := [F_fraction]) (k := 0) rfl (fraction_run (t := a.num * b.den + b.num * a.den) d1 d2 M) rfl
  have e : mkRat (a.num * b.den + b.num * a.den) ((a.den : Int) * (b.den : Int)).toNat = a + b := by
    rw [Rat.add_def']
    rfl
  rw [e] at hc
  unfold F_plus t_plus
  refine run_df (s_rt (v := .d (fr (a + b))) (M1 := M) ?_) fin_d rfl
  simp [fr, m1, m2, m3] at hc ⊢
  exact hc
theorem minus_run {a b : Rat} (ha : sm a) (hb : sm b) (M : Mem) : F_minus.run [.d (fr a), .d (fr b)] M = some (.ret (.d (fr (a - b))), M) := by
  have m1 : mulOk a.num b.den = true := mul_sm ha.1 (by rw [natAbs_den]; exact hb.2)
  have m2 : mulOk b.num a.den = true := mul_sm hb.1 (by rw [natAbs_den]; exact ha.2)
  have m3 : mulOk (a.den : Int) b.den = true := mul_sm (by rw [natAbs_den]; exact ha.2) (by rw [natAbs_den]; exact hb.2)
  obtain ⟨d1, d2⟩ := den_mul ha hb
  have hc := callF_at (cs := [F_fraction]) (k := 0) rfl (fraction_run (t := a.num * b.den - b.num * a.den) d1 d2 M) rfl
  have e : mkRat (a.num * b.den - b.num * a.den) ((a.den : Int) * (b.den : Int)).toNat = a - b := by
    rw [Rat.sub_def']
    rfl
  rw [e] at hc
  unfold F_minus t_minus
  refine run_df (s_rt (v := .d (fr (a - b))) (M1 := M) ?_) fin_d rfl
  simp [fr, m1, m2, m3] at hc ⊢
  exact hc
theorem times_run {a : Rat} {i : Int} (ha : sm a) (hi : i.natAbs < 2 ^ 1000) (M : Mem) : F_times.run [.d (fr a), .d (.int i)] M = some (.ret (.d (fr (a * i))), M) := by
  have m1 : mulOk a.num i = true := mul_sm ha.1 hi
  have hl : (a.den : Int) < 2 ^ 8999 := by
    have h1 := ha.2
    have h2 : (2 : Nat) ^ 1000 ≤ 2 ^ 8999 := Nat.pow_le_pow_right (by decide) (by decide)
    have h5 : a.den < 2 ^ 8999 := by omega
    have h6 : (a.den : Int) < ((2 ^ 8999 : Nat) : Int) := Int.ofNat_lt.mpr h5
    rw [Int.natCast_pow] at h6
    exact h6
  have hc := callF_at (cs := [F_fraction]) (k := 0) rfl (fraction_run (t := a.num * i) (b := a.den) (by have := a.den_pos; omega) hl M) rfl
  have e : mkRat (a.num * i) ((a.den : Int)).toNat = a * i := by
    rw [Rat.mul_def']
    simp
  rw [e] at hc
  unfold F_times t_times
  refine run_df (s_rt (v := .d (fr (a * i))) (M1 := M) ?_) fin_d rfl
  simp [fr, m1] at hc ⊢
  exact hc
theorem less_run {a b : Rat} (ha : sm a) (hb : sm b) (M : Mem) : F_is_less.run [.d (fr a), .d (fr b)] M = some (.ret (.d (.bool (decide (a < b)))), M) := by
  have m1 : mulOk a.num b.den = true := mul_sm ha.1 (by rw [natAbs_den]; exact hb.2)
  have m2 : mulOk b.num a.den = true := mul_sm hb.1 (by rw [natAbs_den]; exact ha.2)
  unfold F_is_less t_is_less
  refine run_df (s_rt (v := .d (.bool (decide (a < b)))) (M1 := M) ?_) fin_d rfl
  simp [fr, m1, m2, Rat.lt_iff]
end NW

set_option Elab.async false
set_option linter.all false
set_option maxRecDepth 100000
set_option maxHeartbeats 4000000
set_option exponentiation.threshold 100000
/-! Data: fractions, names, lists of them; equality, membership. -/
namespace NW
open PySem

/-! ### sizes -/
/-- a multiple of 1/D -/
def Gr (D : Nat) (q : Rat) : Prop := ∃ n : Int, q * (D : Rat) = (n : Rat)
theorem Gr.add {D : Nat} {a b : Rat} (ha : Gr D a) (hb : Gr D b) : Gr D (a + b) := by
  obtain ⟨n, hn⟩ := ha
  obtain ⟨m, hm⟩ := hb
  exact ⟨n + m, by rw [Rat.intCast_add]; grind⟩
theorem Gr.sub {D : Nat} {a b : Rat} (ha : Gr D a) (hb : Gr D b) : Gr D (a - b) := by
  obtain ⟨n, hn⟩ := ha
  obtain ⟨m, hm⟩ := hb
  exact ⟨n - m, by rw [Rat.intCast_sub]; grind⟩
theorem Gr.mul {D : Nat} {a : Rat} (ha : Gr D a) (i : Int) : Gr D (a * i) := by
  obtain ⟨n, hn⟩ := ha
  exact ⟨n * i, by rw [Rat.intCast_mul]; grind⟩
theorem Gr.half {D : Nat} {a : Rat} (ha : Gr D a) : Gr (2 * D) (a / 2) := by
  obtain ⟨n, hn⟩ := ha
  exact ⟨n, by rw [Rat.natCast_mul]; grind⟩
theorem Gr.up {D : Nat} {a : Rat} (ha : Gr D a) (k : Nat) : Gr (k * D) a := by
  obtain ⟨n, hn⟩ := ha
  exact ⟨n * k, by rw [Rat.natCast_mul, Rat.intCast_mul, Rat.intCast_natCast]; grind⟩
theorem Gr.int {D : Nat} (i : Int) : Gr D (i : Rat) := ⟨i * D, by rw [Rat.intCast_mul, Rat.intCast_natCast]⟩
theorem rat_nat_ne {D : Nat} (h : 0 < D) : (D : Rat) ≠ 0 := by
  have := Rat.natCast_pos.mpr h
  grind
theorem sm_of {D : Nat} {q : Rat} (hD : 0 < D) (hD2 : D < 2 ^ 400) (g : Gr D q) {B : Nat} (h1 : -(B : Rat) ≤ q) (h2 : q ≤ (B : Rat)) (hB : B < 2 ^ 400) : sm q := by
  obtain ⟨n, hn⟩ := g
  have e : q = mkRat n D := by
    rw [Rat.mkRat_eq_div]
    have := rat_nat_ne hD
    grind
  have hDr : (0 : Rat) < (D : Rat) := Rat.natCast_pos.mpr hD
  have hn1 : (n : Rat) ≤ (B : Rat) * (D : Rat) := by
    rw [← hn]
    exact Rat.mul_le_mul_of_nonneg_right h2 (by grind)
  have hn2 : -((B : Rat) * (D : Rat)) ≤ (n : Rat) := by
    rw [← hn]
    have := Rat.mul_le_mul_of_nonneg_right h1 (show (0 : Rat) ≤ (D : Rat) by grind)
    grind
  have i1 : n ≤ (B * D : Nat) := by
    have : (n : Rat) ≤ (((B * D : Nat) : Int) : Rat) := by
      rw [Rat.intCast_natCast, Rat.natCast_mul]
      exact hn1
    exact Rat.intCast_le_intCast.mp this
  have i2 : -((B * D : Nat) : Int) ≤ n := by
    have : ((-((B * D : Nat) : Int) : Int) : Rat) ≤ (n : Rat) := by
      rw [Rat.intCast_neg, Rat.intCast_natCast, Rat.natCast_mul]
      exact hn2
    exact Rat.intCast_le_intCast.mp this
  have hn3 : n.natAbs ≤ B * D := by omega
  have hBD : B * D < 2 ^ 1000 := by
    have h3 : B * D < 2 ^ 400 * 2 ^ 400 := Nat.mul_lt_mul'' hB hD2
    have h4 : (2 : Nat) ^ 400 * 2 ^ 400 ≤ 2 ^ 1000 := by rw [← Nat.pow_add]; exact Nat.pow_le_pow_right (by decide) (by decide)
    omega
  refine ⟨?_, ?_⟩
  · rw [e, Rat.num_mkRat, if_neg (by omega)]
    have : (n / ((D.gcd n.natAbs : Nat) : Int)).natAbs ≤ n.natAbs := by
      rw [Int.natAbs_ediv_of_dvd (by
        have := Nat.gcd_dvd_right D n.natAbs
        exact Int.ofNat_dvd_left.mpr this)]
      exact Nat.div_le_self ..
    omega
  · rw [e, Rat.den_mkRat, if_neg (by omega)]
    have h5 : D / D.gcd n.natAbs ≤ D := Nat.div_le_self ..
    have h6 : (2 : Nat) ^ 400 ≤ 2 ^ 1000 := Nat.pow_le_pow_right (by decide) (by decide)
    omega

/-! ### equality -/
theorem fr_inj {a b : Rat} : fr a = fr b ↔ a = b := by
  refine ⟨fun h => ?_, fun h => by rw [h]⟩
  unfold fr at h
  have h1 : a.num = b.num ∧ (a.den : Int) = b.den := by simpa using h
  exact Rat.ext h1.1 (by exact_mod_cast h1.2)
theorem eqv_fr (a b : Rat) : PyData.eqv (fr a) (fr b) = decide (a = b) := by
  unfold fr
  simp only [PyData.eqv, PyData.eqvAll, Bool.and_true]
  rw [Bool.eq_iff_iff]
  simp only [Bool.and_eq_true, beq_iff_eq, decide_eq_true_eq]
  refine ⟨fun h => Rat.ext h.1 (by have := h.2; omega), fun h => by subst h; exact ⟨rfl, rfl⟩⟩
theorem eqvAll_by {α : Type} [DecidableEq α] {f : α → D} (h : ∀ a b, PyData.eqv (f a) (f b) = decide (a = b)) : ∀ xs ys : List α, PyData.eqvAll (xs.map f) (ys.map f) = decide (xs = ys)
  | [], [] => by simp [PyData.eqvAll]
  | [], _ :: _ => by simp [PyData.eqvAll]
  | _ :: _, [] => by simp [PyData.eqvAll]
  | x :: xs, y :: ys => by
    rw [List.map_cons, List.map_cons]
    simp only [PyData.eqvAll]
    rw [h x y, eqvAll_by h xs ys, Bool.eq_iff_iff]
    simp
theorem eqv_str (x y : Str) : PyData.eqv (.str x) (.str y) = decide (x = y) := by
  simp only [PyData.eqv]
  rw [Bool.eq_iff_iff, beq_iff_eq, decide_eq_true_eq]
theorem flat_fr (q : Rat) (n : Nat) : flatD (n + 1) (fr q) = true := by
  unfold fr
  cases n <;> simp [flatD]
theorem flat_map {α : Type} {f : α → D} {n : Nat} (h : ∀ a, flatD n (f a) = true) (xs : List α) : (xs.map f).all (flatD n) = true := by
  rw [List.all_map, List.all_eq_true]
  exact fun x _ => h x
/-- a text of proper signs -/
structure Nm where
  s : Str
  ok : PyData.strOk s = true
instance : DecidableEq Nm := fun a b => if h : a.s = b.s then isTrue (by cases a; cases b; cases h; rfl) else isFalse fun e => h (by rw [e])
def Nm.d (n : Nm) : D := .str n.s
theorem eqv_nm (a b : Nm) : PyData.eqv a.d b.d = decide (a = b) := by
  unfold Nm.d
  rw [eqv_str]
  congr 1
  refine propext ⟨fun h => by cases a; cases b; cases h; rfl, fun h => by rw [h]⟩
theorem flat_nm (a : Nm) (n : Nat) : flatD n a.d = true := by
  unfold Nm.d
  cases n <;> simp [flatD, a.ok]
theorem evEq_of {a b : Vl} {x y : D} {M : Mem} {v : Bool} (h1 : dat M a = some x) (h2 : dat M b = some y) (f1 : flatD 20 x = true) (f2 : flatD 20 y = true) (h : PyData.eqv x y = v) : evEq a b M = some v := by
  unfold evEq
  rw [h1, h2]
  simp [f1, f2, h]
theorem cmp_eq_of {a b : Vl} {x y : D} {M : Mem} {v : Bool} (h1 : dat M a = some x) (h2 : dat M b = some y) (f1 : flatD 20 x = true) (f2 : flatD 20 y = true) (h : PyData.eqv x y = v) : evCmp .eq a b M = some v := evEq_of h1 h2 f1 f2 h
theorem cmp_ne_of {a b : Vl} {x y : D} {M : Mem} {v : Bool} (h1 : dat M a = some x) (h2 : dat M b = some y) (f1 : flatD 20 x = true) (f2 : flatD 20 y = true) (h : PyData.eqv x y = v) : evCmp .ne a b M = some (!v) := by
  unfold evCmp
  dsimp only
  rw [evEq_of h1 h2 f1 f2 h]
  rfl
@[simp] theorem cmp_eq_fr (a b : Rat) (M : Mem) : evCmp .eq (.d (fr a)) (.d (fr b)) M = some (decide (a = b)) := cmp_eq_of rfl rfl (flat_fr a 19) (flat_fr b 19) (eqv_fr a b)
@[simp] theorem cmp_ne_fr (a b : Rat) (M : Mem) : evCmp .ne (.d (fr a)) (.d (fr b)) M = some (!decide (a = b)) := cmp_ne_of rfl rfl (flat_fr a 19) (flat_fr b 19) (eqv_fr a b)
theorem any_eq {α : Type} [DecidableEq α] {f : α → D} (h : ∀ a b, PyData.eqv (f a) (f b) = decide (a = b)) (x : α) (xs : List α) : ((xs.map f).any fun z => PyData.eqv z (f x)) = decide (x ∈ xs) := by
  rw [List.any_map, Bool.eq_iff_iff, List.any_eq_true]
  simp only [Function.comp, h, decide_eq_true_eq]
  exact ⟨fun ⟨y, h1, h2⟩ => h2 ▸ h1, fun h => ⟨x, h, rfl⟩⟩
theorem memD_of {α : Type} [DecidableEq α] {f : α → D} (h : ∀ a b, PyData.eqv (f a) (f b) = decide (a = b)) (hf : ∀ a, flatD 20 (f a) = true) (x : α) (xs : List α) : memD (f x) (xs.map f) = some (decide (x ∈ xs)) := by
  unfold memD
  rw [hf x, flat_map hf xs, any_eq h x xs]
  rfl
theorem mem_of {α : Type} [DecidableEq α] {f : α → D} (h : ∀ a b, PyData.eqv (f a) (f b) = decide (a = b)) (hf : ∀ a, flatD 20 (f a) = true) {x : α} {xs : List α} {b : Vl} {M : Mem} (hd : dat M b = some (.list (xs.map f)) ∨ dat M b = some (.tuple (xs.map f))) :
    evCmp .mem (.d (f x)) b M = some (decide (x ∈ xs)) := by
  show evMem _ _ _ = _
  unfold evMem
  rcases hd with hd | hd
  · rw [hd]
    exact memD_of h hf x xs
  · rw [hd]
    exact memD_of h hf x xs
theorem nmem_of {α : Type} [DecidableEq α] {f : α → D} (h : ∀ a b, PyData.eqv (f a) (f b) = decide (a = b)) (hf : ∀ a, flatD 20 (f a) = true) {x : α} {xs : List α} {b : Vl} {M : Mem} (hd : dat M b = some (.list (xs.map f)) ∨ dat M b = some (.tuple (xs.map f))) :
    evCmp .nmem (.d (f x)) b M = some (!decide (x ∈ xs)) := by
  have e := mem_of h hf (x := x) hd
  have e2 : evMem (.d (f x)) b M = some (decide (x ∈ xs)) := e
  show (evMem _ _ _).map _ = _
  rw [e2]
  rfl
end NW

set_option Elab.async false
set_option linter.all false
set_option maxRecDepth 100000
set_option maxHeartbeats 4000000
/-! Ascending lists without repetitions. -/
namespace NW
open PySem

def insA (l : List Rat) (x : Rat) : List Rat := if x ∈ l then l else l.take (l.filter fun y => decide (y < x)).length ++ x :: l.drop (l.filter fun y => decide (y < x)).length
def asc (qs : List Rat) : List Rat := qs.foldl insA []
theorem asc_snoc (qs : List Rat) (x : Rat) : asc (qs ++ [x]) = insA (asc qs) x := by
  unfold asc
  rw [List.foldl_append]
  rfl
theorem mem_insA {l : List Rat} {x y : Rat} : y ∈ insA l x ↔ y ∈ l ∨ y = x := by
  unfold insA
  split
  · rename_i h
    exact ⟨.inl, fun h2 => h2.elim id fun e => e ▸ h⟩
  · generalize (l.filter fun y => decide (y < x)).length = k
    rw [List.mem_append, List.mem_cons]
    have e : y ∈ l ↔ y ∈ l.take k ∨ y ∈ l.drop k := by
      rw [← List.mem_append, List.take_append_drop]
    rw [e]
    grind
theorem mem_asc {qs : List Rat} {y : Rat} : y ∈ asc qs ↔ y ∈ qs := by
  have key : ∀ (qs l : List Rat), y ∈ qs.foldl insA l ↔ y ∈ l ∨ y ∈ qs := by
    intro qs
    induction qs with
    | nil => intro l; simp
    | cons x qs ih =>
      intro l
      rw [List.foldl_cons, ih, mem_insA, List.mem_cons]
      grind
  unfold asc
  rw [key]
  simp
theorem len_insA {l : List Rat} {x : Rat} : (insA l x).length ≤ l.length + 1 := by
  unfold insA
  split
  · omega
  · simp
    omega
theorem len_asc {qs : List Rat} : (asc qs).length ≤ qs.length := by
  have key : ∀ (qs l : List Rat), (qs.foldl insA l).length ≤ l.length + qs.length := by
    intro qs
    induction qs with
    | nil => intro l; simp
    | cons x qs ih =>
      intro l
      rw [List.foldl_cons, List.length_cons]
      have := ih (insA l x)
      have := len_insA (l := l) (x := x)
      omega
  have := key qs []
  simpa [asc] using this
/-- strictly ascending -/
abbrev Asc (l : List Rat) : Prop := l.Pairwise (· < ·)
theorem asc_split {l : List Rat} (h : Asc l) (x : Rat) : l.take (l.filter fun y => decide (y < x)).length = l.filter (fun y => decide (y < x)) ∧ l.drop (l.filter fun y => decide (y < x)).length = l.filter (fun y => !decide (y < x)) := by
  induction h with
  | nil => exact ⟨rfl, rfl⟩
  | @cons a l h1 h2 ih =>
    by_cases ha : a < x
    · rw [List.filter_cons_of_pos (by simpa using ha), List.filter_cons_of_neg (by simpa using ha), List.length_cons, List.take_succ_cons, List.drop_succ_cons, ih.1, ih.2]
      exact ⟨rfl, rfl⟩
    · have e : l.filter (fun y => decide (y < x)) = [] := by
        rw [List.filter_eq_nil_iff]
        intro b hb
        have := h1 b hb
        simp
        grind
      rw [List.filter_cons_of_neg (by simpa using ha), e, List.filter_cons_of_pos (by simpa using ha)]
      refine ⟨rfl, ?_⟩
      show a :: l = a :: _
      congr 1
      symm
      rw [List.filter_eq_self]
      intro b hb
      have := h1 b hb
      simp
      grind
theorem insA_asc {l : List Rat} (h : Asc l) (x : Rat) : Asc (insA l x) := by
  unfold insA
  split
  · exact h
  · rename_i hx
    obtain ⟨e1, e2⟩ := asc_split h x
    rw [e1, e2]
    refine List.pairwise_append.mpr ⟨h.filter _, List.pairwise_cons.mpr ⟨fun b hb => ?_, h.filter _⟩, fun a ha b hb => ?_⟩
    · obtain ⟨h1, h2⟩ := List.mem_filter.mp hb
      have : b ≠ x := fun e => hx (e ▸ h1)
      have h3 : ¬ b < x := by simpa using h2
      grind
    · obtain ⟨h1, h2⟩ := List.mem_filter.mp ha
      have h2 : a < x := by simpa using h2
      rcases List.mem_cons.mp hb with e | hb
      · rw [e]
        exact h2
      · obtain ⟨h3, h4⟩ := List.mem_filter.mp hb
        have h4 : ¬ b < x := by simpa using h4
        grind
theorem asc_asc (qs : List Rat) : Asc (asc qs) := by
  have key : ∀ (qs l : List Rat), Asc l → Asc (qs.foldl insA l) := by
    intro qs
    induction qs with
    | nil => exact fun l h => h
    | cons x qs ih => exact fun l h => ih _ (insA_asc h x)
  exact key qs [] .nil
theorem map_insAt {k : Nat} {l : List Rat} {x : Rat} : insAt (l.map fr) k (fr x) = (l.take k ++ x :: l.drop k).map fr := by
  unfold insAt
  rw [List.map_append, List.map_take, List.map_cons, List.map_drop]

theorem less_turn {cs : List Fn} {F : Fn} {k i j : Nat} {env : En} {x y : Rat} (hk : cs[k]? = some F) (hF : ∀ M, F.run [.d (fr y), .d (fr x)] M = some (.ret (.d (.bool (decide (y < x)))), M)) (ha : F.ar = 2) (hi : i < env.length) (hj : env[j]? = some (some (.d (fr x)))) (hij : i ≠ j) :
    TurnIs cs (.name i) (.so (.call k (.cons (.var i) (.cons (.var j) .nil)))) (.var i) env fr (fun y => if decide (y < x) = true then some (fr y) else none) y := by
  intro M
  have e1 : (env.set i (some (.d (fr y))))[i]? = some (some (.d (fr y))) := List.getElem?_set_self hi
  have e2 : (env.set i (some (.d (fr y))))[j]? = some (some (.d (fr x))) := by rw [List.getElem?_set_ne hij]; exact hj
  have e3 := callF_at (cs := cs) hk (hF M) (by rw [ha]; rfl)
  refine ⟨_, decide (y < x), rfl, ?_, fun h => by dsimp only; rw [h]; rfl, fun h => ⟨fr y, ?_, by dsimp only; rw [h]; rfl⟩⟩
  · simp [e1, e2, e3]
  · simp [e1]
theorem asc_step {M : Mem} {acc : List Rat} {x : Rat} {k : Int} (hk : k = ((acc.filter fun y => decide (y < x)).length : Nat)) (hx : x ∉ acc) (hl : acc.length < big) :
    evMt .insert (.m M.length) [.d (.int k), .d (fr x)] (M ++ [.lst (acc.map fr)]) = some (M ++ [.lst ((insA acc x).map fr)]) := by
  subst hk
  unfold evMt
  dsimp only
  rw [List.getElem?_concat_length]
  unfold mtL
  dsimp only
  have h1 : (acc.filter fun y => decide (y < x)).length ≤ acc.length := List.length_filter_le ..
  rw [if_pos ⟨by omega, by rw [List.length_map, Int.toNat_natCast]; exact h1, by rw [List.length_map]; exact hl⟩]
  rw [Option.map_some, Int.toNat_natCast, map_insAt]
  unfold insA
  rw [if_neg hx]
  simp
theorem ascending_run {qs : List Rat} (hs : ∀ q ∈ qs, sm q) (hl : qs.length ≤ 100000) (M : Mem) : F_ascending.run [.d (.list (qs.map fr))] M = some (.ret (.d (.list ((asc qs).map fr))), M) := by
  refine run_dfR rfl (s_next (env1 := [some (.d (.list (qs.map fr))), some (.m M.length), none, none, none]) (M1 := M ++ [.lst []]) (by simp [big]; rfl) (s_then (for_of (f := fr) (xs := qs)
    (fun i env M' => ∃ e2 e3, env = [some (.d (.list (qs.map fr))), some (.m M.length), e2, e3, none] ∧ M' = M ++ [.lst ((asc (qs.take i)).map fr)]) (by simp) ⟨none, none, rfl, rfl⟩ ?_ ?_))) rfl
  · rintro i hi env M' ⟨e2, e3, rfl, rfl⟩
    have hx : sm qs[i] := hs _ (List.getElem_mem hi)
    generalize hacc : asc (qs.take i) = acc
    have hnext : asc (qs.take (i + 1)) = insA acc qs[i] := by rw [List.take_succ_eq_append_getElem hi, asc_snoc, hacc]
    have hal : acc.length ≤ 100000 := by
      have := len_asc (qs := qs.take i)
      rw [hacc, List.length_take] at this
      omega
    have hsm : ∀ y ∈ acc, sm y := fun y hy => by
      rw [← hacc] at hy
      exact hs y (List.mem_of_mem_take (mem_asc.mp hy))
    generalize qs[i] = x at hx hnext
    refine ⟨_, rfl, ?_⟩
    have hm : (M ++ [Cl.lst (acc.map fr)])[M.length]? = some (.lst (acc.map fr)) := List.getElem?_concat_length ..
    have hc := comp_runM (mu := false) (cs := [F_is_less]) (own := [("other", 4)]) (t := .name 4) (it := .seq (.var 1)) (c := .so (.call 0 (.cons (.var 4) (.cons (.var 2) .nil)))) (e := .var 4) (f := fr) (ys := acc)
      (env := [some (.d (.list (qs.map fr))), some (.m M.length), some (.d (fr x)), e3, none]) (M := M ++ [.lst (acc.map fr)]) (i := M.length) (fun y => if decide (y < x) = true then some (fr y) else none) (by simp [src_m hm]) hm (by omega)
      (fun y hy => less_turn rfl (fun M => less_run (hsm y hy) hx M) rfl (by simp) rfl (by decide))
    rw [fm_if] at hc
    refine s_next (env1 := [some (.d (.list (qs.map fr))), some (.m M.length), some (.d (fr x)), some (.d (.int ((acc.filter fun y => decide (y < x)).length : Nat))), none]) (M1 := M ++ [.lst (acc.map fr)])
      (ev_asg (ev_bi (ev_es1 hc) len_l) (by simp)) (s_then (s_ifB (v := !decide (x ∈ acc)) (M1 := M ++ [.lst (acc.map fr)]) ?_ ?_ ?_))
    · simp [nmem_of eqv_fr (fun a => flat_fr a 19) (x := x) (xs := acc) (.inl (dat_m hm))]
    · intro h
      have hx : x ∉ acc := by simpa using h
      have hmt := asc_step (M := M) rfl hx (show acc.length < big by have : big = 1000000 := rfl; omega)
      exact s_next (ev_mth (ev_var rfl) (cell_at hm) (ev_es2 (ev_var rfl) (ev_var rfl)) hmt) (s_end (s_end ⟨_, _, rfl, by rw [hnext]⟩))
    · intro h
      have hx : x ∈ acc := by simpa using h
      refine s_end (s_end ⟨_, _, rfl, ?_⟩)
      rw [hnext]
      unfold insA
      rw [if_pos hx]
  · rintro env M' ⟨e2, e3, rfl, rfl⟩
    rw [List.take_length]
    refine s_ret (v := .d (.list ((asc qs).map fr))) (M1 := M ++ [.gone]) ?_ fin_dA
    simp
end NW

set_option Elab.async false
set_option linter.all false
set_option maxRecDepth 100000
set_option maxHeartbeats 4000000
set_option exponentiation.threshold 100000
/-! Sites: speeds, the next contact, one move. -/
namespace NW
open PySem

structure Site where
  p : Rat
  ns : List Nm
  post : Bool
def Site.d (s : Site) : D := .tuple [fr s.p, .tuple (s.ns.map Nm.d), .bool s.post]
def pos (ss : List Site) (i : Nat) : Rat := match ss[i]? with
  | some s => s.p
  | none => 0
def isPost (ss : List Site) (i : Nat) : Bool := match ss[i]? with
  | some s => s.post
  | none => false
/-- the speed at place i -/
def spd (ss : List Site) (i : Nat) : Int :=
  if isPost ss i = true ∨ ss.length = 1 then 0 else if i = 0 then 1 else if i = ss.length - 1 then -1 else
    if pos ss i - pos ss (i - 1) < pos ss (i + 1) - pos ss i then -1 else 1
def sitesD (ss : List Site) : D := .list (ss.map Site.d)
theorem at_map {α : Type} {f : α → D} {xs : List α} {k : Nat} {x : α} (h : xs[k]? = some x) : L2.atI (xs.map f) (k : Int) = some (f x) := by
  rw [at_nat, List.getElem?_map, h]
  rfl
theorem pos_at {ss : List Site} {i : Nat} (h : i < ss.length) : pos ss i = ss[i].p := by
  unfold pos
  rw [List.getElem?_eq_getElem h]
theorem isPost_at {ss : List Site} {i : Nat} (h : i < ss.length) : isPost ss i = ss[i].post := by
  unfold isPost
  rw [List.getElem?_eq_getElem h]
/-- sites[i][0] -/
theorem ev_pos {cs : List Fn} {env : En} {M : Mem} {a ix : E} {ss : List Site} {k : Int} {i : Nat} (ha : evE cs a env M = some (.d (sitesD ss), M)) (hi : evE cs ix env M = some (.d (.int k), M)) (hk : k = (i : Int)) (h : i < ss.length) :
    evE cs (.idx (.idx a ix) (.int 0)) env M = some (.d (fr (pos ss i)), M) := by
  subst hk
  refine ev_idx (ev_idx ha hi (by rw [sitesD, ix_l, at_map (List.getElem?_eq_getElem h)]; rfl)) ev_int ?_
  rw [pos_at h]
  simp [Site.d]
theorem speed_of_run {ss : List Site} {i : Nat} (hi : i < ss.length) (hs : ∀ j, j < ss.length → sm (pos ss j)) (hd : ∀ j, j + 1 < ss.length → sm (pos ss (j + 1) - pos ss j)) (M : Mem) :
    F_speed_of.run [.d (sitesD ss), .d (.int i)] M = some (.ret (.d (.int (spd ss i))), M) := by
  have e0 : L2.atI (ss.map Site.d) (i : Int) = some ss[i].d := at_map (List.getElem?_eq_getElem hi)
  refine run_dfR rfl (s_next (env1 := [some (.d (sitesD ss)), some (.d (.int i)), some (.d (fr ss[i].p)), some (.d (.tuple (ss[i].ns.map Nm.d))), some (.d (.bool ss[i].post)), none, none]) (M1 := M)
    (ev_asg (ev_idx (ev_var rfl) (ev_var rfl) (by rw [sitesD, ix_l, e0]; rfl)) (by simp [Site.d]; rfl)) (s_then (s_ifB (v := decide (isPost ss i = true ∨ ss.length = 1)) (M1 := M) ?_ ?_ ?_))) rfl
  · rw [isPost_at hi]
    cases h : ss[i].post
    · simp [sitesD]
      omega
    · simp [sitesD]
  · intro h
    have h := of_decide_eq_true h
    refine s_ret (v := .d (.int (spd ss i))) (M1 := M) ?_ fin_d
    unfold spd
    rw [if_pos h]
    simp
  intro h
  have h := of_decide_eq_false h
  refine s_end (s_then (s_ifB (v := decide (i = 0)) (M1 := M) ?_ ?_ ?_))
  · simp
  · intro h0
    have h0 := of_decide_eq_true h0
    refine s_ret (v := .d (.int (spd ss i))) (M1 := M) ?_ fin_d
    unfold spd
    rw [if_neg h, if_pos h0]
    simp
  intro h0
  have h0 := of_decide_eq_false h0
  refine s_end (s_then (s_ifB (v := decide (i = ss.length - 1)) (M1 := M) ?_ ?_ ?_))
  · simp [sitesD]
    omega
  · intro h1
    have h1 := of_decide_eq_true h1
    refine s_ret (v := .d (.int (spd ss i))) (M1 := M) ?_ fin_d
    unfold spd
    rw [if_neg h, if_neg h0, if_pos h1]
    simp
  intro h1
  have h1 := of_decide_eq_false h1
  have hi1 : i - 1 < ss.length := by omega
  have hi2 : i + 1 < ss.length := by omega
  have s0 := hs i hi
  have s1 := hs (i - 1) hi1
  have s2 := hs (i + 1) hi2
  have d1 := hd (i - 1) (by omega)
  have d2 := hd i hi2
  rw [show i - 1 + 1 = i by omega] at d1
  have ei : fr ss[i].p = fr (pos ss i) := by rw [pos_at hi]
  rw [ei]
  refine s_end (s_next (env1 := [some (.d (sitesD ss)), some (.d (.int i)), some (.d (fr (pos ss i))), some (.d (.tuple (ss[i].ns.map Nm.d))), some (.d (.bool ss[i].post)), some (.d (fr (pos ss i - pos ss (i - 1)))), some (.d (fr (pos ss (i + 1) - pos ss i)))]) (M1 := M) ?_ ?_)
  · have c1 := ev_call (cs := [F_minus, F_is_less]) (k := 0) (env := [some (.d (sitesD ss)), some (.d (.int i)), some (.d (fr (pos ss i))), some (.d (.tuple (ss[i].ns.map Nm.d))), some (.d (.bool ss[i].post)), none, none]) (M := M)
      (ev_es2 (ev_var (i := 2) rfl) (ev_pos (a := .var 0) (ix := .bin .sub (.var 1) (.int 1)) (i := i - 1) (ev_var rfl) (ev_bin (ev_var rfl) ev_int b_subI) (by omega) hi1)) rfl (minus_run s0 s1 M) rfl
    have c2 := ev_call (cs := [F_minus, F_is_less]) (k := 0) (env := [some (.d (sitesD ss)), some (.d (.int i)), some (.d (fr (pos ss i))), some (.d (.tuple (ss[i].ns.map Nm.d))), some (.d (.bool ss[i].post)), none, none]) (M := M)
      (ev_es2 (ev_pos (a := .var 0) (ix := .bin .add (.var 1) (.int 1)) (i := i + 1) (ev_var rfl) (ev_bin (ev_var rfl) ev_int b_addI) (by omega) hi2) (ev_var (i := 2) rfl)) rfl (minus_run s2 s0 M) rfl
    have c3 := ev_es2 c1 c2
    simp only [evS]
    rw [c3]
    rfl
  · refine s_ret (v := .d (.int (spd ss i))) (M1 := M) (ev_ret (ev_ife (ts_of (ev_call (ev_es2 (ev_var rfl) (ev_var rfl)) rfl (less_run d1 d2 M) rfl)) ?_)) fin_d
    unfold spd
    rw [if_neg h, if_neg h0, if_neg h1]
    by_cases hlt : pos ss i - pos ss (i - 1) < pos ss (i + 1) - pos ss i
    · rw [if_pos (decide_eq_true hlt), if_pos hlt]
      simp
    · rw [if_neg (by simpa using hlt), if_neg hlt]
      simp
/-- sizes: what the defs on sites ask -/
structure Sz (ss : List Site) : Prop where
  one : ∀ j, j < ss.length → sm (pos ss j)
  gap : ∀ j, j + 1 < ss.length → sm (pos ss (j + 1) - pos ss j)
  len : ss.length ≤ 1000
  wt : ∀ j, j + 1 < ss.length → 0 < spd ss j - spd ss (j + 1) → sm ((pos ss (j + 1) - pos ss j) / ((spd ss j - spd ss (j + 1) : Int) : Rat))
def spds (ss : List Site) : List Int := (List.range ss.length).map (spd ss)
theorem rng_map {n : Nat} : rngD 0 n = (List.range n).map fun (k : Nat) => PyData.int (k : Int) := by
  unfold rngD
  refine List.map_congr_left fun k _ => ?_
  rw [Int.zero_add]
abbrev natD (k : Nat) : D := .int (k : Int)
theorem rng1_ev {cs : List Fn} {e : E} {env : En} {M M1 : Mem} {n : Nat} {k : Int} (h : evE cs e env M = some (.d (.int k), M1)) (hk : k.toNat = n) (h1 : -1000000 ≤ k) (h2 : k ≤ 1000000) : evI cs (.rng1 e) env M = some (.fix ((List.range n).map natD), M1) := by
  simp only [evI, h, Option.bind_some, evRng1]
  rw [rng_of (by omega) (by omega) h1 h2, Option.map_some]
  congr 3
  rw [Int.sub_zero, hk, rng_map]
theorem speeds_of_run {ss : List Site} (hz : Sz ss) (M : Mem) : F_speeds_of.run [.d (sitesD ss)] M = some (.ret (.d (.list ((spds ss).map .int))), M) := by
  refine run_dfR rfl (s_ret (v := .d (.list ((spds ss).map .int))) (M1 := M) (ev_ret ?_) fin_d) rfl
  have h := comp_run (mu := false) (cs := [F_speed_of]) (own := [("at", 1)]) (t := .name 1) (it := .rng1 (.bi .len (.cons (.var 0) .nil))) (c := .no) (e := .call 0 (.cons (.var 0) (.cons (.var 1) .nil))) (f := natD)
    (env := [some (.d (sitesD ss)), none]) (M := M) (xs := List.range ss.length) (fun i => some (.int (spd ss i))) (rng1_ev (k := (ss.length : Int)) (ev_bi (ev_es1 (ev_var rfl)) (by rw [sitesD, len_l, List.length_map])) (by omega) (by omega) (by have := hz.len; omega))
    (by rw [List.length_range]; have := hz.len; have : big = 1000000 := rfl; omega) (by
      intro i hi M
      have hi := List.mem_range.mp hi
      exact ⟨_, true, rfl, by simp only [evC], (fun h => nomatch h), fun _ => ⟨_, ev_call (ev_es2 (ev_var rfl) (ev_var rfl)) rfl (speed_of_run hi hz.one hz.gap M) rfl, rfl⟩⟩)
  rw [fm_all] at h
  rw [spds, List.map_map]
  exact h
/-- the wait for the next contact -/
def better (w : Rat) : Option Rat → Rat
  | none => w
  | some b => if w < b then w else b
def contS (ss : List Site) (best : Option Rat) (i : Nat) : Option Rat := if 0 < spd ss i - spd ss (i + 1) then some (better ((pos ss (i + 1) - pos ss i) / ((spd ss i - spd ss (i + 1) : Int) : Rat)) best) else best
def cont (ss : List Site) : Option Rat := (List.range (ss.length - 1)).foldl (contS ss) none
def optD : Option Rat → D
  | none => .none
  | some q => fr q
theorem div_mk {q : Rat} {c : Int} (hc : 0 < c) : mkRat q.num (((q.den : Int) * c).toNat) = q / (c : Rat) := by
  have h1 : (((q.den : Int) * c).toNat : Int) = (q.den : Int) * c := Int.toNat_of_nonneg (Int.mul_nonneg (by omega) (by omega))
  have hd := q.den_pos
  have hc' : (c : Rat) ≠ 0 := by
    intro e
    have : c = 0 := Rat.intCast_inj.mp (by simpa using e)
    omega
  have hq : (q.den : Rat) ≠ 0 := rat_nat_ne hd
  have e2 : (((((q.den : Int) * c).toNat : Nat)) : Rat) = (q.den : Rat) * (c : Rat) := by
    rw [← Rat.intCast_natCast, h1, Rat.intCast_mul, Rat.intCast_natCast]
  rw [Rat.mkRat_eq_div, e2]
  have e3 : q = (q.num : Rat) / (q.den : Rat) := by
    rw [← Rat.mkRat_eq_div, Rat.mkRat_self]
  generalize (q.num : Rat) = n at e3 ⊢
  generalize (q.den : Rat) = d at e3 hq ⊢
  subst e3
  grind
theorem spd_cases (ss : List Site) (i : Nat) : spd ss i = 0 ∨ spd ss i = 1 ∨ spd ss i = -1 := by
  unfold spd
  split
  · exact .inl rfl
  · split
    · exact .inr (.inl rfl)
    · split
      · exact .inr (.inr rfl)
      · split
        · exact .inr (.inr rfl)
        · exact .inr (.inl rfl)
theorem best_sm {ss : List Site} (hz : Sz ss) : ∀ (n : Nat), n ≤ ss.length - 1 → ∀ q, (List.range n).foldl (contS ss) none = some q → sm q
  | 0, _, q, h => by cases h
  | n + 1, hn, q, h => by
    rw [List.range_succ, List.foldl_append] at h
    have h : contS ss ((List.range n).foldl (contS ss) none) n = some q := h
    have ih := best_sm hz n (by omega)
    generalize (List.range n).foldl (contS ss) none = B at h ih
    unfold contS at h
    split at h
    · rename_i hc
      have hw := hz.wt n (by omega) hc
      have e := Option.some.inj h
      cases B with
      | none =>
        rw [← e]
        exact hw
      | some b =>
        unfold better at e
        dsimp only at e
        split at e
        · rw [← e]
          exact hw
        · rw [← e]
          exact ih b rfl
    · exact ih q h
theorem isNV_opt (b : Option Rat) : isNV (.d (optD b)) = b.isNone := by
  cases b <;> rfl
theorem sp_at {ss : List Site} {i : Nat} (h : i < ss.length) : L2.atI ((spds ss).map PyData.int) (i : Int) = some (.int (spd ss i)) := by
  refine at_map ?_
  unfold spds
  rw [List.getElem?_map, List.getElem?_range h]
  rfl
theorem ev_none {cs : List Fn} {env : En} {M : Mem} : evE cs .non env M = some (.d .none, M) := by simp only [evE]
theorem fr_num {q : Rat} {M : Mem} : evIdx (.d (fr q)) (.d (.int 0)) M = some (.d (.int q.num), M) := rfl
theorem fr_den {q : Rat} {M : Mem} : evIdx (.d (fr q)) (.d (.int 1)) M = some (.d (.int q.den), M) := rfl
theorem contact_run {ss : List Site} (hz : Sz ss) (M : Mem) : F_next_contact.run [.d (sitesD ss)] M = some (.ret (.d (optD (cont ss))), M) := by
  refine run_dfR (env := [some (.d (sitesD ss)), none, none, none, none, none, none]) rfl (s_next (env1 := [some (.d (sitesD ss)), some (.d (.list ((spds ss).map .int))), some (.d .none), none, none, none, none]) (M1 := M) ?_ (s_then (for_of (f := natD) (xs := List.range (ss.length - 1))
    (fun i env M' => M' = M ∧ ∃ e3 e4 e5 e6, env = [some (.d (sitesD ss)), some (.d (.list ((spds ss).map .int))), some (.d (optD ((List.range i).foldl (contS ss) none))), e3, e4, e5, e6]) ?_ ⟨rfl, none, none, none, none, rfl⟩ ?_ ?_))) rfl
  · have h := ev_es2 (cs := [F_speeds_of, F_minus, F_fraction, F_is_less]) (env := [some (.d (sitesD ss)), none, none, none, none, none, none]) (ev_call (k := 0) (ev_es1 (ev_var (i := 0) rfl)) rfl (speeds_of_run hz M) rfl) ev_none
    simp only [evS]
    rw [h]
    rfl
  · exact rng1_ev (k := (ss.length : Int) - 1) (ev_bin (ev_bi (ev_es1 (ev_var rfl)) (by rw [sitesD, len_l, List.length_map])) ev_int b_subI) (by omega) (by omega) (by have := hz.len; omega)
  · rintro i hi env M' ⟨rfl, e3, e4, e5, e6, rfl⟩
    have hi : i < ss.length - 1 := by simpa using hi
    have hi1 : i < ss.length := by omega
    have hi2 : i + 1 < ss.length := by omega
    rw [List.getElem_range]
    have hb := best_sm hz i (by omega)
    have hf : (List.range (i + 1)).foldl (contS ss) none = contS ss ((List.range i).foldl (contS ss) none) i := by rw [List.range_succ, List.foldl_append]; rfl
    rw [hf]
    generalize (List.range i).foldl (contS ss) none = best at hb ⊢
    have hg := hz.gap i hi2
    have hw := hz.wt i hi2
    have h1 := hz.one i hi1
    have h2 := hz.one (i + 1) hi2
    have hc3 : spd ss i - spd ss (i + 1) ≤ 2 := by
      rcases spd_cases ss i with a | a | a <;> rcases spd_cases ss (i + 1) with b | b | b <;> rw [a, b] <;> decide
    refine ⟨_, rfl, s_next (env1 := [some (.d (sitesD ss)), some (.d (.list ((spds ss).map .int))), some (.d (optD best)), some (.d (natD i)), some (.d (.int (spd ss i - spd ss (i + 1)))), e5, e6]) (M1 := M')
      (ev_asg (ev_bin (ev_idx (ev_var rfl) (ev_var rfl) (by rw [natD, ix_l, sp_at hi1]; rfl)) (ev_idx (ev_var rfl) (ev_bin (ev_var rfl) ev_int b_addI) (by rw [ix_l]; exact congrArg _ (sp_at hi2))) b_subI) rfl)
      (s_then (s_ifB (v := decide (0 < spd ss i - spd ss (i + 1))) (M1 := M') ?_ ?_ ?_))⟩
    · simp
    · intro hc
      have hc := of_decide_eq_true hc
      have hw := hw hc
      unfold contS
      rw [if_pos hc]
      generalize spd ss i - spd ss (i + 1) = cl at hc hw hc3 ⊢
      have hdv := div_mk (q := pos ss (i + 1) - pos ss i) hc
      have hden := (pos ss (i + 1) - pos ss i).den_pos
      have hmul : mulOk ((pos ss (i + 1) - pos ss i).den : Int) cl = true := mul_sm (by rw [natAbs_den]; exact hg.2) (by
        have : (2 : Nat) ^ 2 ≤ 2 ^ 1000 := Nat.pow_le_pow_right (by decide) (by decide)
        omega)
      have hb2 : ((pos ss (i + 1) - pos ss i).den : Int) * cl < 2 ^ 8999 := by
        have h5 : (pos ss (i + 1) - pos ss i).den * 2 < 2 ^ 8999 := by
          have := hg.2
          have : (2 : Nat) ^ 1000 * 2 ≤ 2 ^ 8999 := by rw [← Nat.pow_succ]; exact Nat.pow_le_pow_right (by decide) (by decide)
          omega
        have h6 : (((pos ss (i + 1) - pos ss i).den * 2 : Nat) : Int) < ((2 ^ 8999 : Nat) : Int) := Int.ofNat_lt.mpr h5
        rw [Int.natCast_mul, Int.natCast_pow] at h6
        have h7 : ((pos ss (i + 1) - pos ss i).den : Int) * cl ≤ ((pos ss (i + 1) - pos ss i).den : Int) * 2 := Int.mul_le_mul_of_nonneg_left hc3 (by omega)
        exact Int.lt_of_le_of_lt h7 h6
      generalize hG : pos ss (i + 1) - pos ss i = gp at hg hw hdv hden hmul hb2
      refine s_next (env1 := [some (.d (sitesD ss)), some (.d (.list ((spds ss).map .int))), some (.d (optD best)), some (.d (natD i)), some (.d (.int cl)), some (.d (fr gp)), e6]) (M1 := M')
        (ev_asg (ev_call (k := 1) (ev_es2 (ev_pos (i := i + 1) (ev_var rfl) (ev_bin (ev_var rfl) ev_int b_addI) (by omega) hi2) (ev_pos (i := i) (ev_var rfl) (ev_var rfl) rfl hi1)) rfl (minus_run h2 h1 M') rfl) (by rw [hG]; rfl)) ?_
      refine s_next (env1 := [some (.d (sitesD ss)), some (.d (.list ((spds ss).map .int))), some (.d (optD best)), some (.d (natD i)), some (.d (.int cl)), some (.d (fr gp)), some (.d (fr (gp / (cl : Rat))))]) (M1 := M')
        (ev_asg (ev_call (k := 2) (ev_es2 (ev_idx (ev_var rfl) ev_int fr_num) (ev_bin (ev_idx (ev_var rfl) ev_int fr_den) (ev_var rfl) (b_mulI hmul))) rfl (fraction_run (Int.mul_pos (by omega) hc) hb2 M') rfl) (by rw [hdv]; rfl)) ?_
      refine s_next (env1 := [some (.d (sitesD ss)), some (.d (.list ((spds ss).map .int))), some (.d (optD (some (better (gp / (cl : Rat)) best)))), some (.d (natD i)), some (.d (.int cl)), some (.d (fr gp)), some (.d (fr (gp / (cl : Rat))))]) (M1 := M') ?_ (s_end (s_end ⟨rfl, _, _, _, _, rfl⟩))
      generalize gp / (cl : Rat) = wt at hw ⊢
      cases best with
      | none =>
        refine ev_asg (v := .d (fr wt)) (M1 := M') (ev_ife (r := true) (M1 := M') ?_ ?_) rfl
        · simp [optD, isNV]
        · rw [if_pos rfl]
          exact ev_var rfl
      | some b =>
        have hb := hb b rfl
        have hcall := ev_call (cs := [F_speeds_of, F_minus, F_fraction, F_is_less]) (k := 3) (env := [some (.d (sitesD ss)), some (.d (.list ((spds ss).map .int))), some (.d (optD (some b))), some (.d (natD i)), some (.d (.int cl)), some (.d (fr gp)), some (.d (fr wt))]) (M := M')
          (ev_es2 (ev_var (i := 6) rfl) (ev_var (i := 2) rfl)) rfl (less_run hw hb M') rfl
        refine ev_asg (v := .d (fr (better wt (some b)))) (M1 := M') (ev_ife (r := decide (wt < b)) (M1 := M') (ts_of (ev_or (r := false) (M1 := M') (by simp [optD, isNV, fr]) ?_)) ?_) rfl
        · rw [if_neg Bool.false_ne_true]
          exact hcall
        · unfold better
          dsimp only
          by_cases hlt : wt < b
          · rw [if_pos (decide_eq_true hlt), if_pos hlt]
            exact ev_var rfl
          · rw [if_neg (by simpa using hlt), if_neg hlt]
            exact ev_var rfl
    · intro hc
      have hc := of_decide_eq_false hc
      unfold contS
      rw [if_neg hc]
      exact s_end (s_end ⟨rfl, _, _, _, _, rfl⟩)
  · rintro env M' ⟨rfl, e3, e4, e5, e6, rfl⟩
    rw [List.length_range]
    exact s_ret (v := .d (optD (cont ss))) (M1 := M') (ev_ret (ev_var rfl)) fin_d
end NW

set_option Elab.async false
set_option linter.all false
set_option maxRecDepth 100000
set_option maxHeartbeats 4000000
set_option exponentiation.threshold 100000
/-! One move of all sites. -/
namespace NW
open PySem

def sortN (xs : List Nm) : List Nm := xs.mergeSort fun a b => PySem.W.dataLe false id a.d b.d
def stepG (rows : List Site) (s : Site) : List Site := match rows.getLast? with
  | some r => if r.p = s.p then rows.dropLast ++ [⟨s.p, sortN (r.ns ++ s.ns), r.post || s.post⟩] else rows ++ [s]
  | none => rows ++ [s]
def mg (l : List Site) : List Site := l.foldl stepG []
theorem mg_snoc (l : List Site) (s : Site) : mg (l ++ [s]) = stepG (mg l) s := by
  unfold mg
  rw [List.foldl_append]
  rfl
def sAt (ss : List Site) (i : Nat) : Site := ss.getD i ⟨0, [], false⟩
theorem sAt_at {ss : List Site} {i : Nat} (h : i < ss.length) : sAt ss i = ss[i] := by
  unfold sAt
  rw [List.getD_eq_getElem?_getD, List.getElem?_eq_getElem h]
  rfl
theorem sAt_p {ss : List Site} {i : Nat} (h : i < ss.length) : (sAt ss i).p = pos ss i := by rw [sAt_at h, pos_at h]
theorem ss_range (ss : List Site) : (List.range ss.length).map (sAt ss) = ss := by
  refine List.ext_getElem (by simp) fun i h1 h2 => ?_
  rw [List.getElem_map, List.getElem_range, sAt_at h2]
def shiftS (ss : List Site) (w : Rat) : List Site := (List.range ss.length).map fun i => ⟨(sAt ss i).p + w * (spd ss i : Int), (sAt ss i).ns, (sAt ss i).post⟩
def moveS (ss : List Site) (w : Rat) : List Site := mg (shiftS ss w)

theorem pairD_map {α : Type} {f g : α → D} : ∀ xs : List α, pairD (xs.map f) (xs.map g) = xs.map fun x => .tuple [f x, g x]
  | [] => rfl
  | x :: xs => by
    rw [List.map_cons, List.map_cons, List.map_cons]
    show _ :: pairD _ _ = _
    rw [pairD_map xs]
theorem flat_site (s : Site) (n : Nat) : flatD (n + 3) s.d = true := by
  have h : (s.ns.map Nm.d).all (flatD (n + 1)) = true := flat_map (fun a => flat_nm a (n + 1)) s.ns
  have e : flatD (n + 3) s.d = (flatD (n + 2) (fr s.p) && (flatD (n + 2) (.tuple (s.ns.map Nm.d)) && (flatD (n + 2) (.bool s.post) && true))) := rfl
  have e2 : flatD (n + 2) (.tuple (s.ns.map Nm.d)) = (s.ns.map Nm.d).all (flatD (n + 1)) := rfl
  rw [e, e2, flat_fr, h]
  rfl
theorem site_p {s : Site} {M : Mem} : evIdx (.d s.d) (.d (.int 0)) M = some (.d (fr s.p), M) := rfl
theorem site_n {s : Site} {M : Mem} : evIdx (.d s.d) (.d (.int 1)) M = some (.d (.tuple (s.ns.map Nm.d)), M) := rfl
theorem site_o {s : Site} {M : Mem} : evIdx (.d s.d) (.d (.int 2)) M = some (.d (.bool s.post), M) := rfl
theorem eqv_nil {α : Type} {f : α → D} (xs : List α) : PyData.eqv (.list (xs.map f)) (.list []) = xs.isEmpty := by
  simp only [PyData.eqv]
  cases xs <;> simp [PyData.eqvAll]
theorem last_at {α : Type} {f : α → D} {init : List α} {r : α} : L2.atI ((init ++ [r]).map f) (-1) = some (f r) := by
  rw [at_last, List.map_append, List.length_append]
  simp
theorem alike_str (a b : Nm) : PySem.W.alike a.d b.d = true := by
  unfold Nm.d
  simp [PySem.W.alike]
theorem sort_names {ns : List Nm} {M : Mem} : evBi .sorted [.d (.tuple (ns.map Nm.d))] M = some (.d (.list ((sortN ns).map Nm.d)), M) := by
  have h : sortOk (ns.map Nm.d) = true := by
    unfold sortOk
    rw [flat_map (fun a => flat_nm a 20) ns, Bool.true_and]
    have h1 : ((ns.map Nm.d).all fun x => (ns.map Nm.d).all fun y => PySem.W.alike x y) = true := by
      rw [List.all_map, List.all_eq_true]
      intro a _
      simp only [Function.comp]
      rw [List.all_map, List.all_eq_true]
      intro b _
      exact alike_str a b
    rw [h1, Bool.true_and, Bool.or_eq_true]
    refine .inr ?_
    rw [List.all_map, List.all_eq_true]
    intro a _
    rfl
  unfold evBi
  dsimp only
  rw [seq_t, Option.bind_some, if_pos h]
  congr 4
  unfold sortN
  rw [List.map_mergeSort]
  intro a _ b _
  rfl
theorem set_last {α : Type} {f : α → D} {init : List α} {r : α} {y : D} {M : Mem} : evSet (.m M.length) (.d (.int (-1))) y (M ++ [.lst ((init ++ [r]).map f)]) = some (M ++ [.lst (init.map f ++ [y])]) := by
  unfold evSet
  dsimp only
  rw [List.getElem?_concat_length]
  dsimp only
  have h : L2.ixN ((init ++ [r]).map f).length (-1) = some init.length := by
    unfold L2.ixN
    rw [if_neg (by decide), List.length_map, List.length_append, List.length_singleton, if_pos (by omega)]
    congr 1
    omega
  rw [h, Option.map_some]
  simp
def tot (l : List Site) : Nat := (l.map fun s => s.ns.length).sum
theorem tot_snoc (l : List Site) (s : Site) : tot (l ++ [s]) = tot l + s.ns.length := by
  unfold tot
  rw [List.map_append, List.sum_append]
  simp
theorem len_sortN (xs : List Nm) : (sortN xs).length = xs.length := List.length_mergeSort xs
theorem last_split {α : Type} {l : List α} {r : α} (h : l.getLast? = some r) : l = l.dropLast ++ [r] := by
  obtain ⟨ys, e⟩ := List.getLast?_eq_some_iff.mp h
  subst e
  rw [List.dropLast_concat]
theorem tot_step (rows : List Site) (s : Site) : tot (stepG rows s) = tot rows + s.ns.length := by
  unfold stepG
  split
  · rename_i r h
    split
    · have e := last_split h
      have h2 : tot rows = tot rows.dropLast + r.ns.length := by
        rw [← tot_snoc, ← e]
      rw [tot_snoc, h2]
      simp only [len_sortN, List.length_append]
      omega
    · exact tot_snoc rows s
  · exact tot_snoc rows s
theorem tot_mg (l : List Site) : tot (mg l) = tot l := by
  have key : ∀ (l acc : List Site), tot (l.foldl stepG acc) = tot acc + tot l := by
    intro l
    induction l with
    | nil => intro acc; simp [tot]
    | cons s l ih =>
      intro acc
      rw [List.foldl_cons, ih, tot_step]
      simp [tot]
      omega
  have := key l []
  simpa [tot, mg] using this
theorem len_step (rows : List Site) (s : Site) : (stepG rows s).length ≤ rows.length + 1 := by
  unfold stepG
  split
  · split
    · simp
    · simp
  · simp
theorem len_mg (l : List Site) : (mg l).length ≤ l.length := by
  have key : ∀ (l acc : List Site), (l.foldl stepG acc).length ≤ acc.length + l.length := by
    intro l
    induction l with
    | nil => intro acc; simp
    | cons s l ih =>
      intro acc
      rw [List.foldl_cons, List.length_cons]
      have := ih (stepG acc s)
      have := len_step acc s
      omega
  have := key l []
  simpa [mg] using this
theorem tot_take_mem {l : List Site} {r : Site} (h : r ∈ l) : r.ns.length ≤ tot l := by
  induction l with
  | nil => cases h
  | cons a l ih =>
    have e : tot (a :: l) = a.ns.length + tot l := by simp [tot]
    rcases List.mem_cons.mp h with q | q
    · subst q
      omega
    · have := ih q
      omega
theorem tot_take (l : List Site) (i : Nat) : tot (l.take i) ≤ tot l := by
  have e : tot l = tot (l.take i) + tot (l.drop i) := by
    unfold tot
    rw [← List.sum_append, ← List.map_append, List.take_append_drop]
  omega
theorem tot_shift (ss : List Site) (w : Rat) : tot (shiftS ss w) = tot ss := by
  unfold tot shiftS
  rw [List.map_map]
  conv => rhs; rw [← ss_range ss, List.map_map]
  rfl
/-- sizes for a move by w -/
structure Mz (ss : List Site) (w : Rat) : Prop where
  z : Sz ss
  sw : sm w
  ws : ∀ j, j < ss.length → sm (w * (spd ss j : Int))
  q : ∀ j, j < ss.length → sm (pos ss j + w * (spd ss j : Int))
  nn : tot ss ≤ 100000
theorem moved_run {ss : List Site} {w : Rat} (hz : Mz ss w) (M : Mem) : F_moved.run [.d (sitesD ss), .d (fr w)] M = some (.ret (.d (sitesD (moveS ss w))), M) := by
  have hlen := hz.z.len
  have hshl : (shiftS ss w).length = ss.length := by unfold shiftS; rw [List.length_map, List.length_range]
  refine run_dfR (env := [some (.d (sitesD ss)), some (.d (fr w)), none, none, none, none, none, none]) rfl (s_next (env1 := [some (.d (sitesD ss)), some (.d (fr w)), some (.m M.length), none, none, none, none, none]) (M1 := M ++ [.lst []]) ?_
    (s_then (for_of (f := fun i => PyData.tuple [(sAt ss i).d, .int (spd ss i)]) (xs := List.range ss.length)
    (fun i env M' => M' = M ++ [.lst ((mg ((shiftS ss w).take i)).map Site.d)] ∧ ∃ e3 e4 e5 e6 e7, env = [some (.d (sitesD ss)), some (.d (fr w)), some (.m M.length), e3, e4, e5, e6, e7]) ?_ ⟨rfl, none, none, none, none, none, rfl⟩ ?_ ?_))) rfl
  · simp [big]
  · have h := ev_call (cs := [F_speeds_of, F_times, F_plus]) (k := 0) (env := [some (.d (sitesD ss)), some (.d (fr w)), some (.m M.length), none, none, none, none, none]) (M := M ++ [.lst []]) (ev_es1 (ev_var (i := 0) rfl)) rfl (speeds_of_run hz.z _) rfl
    have hv := ev_var (cs := [F_speeds_of, F_times, F_plus]) (i := 0) (env := [some (.d (sitesD ss)), some (.d (fr w)), some (.m M.length), none, none, none, none, none]) (M := M ++ [.lst []]) rfl
    simp only [evI]
    rw [hv, Option.bind_some, h, Option.bind_some]
    rw [sitesD, zip_l]
    have e : ss.map Site.d = (List.range ss.length).map fun i => (sAt ss i).d := by
      conv => lhs; rw [← ss_range ss, List.map_map]
      rfl
    have e2 : (spds ss).map PyData.int = (List.range ss.length).map fun i => PyData.int (spd ss i) := by
      unfold spds
      rw [List.map_map]
      rfl
    rw [e, e2, pairD_map]
    rfl
  · rintro i hi env M' ⟨rfl, e3, e4, e5, e6, e7, rfl⟩
    have hi : i < ss.length := by simpa using hi
    rw [List.getElem_range]
    have hnx : mg ((shiftS ss w).take (i + 1)) = stepG (mg ((shiftS ss w).take i)) ⟨pos ss i + w * (spd ss i : Int), (sAt ss i).ns, (sAt ss i).post⟩ := by
      rw [List.take_succ_eq_append_getElem (by rw [hshl]; exact hi), mg_snoc]
      congr 1
      unfold shiftS
      rw [List.getElem_map, List.getElem_range, sAt_p hi]
    rw [hnx]
    have htot : tot (mg ((shiftS ss w).take i)) ≤ 100000 := by
      rw [tot_mg]
      have := tot_take (shiftS ss w) i
      rw [tot_shift] at this
      have := hz.nn
      omega
    have hrl : (mg ((shiftS ss w).take i)).length ≤ 1000 := by
      have h1 := len_mg ((shiftS ss w).take i)
      rw [List.length_take] at h1
      omega
    have hns : (sAt ss i).ns.length ≤ 100000 := by
      rw [sAt_at hi]
      have := tot_take_mem (List.getElem_mem hi)
      have := hz.nn
      omega
    generalize mg ((shiftS ss w).take i) = rows at htot hrl ⊢
    have hq := hz.q i hi
    have hws := hz.ws i hi
    have h1 := hz.z.one i hi
    have hsp : (spd ss i).natAbs < 2 ^ 1000 := by
      have : (2 : Nat) ^ 2 ≤ 2 ^ 1000 := Nat.pow_le_pow_right (by decide) (by decide)
      rcases spd_cases ss i with a | a | a <;> rw [a] <;> simp <;> omega
    have hsd : (sAt ss i).d = .tuple [fr (pos ss i), .tuple ((sAt ss i).ns.map Nm.d), .bool (sAt ss i).post] := by unfold Site.d; rw [sAt_p hi]
    rw [hsd]
    generalize pos ss i = p at hq h1 ⊢
    generalize spd ss i = sp at hq hws hsp ⊢
    generalize (sAt ss i).ns = ns at hns ⊢
    generalize (sAt ss i).post = po
    have hm : (M ++ [Cl.lst (rows.map Site.d)])[M.length]? = some (.lst (rows.map Site.d)) := List.getElem?_concat_length ..
    refine ⟨[some (.d (sitesD ss)), some (.d (fr w)), some (.m M.length), some (.d (fr p)), some (.d (.tuple (ns.map Nm.d))), some (.d (.bool po)), some (.d (.int sp)), e7], rfl, ?_⟩
    have cv : ∀ (a : E) (v : Vl) (M : Mem) (env : En), evE [F_speeds_of, F_times, F_plus] a env M = some (v, M) → evE [F_speeds_of, F_times, F_plus] a env M = some (v, M) := fun _ _ _ _ h => h
    have hc1 := ev_call (cs := [F_speeds_of, F_times, F_plus]) (k := 1) (env := [some (.d (sitesD ss)), some (.d (fr w)), some (.m M.length), some (.d (fr p)), some (.d (.tuple (ns.map Nm.d))), some (.d (.bool po)), some (.d (.int sp)), e7]) (M := M ++ [.lst (rows.map Site.d)]) (ev_es2 (ev_var (i := 1) rfl) (ev_var (i := 6) rfl)) rfl (times_run hz.sw hsp _) rfl
    have hc2 := ev_call (cs := [F_speeds_of, F_times, F_plus]) (k := 2) (ev_es2 (ev_var (i := 3) rfl) hc1) rfl (plus_run h1 hws _) rfl
    refine s_next (env1 := [some (.d (sitesD ss)), some (.d (fr w)), some (.m M.length), some (.d (fr p)), some (.d (.tuple (ns.map Nm.d))), some (.d (.bool po)), some (.d (.int sp)), some (.d (fr (p + w * (sp : Rat))))]) (M1 := M ++ [.lst (rows.map Site.d)])
      (ev_asg hc2 rfl) ?_
    generalize p + w * (sp : Rat) = q at hq ⊢
    have happ : evMt .append (.m M.length) [.d (Site.mk q ns po).d] (M ++ [.lst (rows.map Site.d)]) = some (M ++ [.lst ((rows ++ [Site.mk q ns po]).map Site.d)]) := by
      unfold evMt
      dsimp only
      rw [List.getElem?_concat_length]
      unfold mtL
      dsimp only
      rw [if_pos (by rw [List.length_map]; have : big = 1000000 := rfl; omega)]
      simp
    have hnew : ∀ (env : En), env = [some (.d (sitesD ss)), some (.d (fr w)), some (.m M.length), some (.d (fr p)), some (.d (.tuple (ns.map Nm.d))), some (.d (.bool po)), some (.d (.int sp)), some (.d (fr q))] →
        evS [F_speeds_of, F_times, F_plus] (.mth .append (.var 2) (.cons (.tup (.cons (.var 7) (.cons (.var 4) (.cons (.var 5) .nil)))) .nil)) env (M ++ [.lst (rows.map Site.d)]) = some (.nx env (M ++ [.lst ((rows ++ [Site.mk q ns po]).map Site.d)])) := by
      rintro env rfl
      exact ev_mth (ev_var rfl) (cell_at hm) (ev_es1 (ev_tup (ev_es3 (ev_var rfl) (ev_var rfl) (ev_var rfl)) rfl (by simp [big]))) happ
    have hne : evCmp .ne (.m M.length) (.d (.list [])) (M ++ [.lst (rows.map Site.d)]) = some (!rows.isEmpty) := by
      refine cmp_ne_of (dat_m hm) rfl ?_ rfl (eqv_nil rows)
      show flatD (19 + 1) _ = true
      simp only [flatD]
      exact flat_map (fun a => flat_site a 16) rows
    have hne2 : evE [F_speeds_of, F_times, F_plus] (.cmp .ne (.var 2) (.lst .nil)) [some (.d (sitesD ss)), some (.d (fr w)), some (.m M.length), some (.d (fr p)), some (.d (.tuple (ns.map Nm.d))), some (.d (.bool po)), some (.d (.int sp)), some (.d (fr q))] (M ++ [.lst (rows.map Site.d)]) = some (.d (.bool (!rows.isEmpty)), M ++ [.lst (rows.map Site.d)]) :=
      ev_cmp (ev_var rfl) (ev_lst ev_es0 rfl (by decide)) hne
    unfold stepG
    cases hl : rows.getLast? with
    | none =>
      have he : rows = [] := by simpa using hl
      subst he
      refine s_then (s_ifF (M1 := M ++ [.lst (([] : List Site).map Site.d)]) (ts_of (ev_and (ts_of hne2) ?_)) (s_next (hnew _ rfl) (s_end (s_end ⟨rfl, _, _, _, _, _, rfl⟩))))
      rfl
    | some r =>
      dsimp only
      have he := last_split hl
      generalize rows.dropLast = init at he ⊢
      subst he
      have hix : evE [F_speeds_of, F_times, F_plus] (.idx (.var 2) (.neg (.int 1))) [some (.d (sitesD ss)), some (.d (fr w)), some (.m M.length), some (.d (fr p)), some (.d (.tuple (ns.map Nm.d))), some (.d (.bool po)), some (.d (.int sp)), some (.d (fr q))] (M ++ [.lst ((init ++ [r]).map Site.d)]) = some (.d r.d, M ++ [.lst ((init ++ [r]).map Site.d)]) :=
        ev_idx (ev_var rfl) ev_neg1 (by rw [ix_m hm, last_at]; rfl)
      have hcond := ev_cmp (op := .eq) (ev_idx hix ev_int site_p) (ev_var (i := 7) rfl) (cmp_eq_fr r.p q _)
      refine s_then (s_ifB (v := decide (r.p = q)) (M1 := M ++ [.lst ((init ++ [r]).map Site.d)]) (ts_of (ev_and (ts_of hne2) ?_)) ?_ ?_)
      · rw [if_pos (by simp)]
        exact hcond
      · intro h
        rw [if_pos (of_decide_eq_true h)]
        have hrn : r.ns.length + ns.length ≤ big := by
          have h5 := tot_snoc init r
          have : big = 1000000 := rfl
          omega
        refine s_next (env1 := [some (.d (sitesD ss)), some (.d (fr w)), some (.m M.length), some (.d (fr p)), some (.d (.tuple (ns.map Nm.d))), some (.d (.bool po)), some (.d (.int sp)), some (.d (fr q))]) (M1 := M ++ [.lst ((init ++ [Site.mk q (sortN (r.ns ++ ns)) (r.post || po)]).map Site.d)]) ?_ (s_end (s_end ⟨rfl, _, _, _, _, _, rfl⟩))
        have hsum : evE [F_speeds_of, F_times, F_plus] (.bin .add (.idx (.idx (.var 2) (.neg (.int 1))) (.int 1)) (.var 4)) [some (.d (sitesD ss)), some (.d (fr w)), some (.m M.length), some (.d (fr p)), some (.d (.tuple (ns.map Nm.d))), some (.d (.bool po)), some (.d (.int sp)), some (.d (fr q))] (M ++ [.lst ((init ++ [r]).map Site.d)])
            = some (.d (.tuple ((r.ns ++ ns).map Nm.d)), M ++ [.lst ((init ++ [r]).map Site.d)]) := by
          refine ev_bin (ev_idx hix ev_int site_n) (ev_var rfl) ?_
          rw [b_addT (by rw [List.length_map, List.length_map]; exact hrn), ← List.map_append]
        have hor : evE [F_speeds_of, F_times, F_plus] (.or (.idx (.idx (.var 2) (.neg (.int 1))) (.int 2)) (.var 5)) [some (.d (sitesD ss)), some (.d (fr w)), some (.m M.length), some (.d (fr p)), some (.d (.tuple (ns.map Nm.d))), some (.d (.bool po)), some (.d (.int sp)), some (.d (fr q))] (M ++ [.lst ((init ++ [r]).map Site.d)])
            = some (.d (.bool (r.post || po)), M ++ [.lst ((init ++ [r]).map Site.d)]) := by
          refine ev_or (ts_of (ev_idx hix ev_int site_o)) ?_
          cases r.post with
          | true => rfl
          | false =>
            rw [if_neg Bool.false_ne_true]
            exact ev_var rfl
        have hval := ev_tup (ev_es3 (ev_var (cs := [F_speeds_of, F_times, F_plus]) (i := 7) rfl) (ev_bi (ev_es1 (ev_bi (ev_es1 hsum) sort_names)) bi_tup) hor) rfl (by simp [big])
        simp only [evS]
        rw [hval]
        simp only [dataV, Option.bind_some]
        rw [ev_var (i := 2) (v := .m M.length) rfl]
        simp only [Option.bind_some]
        rw [ev_neg1]
        simp only [Option.bind_some]
        rw [set_last]
        simp [Site.d]
      · intro h
        rw [if_neg (of_decide_eq_false h)]
        exact s_next (hnew _ rfl) (s_end (s_end ⟨rfl, _, _, _, _, _, rfl⟩))
  · rintro env M' ⟨rfl, e3, e4, e5, e6, e7, rfl⟩
    rw [List.length_range, ← hshl, List.take_length]
    refine s_ret (v := .d (sitesD (moveS ss w))) (M1 := M ++ [.gone]) ?_ fin_dA
    simp [sitesD, moveS]
end NW

set_option Elab.async false
set_option linter.all false
set_option maxRecDepth 100000
set_option maxHeartbeats 4000000
set_option exponentiation.threshold 100000
/-! A world's first sites, its history. -/
namespace NW
open PySem

structure Wd where
  ws : List (Nm × Rat)
  ps : List Rat
def wkD (x : Nm × Rat) : D := .tuple [x.1.d, fr x.2]
def wD (w : Wd) : D := .tuple [.tuple (w.ws.map wkD), .tuple (w.ps.map fr)]
def sites0 (w : Wd) : List Site := (asc (w.ws.map (·.2) ++ w.ps)).map fun p => ⟨p, (w.ws.filter fun x => decide (x.2 = p)).map (·.1), decide (p ∈ w.ps)⟩
/-- sizes of a world -/
structure Wz (w : Wd) : Prop where
  a : ∀ x ∈ w.ws, sm x.2
  b : ∀ p ∈ w.ps, sm p
  la : w.ws.length ≤ 1000
  lb : w.ps.length ≤ 1000
theorem wk_pos {x : Nm × Rat} {M : Mem} : evIdx (.d (wkD x)) (.d (.int 1)) M = some (.d (fr x.2), M) := rfl
theorem wk_nm {x : Nm × Rat} {M : Mem} : evIdx (.d (wkD x)) (.d (.int 0)) M = some (.d x.1.d, M) := rfl
theorem first_sites_run {w : Wd} (hz : Wz w) (M : Mem) : F_first_sites.run [.d (wD w)] M = some (.ret (.d (sitesD (sites0 w))), M) := by
  have hal : (asc (w.ws.map (·.2) ++ w.ps)).length ≤ 2000 := by
    have h := len_asc (qs := w.ws.map (·.2) ++ w.ps)
    rw [List.length_append, List.length_map] at h
    have := hz.la
    have := hz.lb
    omega
  have hasm : ∀ q ∈ w.ws.map (·.2) ++ w.ps, sm q := fun q hq => by
    rcases List.mem_append.mp hq with h | h
    · obtain ⟨x, h1, rfl⟩ := List.mem_map.mp h
      exact hz.a x h1
    · exact hz.b q h
  refine run_dfR (env := [some (.d (wD w)), none, none, none, none, none, none, none, none]) rfl (s_next (env1 := [some (.d (wD w)), some (.d (.tuple (w.ws.map wkD))), some (.d (.tuple (w.ps.map fr))), none, none, none, none, none, none]) (M1 := M) (ev_asg (ev_var rfl) rfl)
    (s_next (env1 := [some (.d (wD w)), some (.d (.tuple (w.ws.map wkD))), some (.d (.tuple (w.ps.map fr))), some (.m M.length), none, none, none, none, none]) (M1 := M ++ [.lst []]) (by simp [big])
    (s_then (for_of (f := fr) (xs := asc (w.ws.map (·.2) ++ w.ps)) (fun i env M' => M' = M ++ [.lst (((sites0 w).take i).map Site.d)] ∧ ∃ e4 e6, env = [some (.d (wD w)), some (.d (.tuple (w.ws.map wkD))), some (.d (.tuple (w.ps.map fr))), some (.m M.length), e4, none, e6, none, none]) ?_ ⟨rfl, none, none, rfl⟩ ?_ ?_)))) rfl
  · have hc := comp_run (mu := false) (cs := [F_ascending]) (own := [("row", 5)]) (t := .name 5) (it := .seq (.var 1)) (c := .no) (e := .idx (.var 5) (.int 1)) (f := wkD) (xs := w.ws) (env := [some (.d (wD w)), some (.d (.tuple (w.ws.map wkD))), some (.d (.tuple (w.ps.map fr))), some (.m M.length), none, none, none, none, none]) (M := M ++ [.lst []])
      (fun x => some (fr x.2)) (by simp) (by have := hz.la; have : big = 1000000 := rfl; omega) (fun x hx M => ⟨_, true, rfl, by simp only [evC], (fun h => nomatch h), fun _ => ⟨_, ev_idx (ev_var rfl) ev_int wk_pos, rfl⟩⟩)
    rw [fm_all] at hc
    have hl : evE [F_ascending] (.bi .list (.cons (.var 2) .nil)) [some (.d (wD w)), some (.d (.tuple (w.ws.map wkD))), some (.d (.tuple (w.ps.map fr))), some (.m M.length), none, none, none, none, none] (M ++ [.lst []]) = some (.d (.list (w.ps.map fr)), M ++ [.lst []]) := ev_bi (ev_es1 (ev_var rfl)) bi_lstT
    have hb : evE [F_ascending] (.bin .add (.comp false [("row", 5)] (.name 5) (.seq (.var 1)) .no (.idx (.var 5) (.int 1))) (.bi .list (.cons (.var 2) .nil))) [some (.d (wD w)), some (.d (.tuple (w.ws.map wkD))), some (.d (.tuple (w.ps.map fr))), some (.m M.length), none, none, none, none, none] (M ++ [.lst []])
        = some (.d (.list ((w.ws.map (·.2) ++ w.ps).map fr)), M ++ [.lst []]) := by
      refine ev_bin hc hl ?_
      rw [b_addL (by rw [List.length_map, List.length_map]; have := hz.la; have := hz.lb; have : big = 1000000 := rfl; omega), List.map_append, List.map_map]
      rfl
    have hcall := ev_call (k := 0) (F := F_ascending) (ev_es1 hb) rfl (ascending_run hasm (by rw [List.length_append, List.length_map]; have := hz.la; have := hz.lb; omega) _) rfl
    simp only [evI]
    rw [hcall, Option.bind_some, src_l]
    rfl
  · rintro i hi env M' ⟨rfl, e4, e6, rfl⟩
    generalize hq : (asc (w.ws.map (·.2) ++ w.ps))[i] = q
    have hnx : (sites0 w).take (i + 1) = (sites0 w).take i ++ [Site.mk q ((w.ws.filter fun x => decide (x.2 = q)).map (·.1)) (decide (q ∈ w.ps))] := by
      rw [List.take_succ_eq_append_getElem (by unfold sites0; rw [List.length_map]; exact hi)]
      congr 2
      unfold sites0
      rw [List.getElem_map, hq]
    rw [hnx]
    have hrl : ((sites0 w).take i).length ≤ 2000 := by
      rw [List.length_take]
      unfold sites0
      rw [List.length_map]
      omega
    generalize (sites0 w).take i = rows at hrl ⊢
    have hm : (M ++ [Cl.lst (rows.map Site.d)])[M.length]? = some (.lst (rows.map Site.d)) := List.getElem?_concat_length ..
    refine ⟨[some (.d (wD w)), some (.d (.tuple (w.ws.map wkD))), some (.d (.tuple (w.ps.map fr))), some (.m M.length), some (.d (fr q)), none, e6, none, none], rfl, ?_⟩
    have hc := comp_run (mu := false) (cs := [F_ascending]) (own := [("name", 7), ("place", 8)]) (t := .tup [(.name 7), (.name 8)]) (it := .seq (.var 1)) (c := .so (.cmp .eq (.var 8) (.var 4))) (e := .var 7) (f := wkD) (xs := w.ws)
      (env := [some (.d (wD w)), some (.d (.tuple (w.ws.map wkD))), some (.d (.tuple (w.ps.map fr))), some (.m M.length), some (.d (fr q)), none, e6, none, none]) (M := M ++ [.lst (rows.map Site.d)])
      (fun x => if decide (x.2 = q) = true then some x.1.d else none) (by simp) (by have := hz.la; have : big = 1000000 := rfl; omega) (fun x hx M => ⟨[some (.d (wD w)), some (.d (.tuple (w.ws.map wkD))), some (.d (.tuple (w.ps.map fr))), some (.m _), some (.d (fr q)), none, e6, some (.d x.1.d), some (.d (fr x.2))], decide (x.2 = q), rfl, by
        simp only [evC]
        exact ts_of (ev_cmp (ev_var rfl) (ev_var rfl) (cmp_eq_fr _ _ _)), (fun h => by dsimp only; rw [h]; rfl), fun h => ⟨x.1.d, ev_var rfl, by dsimp only; rw [h]; rfl⟩⟩)
    rw [fm_if] at hc
    have hms : ((w.ws.filter fun x => decide (x.2 = q)).map fun x => x.1.d) = ((w.ws.filter fun x => decide (x.2 = q)).map (·.1)).map Nm.d := by rw [List.map_map]; rfl
    rw [hms] at hc
    refine s_next (env1 := [some (.d (wD w)), some (.d (.tuple (w.ws.map wkD))), some (.d (.tuple (w.ps.map fr))), some (.m M.length), some (.d (fr q)), none, some (.d (.tuple (((w.ws.filter fun x => decide (x.2 = q)).map (·.1)).map Nm.d))), none, none]) (M1 := M ++ [.lst (rows.map Site.d)]) (ev_asg (ev_bi (ev_es1 hc) bi_tup) rfl) ?_
    generalize ((w.ws.filter fun x => decide (x.2 = q)).map (·.1)) = ns
    have happ : evMt .append (.m M.length) [.d (Site.mk q ns (decide (q ∈ w.ps))).d] (M ++ [.lst (rows.map Site.d)]) = some (M ++ [.lst ((rows ++ [Site.mk q ns (decide (q ∈ w.ps))]).map Site.d)]) := by
      unfold evMt
      dsimp only
      rw [List.getElem?_concat_length]
      unfold mtL
      dsimp only
      rw [if_pos (by rw [List.length_map]; have : big = 1000000 := rfl; omega)]
      simp
    have hme : evCmp .mem (.d (fr q)) (.d (.tuple (w.ps.map fr))) (M ++ [.lst (rows.map Site.d)]) = some (decide (q ∈ w.ps)) := mem_of eqv_fr (fun a => flat_fr a 19) (.inr rfl)
    exact s_next (ev_mth (ev_var rfl) (cell_at hm) (ev_es1 (ev_tup (ev_es3 (ev_var rfl) (ev_var rfl) (ev_cmp (ev_var rfl) (ev_var rfl) hme)) rfl (by simp [big]))) happ) (s_end ⟨rfl, _, _, rfl⟩)
  · rintro env M' ⟨rfl, e4, e6, rfl⟩
    have hl : (sites0 w).length = (asc (w.ws.map (·.2) ++ w.ps)).length := by unfold sites0; rw [List.length_map]
    rw [← hl, List.take_length]
    refine s_ret (v := .d (sitesD (sites0 w))) (M1 := M ++ [.gone]) ?_ fin_dA
    simp [sitesD]

def stD (x : Rat × List Site) : D := .tuple [fr x.1, sitesD x.2]
def histL : Nat → Rat → List Site → List (Rat × List Site)
  | 0, t, ss => [(t, ss)]
  | n + 1, t, ss => match cont ss with
    | none => [(t, ss)]
    | some w => (t, ss) :: histL n (t + w) (moveS ss w)
/-- sizes for at most n moves; then it ends -/
def Fine : Nat → Rat → List Site → Prop
  | 0, t, ss => sm t ∧ Sz ss ∧ cont ss = none
  | n + 1, t, ss => sm t ∧ Sz ss ∧ ∀ w, cont ss = some w → Mz ss w ∧ Fine n (t + w) (moveS ss w)
theorem Fine.z {n : Nat} {t : Rat} {ss : List Site} (h : Fine n t ss) : sm t ∧ Sz ss := by
  cases n with
  | zero => exact ⟨h.1, h.2.1⟩
  | succ n => exact ⟨h.1, h.2.1⟩
theorem history_run {w : Wd} {n : Nat} (hz : Wz w) (hn : n ≤ 1000) (hf : Fine n 0 (sites0 w)) (M : Mem) : F_history.run [.d (wD w)] M = some (.ret (.d (.list ((histL n 0 (sites0 w)).map stD))), M) := by
  refine run_dfR (env := [some (.d (wD w)), none, none, none, none]) rfl (s_next (env1 := [some (.d (wD w)), some (.m M.length), none, none, none]) (M1 := M ++ [.lst [stD (0, sites0 w)]]) ?_
    (s_then (whil_of (fun m env M' => m ≤ n ∧ ∃ pre t ss e2 e3 e4, env = [some (.d (wD w)), some (.m M.length), e2, e3, e4] ∧ M' = M ++ [.lst ((pre ++ [(t, ss)]).map stD)] ∧ Fine m t ss ∧ pre ++ histL m t ss = histL n 0 (sites0 w) ∧ pre.length + m ≤ n) ?_ (m := n) (fuel_lt ?_) ⟨Nat.le_refl _, [], 0, sites0 w, none, none, none, rfl, rfl, hf, rfl, by simp⟩))) rfl
  · have h := ev_call (cs := [F_first_sites, F_next_contact, F_plus, F_moved]) (k := 0) (F := F_first_sites) (env := [some (.d (wD w)), none, none, none, none]) (M := M) (ev_es1 (ev_var (i := 0) rfl)) rfl (first_sites_run hz _) rfl
    have h2 := ev_tup (xs := [fr 0, sitesD (sites0 w)]) (ev_es2 (a := .con "ZERO" (.tuple [(.int 0), (.int 1)])) (v := .d (fr 0)) (M1 := M) (by simp only [evE]; rfl) h) rfl (by simp [big])
    simp only [evS]
    have h3 : evE [F_first_sites, F_next_contact, F_plus, F_moved] (.new (.cons (.tup (.cons (.con "ZERO" (.tuple [(.int 0), (.int 1)])) (.cons (.call 0 (.cons (.var 0) .nil)) .nil))) .nil)) [some (.d (wD w)), none, none, none, none] M = some (.m M.length, M ++ [.lst [stD (0, sites0 w)]]) := by
      have h4 := ev_es1 h2
      simp only [evE]
      rw [h4]
      simp [big, stD]
    rw [h3]
    rfl
  · rintro m env M' ⟨hmn, pre, t, ss, e2, e3, e4, rfl, rfl, hfm, hpre, hlen⟩
    refine .inr ⟨by simp, ?_⟩
    have hm : (M ++ [Cl.lst ((pre ++ [(t, ss)]).map stD)])[M.length]? = some (.lst ((pre ++ [(t, ss)]).map stD)) := List.getElem?_concat_length ..
    obtain ⟨ht, hzz⟩ := hfm.z
    refine s_next (env1 := [some (.d (wD w)), some (.m M.length), some (.d (fr t)), some (.d (sitesD ss)), e4]) (M1 := M ++ [.lst ((pre ++ [(t, ss)]).map stD)]) (ev_asg (v := .d (stD (t, ss))) (ev_idx (ev_var rfl) ev_neg1 (by rw [ix_m hm, last_at]; rfl)) rfl) ?_
    refine s_next (env1 := [some (.d (wD w)), some (.m M.length), some (.d (fr t)), some (.d (sitesD ss)), some (.d (optD (cont ss)))]) (M1 := M ++ [.lst ((pre ++ [(t, ss)]).map stD)]) (ev_asg (ev_call (k := 1) (F := F_next_contact) (ev_es1 (ev_var rfl)) rfl (contact_run hzz _) rfl) rfl) ?_
    refine s_then (s_ifB (v := (cont ss).isNone) (M1 := M ++ [.lst ((pre ++ [(t, ss)]).map stD)]) ?_ ?_ ?_)
    · rw [← isNV_opt]
      simp only [evE]
      rfl
    · intro h
      have hc : cont ss = none := by simpa using h
      have hh : histL m t ss = [(t, ss)] := by
        cases m with
        | zero => rfl
        | succ m =>
          unfold histL
          rw [hc]
      rw [hh] at hpre
      refine s_ret (v := .d (.list ((histL n 0 (sites0 w)).map stD))) (M1 := M ++ [.gone]) ?_ fin_dA
      rw [← hpre]
      simp
    · intro h
      cases hc : cont ss with
      | none => rw [hc] at h; cases h
      | some wt =>
        cases m with
        | zero =>
          have := hfm.2.2
          rw [hc] at this
          cases this
        | succ m =>
          obtain ⟨hmz, hf2⟩ := hfm.2.2 wt hc
          have hh : histL (m + 1) t ss = (t, ss) :: histL m (t + wt) (moveS ss wt) := by
            show (match cont ss with | none => _ | some w => _) = _
            rw [hc]
          rw [hh] at hpre
          have hc1 := ev_call (cs := [F_first_sites, F_next_contact, F_plus, F_moved]) (k := 2) (F := F_plus) (env := [some (.d (wD w)), some (.m M.length), some (.d (fr t)), some (.d (sitesD ss)), some (.d (optD (some wt)))]) (M := M ++ [.lst ((pre ++ [(t, ss)]).map stD)]) (ev_es2 (ev_var (i := 2) rfl) (ev_var (i := 4) rfl)) rfl (plus_run ht hmz.sw _) rfl
          have hc2 := ev_call (cs := [F_first_sites, F_next_contact, F_plus, F_moved]) (k := 3) (F := F_moved) (env := [some (.d (wD w)), some (.m M.length), some (.d (fr t)), some (.d (sitesD ss)), some (.d (optD (some wt)))]) (M := M ++ [.lst ((pre ++ [(t, ss)]).map stD)]) (ev_es2 (ev_var (i := 3) rfl) (ev_var (i := 4) rfl)) rfl (moved_run hmz _) rfl
          have happ : evMt .append (.m M.length) [.d (stD (t + wt, moveS ss wt))] (M ++ [.lst ((pre ++ [(t, ss)]).map stD)]) = some (M ++ [.lst (((pre ++ [(t, ss)]) ++ [(t + wt, moveS ss wt)]).map stD)]) := by
            unfold evMt
            dsimp only
            rw [List.getElem?_concat_length]
            unfold mtL
            dsimp only
            rw [if_pos (by rw [List.length_map, List.length_append, List.length_singleton]; have : big = 1000000 := rfl; omega)]
            simp
          refine s_end (s_next (ev_mth (ev_var rfl) (cell_at hm) (ev_es1 (ev_tup (ev_es2 hc1 hc2) rfl (by simp [big]))) happ) (s_end ⟨m, Nat.lt_succ_self _, by omega, pre ++ [(t, ss)], t + wt, moveS ss wt, _, _, _, rfl, rfl, hf2, ?_, ?_⟩))
          · rw [List.append_assoc]
            exact hpre
          · rw [List.length_append, List.length_singleton]
            omega
  · have : (2 : Nat) ^ 10 ≤ 2 ^ 9000 := Nat.pow_le_pow_right (by decide) (by decide)
    omega
end NW

set_option Elab.async false
set_option linter.all false
set_option maxRecDepth 100000
set_option maxHeartbeats 4000000
set_option exponentiation.threshold 100000
/-! Valid worlds, names, times pass. -/
namespace NW
open PySem

theorem isI_int {i : Int} : isTy (.int i) "int" = true := rfl
theorem notbool_int {i : Int} : isTy (.int i) "bool" = false := rfl
theorem ev_isI {cs : List Fn} {env : En} {M M1 : Mem} {a : E} {x : D} {ty : String} {r : Bool} (h : evE cs a env M = some (.d x, M1)) (h2 : isTy x ty = r) : evE cs (.isI a ty) env M = some (.d (.bool r), M1) := by
  subst h2
  simp only [evE, h, dataV, Option.bind_some, Option.map_some]
theorem all_true {α : Type} {xs : List α} : evBi .all [.d (.list (xs.map fun _ => PyData.bool true))] = fun M => some (.d (.bool true), M) := by
  funext M
  have h := bi_all (bs := xs.map fun _ => true) (M := M)
  rw [List.map_map] at h
  have e : (xs.map fun _ => true).all id = true := by simp
  rw [e] at h
  exact h
theorem is_fraction_run {q : Rat} (hq : sm q) (M : Mem) : F_is_fraction.run [.d (fr q)] M = some (.ret (.d (.bool true)), M) := by
  refine run_dfR (env := [some (.d (fr q)), none]) rfl (s_then (s_ifF (M1 := M) (ts_of (ev_or (r := false) (M1 := M) (ts_of (ev_not (r := true) (ts_of (ev_isI (ev_var rfl) rfl)))) ?_)) (s_end (s_then (s_ifF (M1 := M) (ts_of (ev_not (r := true) (ts_of ?_))) (s_end (s_ret (v := .d (.bool true)) (M1 := M) (ev_ret ?_) fin_d))))))) rfl
  · rw [if_neg Bool.false_ne_true]
    exact ev_cmp (ev_bi (ev_es1 (ev_var rfl)) (by rw [fr, len_t])) ev_int (cmp_ne_int _ _ _)
  · have h := comp_run (mu := false) (cs := [F_common_divisor]) (own := [("one", 1)]) (t := .name 1) (it := .seq (.var 0)) (c := .no) (e := .and (.isI (.var 1) "int") (.not (.isI (.var 1) "bool"))) (f := PyData.int) (xs := [q.num, (q.den : Int)]) (env := [some (.d (fr q)), none]) (M := M)
      (fun _ => some (.bool true)) (by simp only [evI, ev_var (i := 0) (v := .d (fr q)) (env := [some (.d (fr q)), none]) rfl, Option.bind_some, fr, src_t, Option.map_some]; rfl) (by simp [big]) (fun x _ M => ⟨_, true, rfl, by simp only [evC], (fun h => nomatch h), fun _ => ⟨_, ev_and (r := true) (ts_of (ev_isI (ev_var rfl) rfl)) (by
        rw [if_pos rfl]
        exact ev_not (r := false) (ts_of (ev_isI (ev_var rfl) rfl))), rfl⟩⟩)
    rw [fm_all] at h
    exact ev_bi (ev_es1 h) (by rw [all_true])
  · have hd := q.den_pos
    refine ev_and (r := true) (M1 := M) (ts_of (ev_cmp (ev_idx (ev_var rfl) ev_int fr_den) ev_int (by rw [cmp_ge_int]; congr 1; exact decide_eq_true (by omega)))) ?_
    rw [if_pos rfl]
    have hl : (q.den : Int) < 2 ^ 8999 := by
      have h1 := hq.2
      have h2 : (2 : Nat) ^ 1000 ≤ 2 ^ 8999 := Nat.pow_le_pow_right (by decide) (by decide)
      have h5 : q.den < 2 ^ 8999 := by omega
      have h6 : (q.den : Int) < ((2 ^ 8999 : Nat) : Int) := Int.ofNat_lt.mpr h5
      rw [Int.natCast_pow] at h6
      exact h6
    have hg : Int.gcd q.num q.den = 1 := by
      have := q.reduced
      unfold Int.gcd
      rw [natAbs_den]
      exact this
    have h := gcd_run (a := q.num) (b := q.den) (by omega) hl M
    rw [hg] at h
    exact ev_cmp (ev_call (k := 0) (F := F_common_divisor) (ev_es2 (ev_idx (ev_var rfl) ev_int fr_num) (ev_idx (ev_var rfl) ev_int fr_den)) rfl h rfl) ev_int (by rw [cmp_eq_int]; rfl)
theorem is_time_run {q : Rat} (hq : sm q) (M : Mem) : F_is_time.run [.d (fr q)] M = some (.ret (.d (.bool (decide (0 ≤ q)))), M) := by
  refine run_dfR (env := [some (.d (fr q))]) rfl (s_ret (v := .d (.bool (decide (0 ≤ q)))) (M1 := M) (ev_ret (ev_and (r := true) (M1 := M) (ts_of (ev_call (k := 0) (F := F_is_fraction) (ev_es1 (ev_var rfl)) rfl (is_fraction_run hq _) rfl)) ?_)) fin_d) rfl
  rw [if_pos rfl]
  refine ev_cmp (ev_idx (ev_var rfl) ev_int fr_num) ev_int ?_
  rw [cmp_ge_int]
  congr 1
  rw [decide_eq_decide]
  exact Rat.num_nonneg
theorem require_time_run {q : Rat} (hq : sm q) (h0 : 0 ≤ q) (M : Mem) : F_require_time.run [.d (fr q)] M = some (.ret (.d .none), M) := by
  have h := is_time_run hq M
  rw [decide_eq_true h0] at h
  exact run_dfR (env := [some (.d (fr q))]) rfl (s_then (s_ifF (M1 := M) (ts_of (ev_not (r := true) (ts_of (ev_call (k := 0) (F := F_is_time) (ev_es1 (ev_var rfl)) rfl h rfl)))) (s_end (s_end fin_n)))) rfl
/-- names as the program asks -/
def NmOk (n : Nm) : Prop := 1 ≤ n.s.length ∧ n.s.length ≤ 8 ∧ ∀ c ∈ signsD n.s, ∃ z : Str, c = .str z ∧ subS z (Str.ofString "abcdefghijklmnopqrstuvwxyz") = true
theorem mem_str {x y : Str} {M : Mem} : evCmp .mem (.d (.str x)) (.d (.str y)) M = some (subS x y) := rfl
theorem is_name_run {n : Nm} (hn : NmOk n) (M : Mem) : F_is_name.run [.d n.d] M = some (.ret (.d (.bool true)), M) := by
  obtain ⟨h1, h2, h3⟩ := hn
  refine run_dfR (env := [some (.d n.d), none]) rfl (s_ret (v := .d (.bool true)) (M1 := M) (ev_ret (ev_and (r := true) (M1 := M) (ts_of (ev_isI (ev_var rfl) rfl)) ?_)) fin_d) rfl
  rw [if_pos rfl]
  have hl : evBi .len [.d n.d] M = some (.d (.int n.s.length), M) := len_s (by have : big = 1000000 := rfl; omega)
  refine ev_and (r := true) (M1 := M) (ts_of ?_) ?_
  · have e1 : evE [] (.bi .len (.cons (.var 0) .nil)) [some (.d n.d), none] M = some (.d (.int n.s.length), M) := ev_bi (ev_es1 (ev_var rfl)) hl
    simp only [evE] at e1 ⊢
    rw [Option.bind_some, e1, Option.bind_some]
    simp [show (1 : Int) ≤ n.s.length by omega, show (n.s.length : Int) ≤ 8 by omega]
  · rw [if_pos rfl]
    have h := comp_run (mu := false) (cs := []) (own := [("sign", 1)]) (t := .name 1) (it := .seq (.var 0)) (c := .no) (e := .cmp .mem (.var 1) (.con "LETTERS" (.str (Str.ofString "abcdefghijklmnopqrstuvwxyz")))) (f := id) (xs := signsD n.s) (env := [some (.d n.d), none]) (M := M)
      (fun _ => some (.bool true)) (by
        have e := ev_var (cs := []) (i := 0) (v := .d n.d) (env := [some (.d n.d), none]) (M := M) rfl
        simp only [evI, e, Option.bind_some]
        rw [Nm.d, src_s, List.map_id]
        rfl) (by
        have : (signsD n.s).length = n.s.length := by unfold signsD; rw [List.length_map]; rfl
        have : big = 1000000 := rfl
        omega) (fun x hx M => ⟨_, true, rfl, by simp only [evC], (fun h => nomatch h), fun _ => ⟨.bool true, by
          obtain ⟨z, rfl, hz⟩ := h3 x hx
          refine ev_cmp (ev_var rfl) (by simp only [evE]; rfl) ?_
          dsimp only [id]
          rw [mem_str, hz], rfl⟩⟩)
    rw [fm_all] at h
    exact ev_bi (ev_es1 h) (by rw [all_true])
end NW

set_option Elab.async false
set_option linter.all false
set_option maxRecDepth 100000
set_option maxHeartbeats 4000000
set_option exponentiation.threshold 100000
/-! Valid worlds pass. -/
namespace NW
open PySem

theorem cut_from {α : Type} (xs : List α) (k : Nat) : cutN xs (some (k : Int)) none = xs.drop k := by
  unfold cutN
  rw [HT.sIx_nat, HT.sIx_none]
  have h : min k xs.length ≤ xs.length := Nat.min_le_right ..
  rw [List.take_of_length_le (by rw [List.length_drop]; omega)]
  by_cases hk : k ≤ xs.length
  · rw [Nat.min_eq_left hk]
  · rw [Nat.min_eq_right (by omega), List.drop_length, List.drop_eq_nil_of_le (by omega)]
theorem cut_to {α : Type} (xs : List α) (k : Nat) : cutN xs none (some (k : Int)) = xs.take k := by
  unfold cutN
  rw [HT.sIx_nat, HT.sIx_none, List.drop_zero, Nat.sub_zero]
  by_cases hk : k ≤ xs.length
  · rw [Nat.min_eq_left hk]
  · rw [Nat.min_eq_right (by omega), List.take_length, List.take_of_length_le (by omega)]
theorem pairD_zip {α β : Type} {f : α → D} {g : β → D} : ∀ (xs : List α) (ys : List β), pairD (xs.map f) (ys.map g) = (xs.zip ys).map fun p => .tuple [f p.1, g p.2]
  | [], ys => by cases ys <;> rfl
  | _ :: _, [] => rfl
  | x :: xs, y :: ys => by
    rw [List.map_cons, List.map_cons, List.zip_cons_cons, List.map_cons]
    show _ :: pairD _ _ = _
    rw [pairD_zip xs ys]
theorem zip_next {α : Type} {R : α → α → Prop} : ∀ {l : List α}, l.Pairwise R → ∀ p ∈ l.zip (l.drop 1), R p.1 p.2
  | [], _, p, h => by cases h
  | [_], _, p, h => by cases h
  | a :: b :: l, hp, p, h => by
    rw [List.drop_succ_cons, List.drop_zero, List.zip_cons_cons] at h
    obtain ⟨h1, h2⟩ := List.pairwise_cons.mp hp
    rcases List.mem_cons.mp h with rfl | h
    · exact h1 b List.mem_cons_self
    · exact zip_next h2 p h
/-- zip(x, x[1:]) of a tuple -/
theorem ev_zipn {cs : List Fn} {env : En} {M : Mem} {i : Nat} {α : Type} {f : α → D} {xs : List α} (h : env[i]? = some (some (.d (.tuple (xs.map f))))) : evI cs (.zip (.var i) (.slc (.var i) (.so (.int 1)) .no)) env M = some (.fix ((xs.zip (xs.drop 1)).map fun p => .tuple [f p.1, f p.2]), M) := by
  have e : ∀ M, evVar env i M = some (.d (.tuple (xs.map f)), M) := fun M => by
    unfold evVar
    rw [h]
  simp only [evI, evE, e, evO, evPart, Option.bind_some, sl_t]
  rw [show cutN (xs.map f) (some 1) none = (xs.map f).drop 1 from cut_from _ 1, zip_t, ← List.map_drop, pairD_zip]
  rfl
structure WOk (w : Wd) : Prop where
  n1 : 1 ≤ w.ws.length
  n8 : w.ws.length ≤ 8
  p4 : w.ps.length ≤ 4
  nm : ∀ x ∈ w.ws, NmOk x.1
  wsm : ∀ x ∈ w.ws, sm x.2
  psm : ∀ p ∈ w.ps, sm p
  asc : w.ws.Pairwise fun x y => x.1.s.cps.toList < y.1.s.cps.toList
  pasc : Asc w.ps
theorem WOk.z {w : Wd} (h : WOk w) : Wz w := ⟨h.wsm, h.psm, by have := h.n8; omega, by have := h.p4; omega⟩
theorem isT {xs : List D} : isTy (.tuple xs) "tuple" = true := rfl
theorem are_walkers_run {w : Wd} (h : WOk w) (M : Mem) : F_are_walkers.run [.d (.tuple (w.ws.map wkD))] M = some (.ret (.d (.bool true)), M) := by
  have h1 := h.n1
  have h8 := h.n8
  refine run_dfR (env := [some (.d (.tuple (w.ws.map wkD))), none, none, none]) rfl (s_then (s_ifF (M1 := M) (ts_of (ev_or (r := false) (M1 := M) (ts_of (ev_not (r := true) (ts_of (ev_isI (ev_var rfl) rfl)))) ?_)) (s_end (s_then (for_of (f := wkD) (xs := w.ws)
    (fun i env M' => M' = M ∧ ∃ e1, env = [some (.d (.tuple (w.ws.map wkD))), e1, none, none]) ?_ ⟨rfl, none, rfl⟩ ?_ ?_))))) rfl
  · rw [if_neg Bool.false_ne_true]
    refine ev_not (r := true) (ts_of ?_)
    have e1 : evE [F_is_name, F_is_fraction] (.bi .len (.cons (.var 0) .nil)) [some (.d (.tuple (w.ws.map wkD))), none, none, none] M = some (.d (.int (w.ws.length : Int)), M) := ev_bi (ev_es1 (ev_var rfl)) (by rw [len_t, List.length_map])
    simp only [evE] at e1 ⊢
    rw [Option.bind_some, e1, Option.bind_some]
    simp [show (1 : Int) ≤ w.ws.length by omega, show (w.ws.length : Int) ≤ 8 by omega]
  · simp only [evI, ev_var (i := 0) (v := .d (.tuple (w.ws.map wkD))) (env := [some (.d (.tuple (w.ws.map wkD))), none, none, none]) rfl, Option.bind_some, src_t, Option.map_some]
  · rintro i hi env M' ⟨rfl, e1, rfl⟩
    have hx : w.ws[i] ∈ w.ws := List.getElem_mem hi
    generalize w.ws[i] = x at hx
    refine ⟨[some (.d (.tuple (w.ws.map wkD))), some (.d (wkD x)), none, none], rfl, s_then (s_ifF (M1 := M') (ts_of (ev_or (r := false) (M1 := M') (ts_of (ev_not (r := true) (ts_of (ev_isI (ev_var rfl) rfl)))) ?_)) (s_end (s_end ⟨rfl, _, rfl⟩)))⟩
    rw [if_neg Bool.false_ne_true]
    refine ev_or (r := false) (M1 := M') (ts_of (ev_cmp (ev_bi (ev_es1 (ev_var rfl)) (by rw [wkD, len_t])) ev_int (by rw [cmp_ne_int]; rfl))) ?_
    rw [if_neg Bool.false_ne_true]
    refine ev_or (r := false) (M1 := M') (ts_of (ev_not (r := true) (ts_of (ev_call (k := 0) (F := F_is_name) (ev_es1 (ev_idx (ev_var rfl) ev_int wk_nm)) rfl (is_name_run (h.nm x hx) _) rfl)))) ?_
    rw [if_neg Bool.false_ne_true]
    exact ev_not (r := true) (ts_of (ev_call (k := 1) (F := F_is_fraction) (ev_es1 (ev_idx (ev_var rfl) ev_int wk_pos)) rfl (is_fraction_run (h.wsm x hx) _) rfl))
  · rintro env M' ⟨rfl, e1, rfl⟩
    have hc := comp_run (mu := false) (cs := [F_is_name, F_is_fraction]) (own := [("one", 2), ("other", 3)]) (t := .tup [(.name 2), (.name 3)]) (it := .zip (.var 0) (.slc (.var 0) (.so (.int 1)) .no)) (c := .no) (e := .cmp .lt (.idx (.var 2) (.int 0)) (.idx (.var 3) (.int 0)))
      (f := fun p : (Nm × Rat) × (Nm × Rat) => PyData.tuple [wkD p.1, wkD p.2]) (xs := w.ws.zip (w.ws.drop 1)) (env := [some (.d (.tuple (w.ws.map wkD))), e1, none, none]) (M := M') (fun _ => some (.bool true)) (ev_zipn rfl) (by
        rw [List.length_zip]
        have : big = 1000000 := rfl
        omega) (fun p hp M => ⟨[some (.d (.tuple (w.ws.map wkD))), e1, some (.d (wkD p.1)), some (.d (wkD p.2))], true, rfl, by simp only [evC], (fun h => nomatch h), fun _ => ⟨.bool true, ev_cmp (ev_idx (ev_var rfl) ev_int wk_nm) (ev_idx (ev_var rfl) ev_int wk_nm) (by
          have hlt := zip_next h.asc p hp
          show some (decide (p.1.1.s.cps.toList < p.2.1.s.cps.toList)) = some true
          rw [decide_eq_true hlt]), rfl⟩⟩)
    rw [fm_all] at hc
    exact s_ret (v := .d (.bool true)) (M1 := M') (ev_ret (ev_bi (ev_es1 hc) (by rw [all_true]))) fin_d
theorem are_positions_run {ps : List Rat} {k : Nat} (hs : ∀ p ∈ ps, sm p) (ha : Asc ps) (hk : ps.length ≤ k) (h3 : k ≤ 1000) (M : Mem) : F_are_positions.run [.d (.tuple (ps.map fr)), .d (.int (k : Int))] M = some (.ret (.d (.bool true)), M) := by
  refine run_dfR (env := [some (.d (.tuple (ps.map fr))), some (.d (.int (k : Int))), none, none]) rfl (s_then (s_ifF (M1 := M) (ts_of (ev_or (r := false) (M1 := M) (ts_of (ev_not (r := true) (ts_of (ev_isI (ev_var rfl) rfl)))) ?_)) (s_end (s_ret (v := .d (.bool true)) (M1 := M) (ev_ret ?_) fin_d)))) rfl
  · rw [if_neg Bool.false_ne_true]
    refine ev_or (r := false) (M1 := M) (ts_of (ev_cmp (ev_bi (ev_es1 (ev_var rfl)) (by rw [len_t, List.length_map])) (ev_var rfl) (by rw [cmp_gt_int]; congr 1; exact decide_eq_false (by omega)))) ?_
    rw [if_neg Bool.false_ne_true]
    have hc := comp_run (mu := false) (cs := [F_is_fraction, F_is_less]) (own := [("one", 2)]) (t := .name 2) (it := .seq (.var 0)) (c := .no) (e := .call 0 (.cons (.var 2) .nil)) (f := fr) (xs := ps) (env := [some (.d (.tuple (ps.map fr))), some (.d (.int (k : Int))), none, none]) (M := M)
      (fun _ => some (.bool true)) (by simp only [evI, ev_var (i := 0) (v := .d (.tuple (ps.map fr))) (env := [some (.d (.tuple (ps.map fr))), some (.d (.int (k : Int))), none, none]) rfl, Option.bind_some, src_t, Option.map_some]) (by have : big = 1000000 := rfl; omega)
      (fun p hp M => ⟨_, true, rfl, by simp only [evC], (fun h => nomatch h), fun _ => ⟨_, ev_call (F := F_is_fraction) (ev_es1 (ev_var rfl)) rfl (is_fraction_run (hs p hp) _) rfl, rfl⟩⟩)
    rw [fm_all] at hc
    exact ev_not (r := true) (ts_of (ev_bi (ev_es1 hc) (by rw [all_true])))
  · have hc := comp_run (mu := false) (cs := [F_is_fraction, F_is_less]) (own := [("one", 2), ("other", 3)]) (t := .tup [(.name 2), (.name 3)]) (it := .zip (.var 0) (.slc (.var 0) (.so (.int 1)) .no)) (c := .no) (e := .call 1 (.cons (.var 2) (.cons (.var 3) .nil)))
      (f := fun p : Rat × Rat => PyData.tuple [fr p.1, fr p.2]) (xs := ps.zip (ps.drop 1)) (env := [some (.d (.tuple (ps.map fr))), some (.d (.int (k : Int))), none, none]) (M := M) (fun _ => some (.bool true)) (ev_zipn rfl) (by
        rw [List.length_zip]
        have : big = 1000000 := rfl
        omega) (fun p hp M => ⟨[some (.d (.tuple (ps.map fr))), some (.d (.int (k : Int))), some (.d (fr p.1)), some (.d (fr p.2))], true, rfl, by simp only [evC], (fun h => nomatch h), fun _ => ⟨.bool true, by
          have hlt := zip_next ha p hp
          have hm := List.of_mem_zip (a := p.1) (b := p.2) hp
          have hr := less_run (hs p.1 hm.1) (hs p.2 (List.mem_of_mem_drop hm.2)) M
          rw [decide_eq_true hlt] at hr
          exact ev_call (k := 1) (F := F_is_less) (ev_es2 (ev_var rfl) (ev_var rfl)) rfl hr rfl, rfl⟩⟩)
    rw [fm_all] at hc
    exact ev_bi (ev_es1 hc) (by rw [all_true])
theorem require_world_run {w : Wd} (h : WOk w) (M : Mem) : F_require_world.run [.d (wD w)] M = some (.ret (.d .none), M) := by
  have hw : F_is_world.run [.d (wD w)] M = some (.ret (.d (.bool true)), M) := by
    refine run_dfR (env := [some (.d (wD w))]) rfl (s_then (s_ifF (M1 := M) (ts_of (ev_or (r := false) (M1 := M) (ts_of (ev_not (r := true) (ts_of (ev_isI (ev_var rfl) rfl)))) ?_)) (s_end (s_ret (v := .d (.bool true)) (M1 := M) (ev_ret (ev_and (r := true) (M1 := M) (ts_of ?_) ?_)) fin_d)))) rfl
    · rw [if_neg Bool.false_ne_true]
      exact ev_cmp (ev_bi (ev_es1 (ev_var rfl)) (by rw [wD, len_t])) ev_int (by rw [cmp_ne_int]; rfl)
    · exact ev_call (k := 0) (F := F_are_walkers) (ev_es1 (ev_idx (ev_var rfl) ev_int (show _ = some (.d (.tuple (w.ws.map wkD)), M) from rfl))) rfl (are_walkers_run h _) rfl
    · rw [if_pos rfl]
      exact ev_call (k := 1) (F := F_are_positions) (ev_es2 (ev_idx (ev_var rfl) ev_int (show _ = some (.d (.tuple (w.ps.map fr)), M) from rfl)) (by simp only [evE]; rfl)) rfl (are_positions_run (k := 4) h.psm h.pasc h.p4 (by omega) _) rfl
  exact run_dfR (env := [some (.d (wD w))]) rfl (s_then (s_ifF (M1 := M) (ts_of (ev_not (r := true) (ts_of (ev_call (k := 0) (F := F_is_world) (ev_es1 (ev_var rfl)) rfl hw rfl)))) (s_end (s_end fin_n)))) rfl
end NW

set_option Elab.async false
set_option linter.all false
set_option maxRecDepth 100000
set_option maxHeartbeats 4000000
set_option exponentiation.threshold 100000
/-! Positions at a time, the end of a walker, the end of all. -/
namespace NW
open PySem

theorem ev_seqv {cs : List Fn} {env : En} {M M1 : Mem} {e : E} {v : Vl} {s : Src} (h : evE cs e env M = some (v, M1)) (h2 : srcOf M1 v = some s) : evI cs (.seq e) env M = some (s, M1) := by
  simp only [evI, h, Option.bind_some, h2, Option.map_some]
theorem names_of_run {w : Wd} (hl : w.ws.length ≤ 1000) (M : Mem) : F_names_of.run [.d (wD w)] M = some (.ret (.d (.list ((w.ws.map (·.1)).map Nm.d))), M) := by
  have hc := comp_run (mu := false) (cs := []) (own := [("name", 1), ("position", 2)]) (t := .tup [(.name 1), (.name 2)]) (it := .seq (.idx (.var 0) (.int 0))) (c := .no) (e := .var 1) (f := wkD) (xs := w.ws) (env := [some (.d (wD w)), none, none]) (M := M)
    (fun x => some x.1.d) (ev_seqv (ev_idx (ev_var rfl) ev_int (show _ = some (.d (.tuple (w.ws.map wkD)), M) from rfl)) src_t) (by have : big = 1000000 := rfl; omega)
    (fun x hx M => ⟨[some (.d (wD w)), some (.d x.1.d), some (.d (fr x.2))], true, rfl, by simp only [evC], (fun h => nomatch h), fun _ => ⟨_, ev_var rfl, rfl⟩⟩)
  rw [fm_all] at hc
  refine run_dfR (env := [some (.d (wD w)), none, none]) rfl (s_ret (v := .d (.list ((w.ws.map (·.1)).map Nm.d))) (M1 := M) (ev_ret ?_) fin_d) rfl
  rw [List.map_map]
  exact hc
theorem require_name_run {w : Wd} (hl : w.ws.length ≤ 1000) {n : Nm} (hn : n ∈ w.ws.map (·.1)) (M : Mem) : F_require_name.run [.d (wD w), .d n.d] M = some (.ret (.d .none), M) := by
  refine run_dfR (env := [some (.d (wD w)), some (.d n.d)]) rfl (s_then (s_ifF (M1 := M) (ts_of (ev_or (r := false) (M1 := M) (ts_of (ev_not (r := true) (ts_of (ev_isI (ev_var rfl) rfl)))) ?_)) (s_end (s_end fin_n)))) rfl
  rw [if_neg Bool.false_ne_true]
  refine ev_cmp (ev_var rfl) (ev_call (k := 0) (F := F_names_of) (ev_es1 (ev_var rfl)) rfl (names_of_run hl _) rfl) ?_
  rw [nmem_of eqv_nm (fun a => flat_nm a 20) (x := n) (xs := w.ws.map (·.1)) (.inl rfl), decide_eq_true hn]
  rfl
/-- [state for state in states if not is_less(time, state[0])][-1] -/
theorem sites_at_run {L : List (Rat × List Site)} {t : Rat} {r : Rat × List Site} (hL : L.length ≤ 10000) (hs : ∀ x ∈ L, sm x.1) (ht : sm t) (hr : (L.filter fun x => !decide (t < x.1)).getLast? = some r) (hmv : r.1 ≠ t → Mz r.2 (t - r.1)) (M : Mem) :
    F_sites_at.run [.d (.list (L.map stD)), .d (fr t)] M = some (.ret (.d (sitesD (if r.1 = t then r.2 else moveS r.2 (t - r.1)))), M) := by
  have hc := comp_run (mu := false) (cs := [F_is_less, F_minus, F_moved]) (own := [("state", 3)]) (t := .name 3) (it := .seq (.var 0)) (c := .so (.not (.call 0 (.cons (.var 1) (.cons (.idx (.var 3) (.int 0)) .nil))))) (e := .var 3) (f := stD) (xs := L) (env := [some (.d (.list (L.map stD))), some (.d (fr t)), none, none]) (M := M)
    (fun x => if (!decide (t < x.1)) = true then some (stD x) else none) (ev_seqv (ev_var rfl) src_l) (by have : big = 1000000 := rfl; omega)
    (fun x hx M => ⟨[some (.d (.list (L.map stD))), some (.d (fr t)), none, some (.d (stD x))], !decide (t < x.1), rfl, by
      simp only [evC]
      exact ts_of (ev_not (ts_of (ev_call (k := 0) (F := F_is_less) (ev_es2 (ev_var rfl) (ev_idx (ev_var rfl) ev_int (show _ = some (.d (fr x.1), M) from rfl))) rfl (less_run ht (hs x hx) _) rfl))), (fun h => by dsimp only; rw [h]; rfl), fun h => ⟨stD x, ev_var rfl, by dsimp only; rw [h]; rfl⟩⟩)
  rw [fm_if] at hc
  have hrL : r ∈ L := (List.mem_filter.mp (List.mem_of_getLast? hr)).1
  have hlast : L2.atI ((L.filter fun x => !decide (t < x.1)).map stD) (-1) = some (stD r) := by
    have e := last_split hr
    rw [e]
    exact last_at
  refine run_dfR (env := [some (.d (.list (L.map stD))), some (.d (fr t)), none, none]) rfl (s_next (env1 := [some (.d (.list (L.map stD))), some (.d (fr t)), some (.d (stD r)), none]) (M1 := M) (ev_asg (ev_idx hc ev_neg1 (by rw [ix_l, hlast]; rfl)) rfl)
    (s_ret (v := .d (sitesD (if r.1 = t then r.2 else moveS r.2 (t - r.1)))) (M1 := M) (ev_ret (ev_ife (r := !decide (r.1 = t)) (M1 := M) (ts_of (ev_cmp (ev_idx (ev_var rfl) ev_int (show _ = some (.d (fr r.1), M) from rfl)) (ev_var rfl) (cmp_ne_fr _ _ _))) ?_)) fin_d)) rfl
  by_cases h : r.1 = t
  · rw [if_neg (by simp [h]), if_pos h]
    exact ev_idx (ev_var rfl) ev_int rfl
  · rw [if_pos (by simp [h]), if_neg h]
    exact ev_call (k := 2) (F := F_moved) (ev_es2 (ev_idx (ev_var rfl) ev_int (show _ = some (.d (sitesD r.2), M) from rfl)) (ev_call (k := 1) (F := F_minus) (ev_es2 (ev_var rfl) (ev_idx (ev_var rfl) ev_int (show _ = some (.d (fr r.1), M) from rfl))) rfl (minus_run ht (hs r hrL) _) rfl)) rfl (moved_run (hmv h) _) rfl
/-- where a name stands -/
def placeOf (ss : List Site) (n : Nm) : Option Nat := ((List.range ss.length).filter fun i => decide (n ∈ (sAt ss i).ns)).head?
theorem enum_map (ss : List Site) : pairD (rngD 0 (ss.map Site.d).length) (ss.map Site.d) = (List.range ss.length).map fun i => .tuple [natD i, (sAt ss i).d] := by
  rw [List.length_map, rng_map]
  have e : ss.map Site.d = (List.range ss.length).map fun i => (sAt ss i).d := by
    conv => lhs; rw [← ss_range ss, List.map_map]
    rfl
  rw [e, pairD_map]
theorem place_of_run {ss : List Site} {n : Nm} {i : Nat} (hl : ss.length ≤ 1000) (h : placeOf ss n = some i) (M : Mem) : F_place_of.run [.d (sitesD ss), .d n.d] M = some (.ret (.d (.int (i : Int))), M) := by
  have hc := comp_run (mu := false) (cs := []) (own := [("at", 2), ("row", 3)]) (t := .tup [(.name 2), (.name 3)]) (it := .enum (.var 0)) (c := .so (.cmp .mem (.var 1) (.idx (.var 3) (.int 1)))) (e := .var 2) (f := fun i => PyData.tuple [natD i, (sAt ss i).d]) (xs := List.range ss.length) (env := [some (.d (sitesD ss)), some (.d n.d), none, none]) (M := M)
    (fun i => if decide (n ∈ (sAt ss i).ns) = true then some (natD i) else none) (by
      have e : ∀ M, evVar [some (.d (sitesD ss)), some (.d n.d), none, none] 0 M = some (.d (sitesD ss), M) := fun _ => rfl
      simp only [evI, evE, e, Option.bind_some]
      rw [sitesD, enum_l, enum_map]
      rfl) (by rw [List.length_range]; have : big = 1000000 := rfl; omega)
    (fun i hi M => ⟨[some (.d (sitesD ss)), some (.d n.d), some (.d (natD i)), some (.d (sAt ss i).d)], decide (n ∈ (sAt ss i).ns), rfl, by
      simp only [evC]
      exact ts_of (ev_cmp (ev_var rfl) (ev_idx (ev_var rfl) ev_int site_n) (mem_of eqv_nm (fun a => flat_nm a 20) (.inr rfl))), (fun h => by dsimp only; rw [h]; rfl), fun h => ⟨natD i, ev_var rfl, by dsimp only; rw [h]; rfl⟩⟩)
  rw [fm_if] at hc
  have hh : L2.atI (((List.range ss.length).filter fun i => decide (n ∈ (sAt ss i).ns)).map natD) 0 = some (natD i) := by
    refine at_map (k := 0) ?_
    rw [← List.head?_eq_getElem?]
    exact h
  exact run_dfR (env := [some (.d (sitesD ss)), some (.d n.d), none, none]) rfl (s_ret (v := .d (.int (i : Int))) (M1 := M) (ev_ret (ev_idx hc ev_int (by rw [ix_l, hh]; rfl))) fin_d) rfl
theorem place_lt {ss : List Site} {n : Nm} {i : Nat} (h : placeOf ss n = some i) : i < ss.length := by
  have := List.mem_of_mem_head? h
  exact List.mem_range.mp (List.mem_filter.mp this).1
def plc (ss : List Site) (n : Nm) : Nat := (placeOf ss n).getD 0
theorem place_some {ss : List Site} {n : Nm} (h : ∃ s ∈ ss, n ∈ s.ns) : placeOf ss n = some (plc ss n) := by
  unfold plc
  cases hp : placeOf ss n with
  | some i => rfl
  | none =>
    obtain ⟨s, hs, hn⟩ := h
    unfold placeOf at hp
    rw [List.head?_eq_none_iff, List.filter_eq_nil_iff] at hp
    obtain ⟨i, hi, e⟩ := List.getElem_of_mem hs
    exact absurd (decide_eq_true (by rw [sAt_at hi, e]; exact hn)) (hp i (List.mem_range.mpr hi))
theorem place_has {ss : List Site} {n : Nm} {i : Nat} (h : placeOf ss n = some i) : n ∈ (sAt ss i).ns := by
  have := List.mem_of_mem_head? h
  simpa using (List.mem_filter.mp this).2
/-- all walkers are somewhere -/
def AllIn (w : Wd) (ss : List Site) : Prop := ∀ x ∈ w.ws, ∃ s ∈ ss, x.1 ∈ s.ns
def posD (w : Wd) (ss : List Site) : List D := w.ws.map fun x => .tuple [x.1.d, fr (pos ss (plc ss x.1))]
theorem all_positions_run {w : Wd} {L : List (Rat × List Site)} {t : Rat} {ss : List Site} (hl : w.ws.length ≤ 1000) (hs : ss.length ≤ 1000) (ha : AllIn w ss) (hr : ∀ M, F_sites_at.run [.d (.list (L.map stD)), .d (fr t)] M = some (.ret (.d (sitesD ss)), M)) (M : Mem) :
    F_all_positions.run [.d (wD w), .d (.list (L.map stD)), .d (fr t)] M = some (.ret (.m M.length), M ++ [Cl.lst (posD w ss)]) := by
  have hc := comp_run (mu := true) (cs := [F_sites_at, F_names_of, F_place_of]) (own := [("name", 4)]) (t := .name 4) (it := .seq (.call 1 (.cons (.var 0) .nil))) (c := .no) (e := .tup (.cons (.var 4) (.cons (.idx (.idx (.var 3) (.call 2 (.cons (.var 3) (.cons (.var 4) .nil)))) (.int 0)) .nil))) (f := fun x : Nm × Rat => x.1.d) (xs := w.ws)
    (env := [some (.d (wD w)), some (.d (.list (L.map stD))), some (.d (fr t)), some (.d (sitesD ss)), none]) (M := M) (fun x => some (.tuple [x.1.d, fr (pos ss (plc ss x.1))]))
    (ev_seqv (ev_call (k := 1) (F := F_names_of) (ev_es1 (ev_var rfl)) rfl (names_of_run hl _) rfl) (by rw [src_l, List.map_map]; rfl)) (by have : big = 1000000 := rfl; omega)
    (fun x hx M => ⟨[some (.d (wD w)), some (.d (.list (L.map stD))), some (.d (fr t)), some (.d (sitesD ss)), some (.d x.1.d)], true, rfl, by simp only [evC], (fun h => nomatch h), fun _ => ⟨_, by
      have hp := place_some (ha x hx)
      exact ev_tup (ev_es2 (ev_var rfl) (ev_pos (i := plc ss x.1) (ev_var rfl) (ev_call (k := 2) (F := F_place_of) (ev_es2 (ev_var rfl) (ev_var rfl)) rfl (place_of_run hs hp _) rfl) rfl (place_lt hp))) rfl (by simp [big]), rfl⟩⟩)
  rw [fm_all, if_pos rfl] at hc
  refine run_dfR (env := [some (.d (wD w)), some (.d (.list (L.map stD))), some (.d (fr t)), none, none]) rfl (s_next (env1 := [some (.d (wD w)), some (.d (.list (L.map stD))), some (.d (fr t)), some (.d (sitesD ss)), none]) (M1 := M)
    (ev_asg (ev_call (k := 0) (F := F_sites_at) (ev_es2 (ev_var rfl) (ev_var rfl)) rfl (hr _) rfl) rfl) (s_ret (v := .m M.length) (M1 := M ++ [Cl.lst (posD w ss)]) (ev_ret hc) ?_)) rfl
  simp
theorem positions_at_run {w : Wd} {L : List (Rat × List Site)} {t : Rat} {ss : List Site} (hw : WOk w) (ht : sm t) (h0 : 0 ≤ t) (hs : ss.length ≤ 1000) (ha : AllIn w ss) (hh : ∀ M, F_history.run [.d (wD w)] M = some (.ret (.d (.list (L.map stD))), M)) (hr : ∀ M, F_sites_at.run [.d (.list (L.map stD)), .d (fr t)] M = some (.ret (.d (sitesD ss)), M)) (M : Mem) :
    F_positions_at.run [.d (wD w), .d (fr t)] M = some (.ret (.m M.length), M ++ [Cl.lst (posD w ss)]) := by
  refine run_dfR (env := [some (.d (wD w)), some (.d (fr t))]) rfl (s_next (ev_callS (k := 0) (F := F_require_world) (ev_es1 (ev_var rfl)) rfl (require_world_run hw _) rfl) (s_next (ev_callS (k := 1) (F := F_require_time) (ev_es1 (ev_var rfl)) rfl (require_time_run ht h0 _) rfl)
    (s_ret (v := .m M.length) (M1 := M ++ [Cl.lst (posD w ss)]) (ev_ret (ev_call (k := 3) (F := F_all_positions) (ev_es3 (ev_var rfl) (ev_call (k := 2) (F := F_history) (ev_es1 (ev_var rfl)) rfl (hh _) rfl) (ev_var rfl)) rfl (all_positions_run (by have := hw.n8; omega) hs ha hr _) rfl)) ?_))) rfl
  simp
end NW

set_option Elab.async false
set_option linter.all false
set_option maxRecDepth 100000
set_option maxHeartbeats 4000000
set_option exponentiation.threshold 100000
/-! final, finished. -/
namespace NW
open PySem

def rowD (x : Rat × Rat × Int) : D := .tuple [fr x.1, fr x.2.1, .int x.2.2]
def stepsL (L : List (Rat × List Site)) (n : Nm) : List (Rat × Rat × Int) := L.map fun x => (x.1, pos x.2 (plc x.2 n), spd x.2 (plc x.2 n))
/-- what is asked of the states -/
structure Lz (w : Wd) (L : List (Rat × List Site)) : Prop where
  sz : ∀ x ∈ L, Sz x.2
  al : ∀ x ∈ L, AllIn w x.2
  ln : L.length ≤ 10000
theorem app_cell {M : Mem} {xs : List D} {y : D} (h : xs.length < big) : evMt .append (.m M.length) [.d y] (M ++ [.lst xs]) = some (M ++ [.lst (xs ++ [y])]) := by
  unfold evMt
  dsimp only
  rw [List.getElem?_concat_length]
  unfold mtL
  dsimp only
  rw [if_pos h]
  simp
theorem steps_of_run {w : Wd} {L : List (Rat × List Site)} {n : Nm} (hz : Lz w L) (hn : n ∈ w.ws.map (·.1)) (M : Mem) : F_steps_of.run [.d (.list (L.map stD)), .d n.d] M = some (.ret (.d (.list ((stepsL L n).map rowD))), M) := by
  obtain ⟨x0, hx0, rfl⟩ := List.mem_map.mp hn
  refine run_dfR (env := [some (.d (.list (L.map stD))), some (.d x0.1.d), none, none, none, none]) rfl (s_next (env1 := [some (.d (.list (L.map stD))), some (.d x0.1.d), some (.m M.length), none, none, none]) (M1 := M ++ [.lst []]) (by simp [big])
    (s_then (for_of (f := stD) (xs := L) (fun i env M' => M' = M ++ [.lst (((stepsL L x0.1).take i).map rowD)] ∧ ∃ e3 e4 e5, env = [some (.d (.list (L.map stD))), some (.d x0.1.d), some (.m M.length), e3, e4, e5]) (ev_seqv (ev_var rfl) src_l) ⟨rfl, none, none, none, rfl⟩ ?_ ?_))) rfl
  · rintro i hi env M' ⟨rfl, e3, e4, e5, rfl⟩
    have hx : L[i] ∈ L := List.getElem_mem hi
    have hnx : (stepsL L x0.1).take (i + 1) = (stepsL L x0.1).take i ++ [(L[i].1, pos L[i].2 (plc L[i].2 x0.1), spd L[i].2 (plc L[i].2 x0.1))] := by
      rw [List.take_succ_eq_append_getElem (by unfold stepsL; rw [List.length_map]; exact hi)]
      unfold stepsL
      rw [List.getElem_map]
    rw [hnx]
    have hrl : ((stepsL L x0.1).take i).length ≤ 10000 := by
      rw [List.length_take]
      have := hz.ln
      omega
    generalize (stepsL L x0.1).take i = rows at hrl ⊢
    generalize L[i] = x at hx
    have hs := hz.sz x hx
    have hp := place_some (hz.al x hx x0 hx0)
    have hlt := place_lt hp
    generalize plc x.2 x0.1 = k at hp hlt ⊢
    have hm : (M ++ [Cl.lst (rows.map rowD)])[M.length]? = some (.lst (rows.map rowD)) := List.getElem?_concat_length ..
    refine ⟨[some (.d (.list (L.map stD))), some (.d x0.1.d), some (.m M.length), some (.d (fr x.1)), some (.d (sitesD x.2)), e5], rfl, s_next (env1 := [some (.d (.list (L.map stD))), some (.d x0.1.d), some (.m M.length), some (.d (fr x.1)), some (.d (sitesD x.2)), some (.d (.int (k : Int)))]) (M1 := M ++ [.lst (rows.map rowD)])
      (ev_asg (ev_call (k := 0) (F := F_place_of) (ev_es2 (ev_var rfl) (ev_var rfl)) rfl (place_of_run hs.len hp _) rfl) rfl) (s_next (ev_mth (ev_var rfl) (cell_at hm) (ev_es1 (ev_tup (xs := [fr x.1, fr (pos x.2 k), .int (spd x.2 k)]) (ev_es3 (ev_var rfl) (ev_pos (i := k) (ev_var rfl) (ev_var rfl) rfl hlt) (ev_call (k := 1) (F := F_speed_of) (ev_es2 (ev_var rfl) (ev_var rfl)) rfl (speed_of_run hlt hs.one hs.gap _) rfl)) rfl (by simp [big])))
      (app_cell (by rw [List.length_map]; have : big = 1000000 := rfl; omega))) (s_end ⟨?_, _, _, _, rfl⟩))⟩
    rw [List.map_append]
    rfl
  · rintro env M' ⟨rfl, e3, e4, e5, rfl⟩
    have hl : (stepsL L x0.1).length = L.length := by unfold stepsL; rw [List.length_map]
    rw [← hl, List.take_length]
    refine s_ret (v := .d (.list ((stepsL L x0.1).map rowD))) (M1 := M ++ [.gone]) ?_ fin_dA
    simp
/-- the first row of speed 0; without one the last row -/
def endS (rows : List (Rat × Rat × Int)) (last : Rat × Rat × Int) : Rat × Rat × Int := rows.reverse.foldl (fun f r => if r.2.2 = 0 then r else f) last
def ptD (x : Rat × Rat) : D := .tuple [fr x.1, fr x.2]
def endOf (L : List (Rat × List Site)) (n : Nm) : Rat × Rat := match (stepsL L n).getLast? with
  | some r => ((endS (stepsL L n) r).1, (endS (stepsL L n) r).2.1)
  | none => (0, 0)
theorem end_of_run {w : Wd} {L : List (Rat × List Site)} {n : Nm} (hz : Lz w L) (hn : n ∈ w.ws.map (·.1)) (hne : L ≠ []) (M : Mem) : F_end_of.run [.d (.list (L.map stD)), .d n.d] M = some (.ret (.d (ptD (endOf L n))), M) := by
  have hsl : (stepsL L n).length = L.length := by unfold stepsL; rw [List.length_map]
  unfold endOf
  have hnn : stepsL L n ≠ [] := fun e => hne (by
    have : L.length = 0 := by rw [← hsl, e]; rfl
    exact List.length_eq_zero_iff.mp this)
  have hst := steps_of_run hz hn
  obtain ⟨r, hr⟩ : ∃ r, (stepsL L n).getLast? = some r := ⟨_, List.getLast?_eq_some_getLast hnn⟩
  rw [hr]
  dsimp only
  generalize stepsL L n = rows at hr hst hsl ⊢
  have hlast : L2.atI (rows.map rowD) (-1) = some (rowD r) := by
    have e := last_split hr
    rw [e]
    exact last_at
  refine run_dfR (env := [some (.d (.list (L.map stD))), some (.d n.d), none, none, none]) rfl (s_next (env1 := [some (.d (.list (L.map stD))), some (.d n.d), some (.d (.list (rows.map rowD))), none, none]) (M1 := M) (ev_asg (ev_call (k := 0) (F := F_steps_of) (ev_es2 (ev_var rfl) (ev_var rfl)) rfl (hst _) rfl) rfl)
    (s_next (env1 := [some (.d (.list (L.map stD))), some (.d n.d), some (.d (.list (rows.map rowD))), some (.d (rowD r)), none]) (M1 := M) (ev_asg (ev_idx (ev_var rfl) ev_neg1 (by rw [ix_l, hlast]; rfl)) rfl)
    (s_then (for_of (f := rowD) (xs := rows.reverse) (fun i env M' => M' = M ∧ ∃ e4, env = [some (.d (.list (L.map stD))), some (.d n.d), some (.d (.list (rows.map rowD))), some (.d (rowD ((rows.reverse.take i).foldl (fun f r => if r.2.2 = 0 then r else f) r))), e4]) ?_ ⟨rfl, none, rfl⟩ ?_ ?_)))) rfl
  · refine ev_seqv (v := .d (.list (rows.reverse.map rowD))) (M1 := M) ?_ src_l
    have e : ∀ M, evVar [some (.d (.list (L.map stD))), some (.d n.d), some (.d (.list (rows.map rowD))), some (.d (rowD r)), none] 2 M = some (.d (.list (rows.map rowD)), M) := fun _ => rfl
    simp only [evE, e, Option.bind_some]
    rw [rv_l, List.map_reverse]
  · rintro i hi env M' ⟨rfl, e4, rfl⟩
    rw [List.take_succ_eq_append_getElem hi, List.foldl_append]
    generalize (rows.reverse.take i).foldl (fun f r => if r.2.2 = 0 then r else f) r = f0
    generalize rows.reverse[i] = x
    refine ⟨[some (.d (.list (L.map stD))), some (.d n.d), some (.d (.list (rows.map rowD))), some (.d (rowD f0)), some (.d (rowD x))], rfl, s_then (s_ifB (v := decide (x.2.2 = 0)) (M1 := M') (ts_of (ev_cmp (ev_idx (ev_var rfl) ev_int (show _ = some (.d (.int x.2.2), M') from rfl)) ev_int (cmp_eq_int _ _ _))) ?_ ?_)⟩
    · intro h
      have h := of_decide_eq_true h
      refine s_next (env1 := [some (.d (.list (L.map stD))), some (.d n.d), some (.d (.list (rows.map rowD))), some (.d (rowD x)), some (.d (rowD x))]) (M1 := M') (ev_asg (ev_var rfl) rfl) (s_end (s_end ⟨rfl, some (.d (rowD x)), ?_⟩))
      simp only [List.foldl_cons, List.foldl_nil]
      rw [if_pos h]
    · intro h
      have h := of_decide_eq_false h
      refine s_end (s_end ⟨rfl, some (.d (rowD x)), ?_⟩)
      simp only [List.foldl_cons, List.foldl_nil]
      rw [if_neg h]
  · rintro env M' ⟨rfl, e4, rfl⟩
    rw [List.take_length]
    refine s_ret (v := .d (ptD ((endS rows r).1, (endS rows r).2.1))) (M1 := M') (ev_ret ?_) fin_d
    show evE _ (.slc (.var 3) .no (.so (.int 2))) _ _ = _
    have e : ∀ M, evVar [some (.d (.list (L.map stD))), some (.d n.d), some (.d (.list (rows.map rowD))), some (.d (rowD (rows.reverse.foldl (fun f r => if r.2.2 = 0 then r else f) r))), e4] 3 M = some (.d (rowD (endS rows r)), M) := fun _ => rfl
    simp only [evE, evO, evPart, e, Option.bind_some]
    rfl
theorem final_run {w : Wd} {L : List (Rat × List Site)} {n : Nm} (hw : WOk w) (hz : Lz w L) (hn : n ∈ w.ws.map (·.1)) (hne : L ≠ []) (hh : ∀ M, F_history.run [.d (wD w)] M = some (.ret (.d (.list (L.map stD))), M)) (M : Mem) :
    F_final.run [.d (wD w), .d n.d] M = some (.ret (.d (ptD (endOf L n))), M) :=
  run_dfR (env := [some (.d (wD w)), some (.d n.d)]) rfl (s_next (ev_callS (k := 0) (F := F_require_world) (ev_es1 (ev_var rfl)) rfl (require_world_run hw _) rfl) (s_next (ev_callS (k := 1) (F := F_require_name) (ev_es2 (ev_var rfl) (ev_var rfl)) rfl (require_name_run (by have := hw.n8; omega) hn _) rfl)
    (s_ret (v := .d (ptD (endOf L n))) (M1 := M) (ev_ret (ev_call (k := 3) (F := F_end_of) (ev_es2 (ev_call (k := 2) (F := F_history) (ev_es1 (ev_var rfl)) rfl (hh _) rfl) (ev_var rfl)) rfl (end_of_run hz hn hne _) rfl)) fin_d))) rfl
def maxQ (qs : List Rat) : Rat := qs.foldl (fun f q => if f < q then q else f) 0
theorem greatest_run {qs : List Rat} (hs : ∀ q ∈ qs, sm q) (h0 : sm 0) (M : Mem) : F_greatest.run [.d (.list (qs.map fr))] M = some (.ret (.d (fr (maxQ qs))), M) := by
  refine run_dfR (env := [some (.d (.list (qs.map fr))), none, none]) rfl (s_next (env1 := [some (.d (.list (qs.map fr))), some (.d (fr 0)), none]) (M1 := M) (ev_asg (v := .d (fr 0)) (by simp only [evE]; rfl) rfl)
    (s_then (for_of (f := fr) (xs := qs) (fun i env M' => M' = M ∧ sm ((qs.take i).foldl (fun f q => if f < q then q else f) 0) ∧ ∃ e2, env = [some (.d (.list (qs.map fr))), some (.d (fr ((qs.take i).foldl (fun f q => if f < q then q else f) 0))), e2]) (ev_seqv (ev_var rfl) src_l) ⟨rfl, h0, none, rfl⟩ ?_ ?_))) rfl
  · rintro i hi env M' ⟨rfl, hf, e2, rfl⟩
    rw [List.take_succ_eq_append_getElem hi, List.foldl_append]
    have hx := hs _ (List.getElem_mem hi)
    generalize (qs.take i).foldl (fun f q => if f < q then q else f) 0 = f at hf ⊢
    generalize qs[i] = q at hx ⊢
    simp only [List.foldl_cons, List.foldl_nil]
    refine ⟨[some (.d (.list (qs.map fr))), some (.d (fr f)), some (.d (fr q))], rfl, s_next (env1 := [some (.d (.list (qs.map fr))), some (.d (fr (if f < q then q else f))), some (.d (fr q))]) (M1 := M') (ev_asg (ev_ife (ts_of (ev_call (k := 0) (F := F_is_less) (ev_es2 (ev_var rfl) (ev_var rfl)) rfl (less_run hf hx _) rfl)) ?_) rfl) (s_end ⟨rfl, ?_, _, rfl⟩)⟩
    · by_cases h : f < q
      · rw [if_pos (decide_eq_true h), if_pos h]
        exact ev_var rfl
      · rw [if_neg (by simpa using h), if_neg h]
        exact ev_var rfl
    · split
      · exact hx
      · exact hf
  · rintro env M' ⟨rfl, hf, e2, rfl⟩
    rw [List.take_length] at hf ⊢
    exact s_ret (v := .d (fr (maxQ qs))) (M1 := M') (ev_ret (ev_var rfl)) fin_d
/-- finished, as a pair -/
def lastOf (w : Wd) (L : List (Rat × List Site)) : Rat := maxQ (w.ws.map fun x => (endOf L x.1).1)
def finD (w : Wd) (L : List (Rat × List Site)) : D := .tuple [fr (lastOf w L), .tuple (((w.ws.filter fun x => decide ((endOf L x.1).1 = lastOf w L)).map (·.1)).map Nm.d)]
theorem finished_run {w : Wd} {L : List (Rat × List Site)} (hw : WOk w) (hz : Lz w L) (hne : L ≠ []) (hs : ∀ x ∈ w.ws, sm (endOf L x.1).1) (h0 : sm 0) (hh : ∀ M, F_history.run [.d (wD w)] M = some (.ret (.d (.list (L.map stD))), M)) (M : Mem) :
    F_finished.run [.d (wD w)] M = some (.ret (.d (finD w L)), M) := by
  have h8 := hw.n8
  have hc := fun M => comp_run (mu := false) (cs := [F_require_world, F_history, F_names_of, F_end_of, F_greatest]) (own := [("name", 3)]) (t := .name 3) (it := .seq (.call 2 (.cons (.var 0) .nil))) (c := .no) (e := .tup (.cons (.var 3) (.cons (.idx (.call 3 (.cons (.var 1) (.cons (.var 3) .nil))) (.int 0)) .nil))) (f := fun x : Nm × Rat => x.1.d) (xs := w.ws)
    (env := [some (.d (wD w)), some (.d (.list (L.map stD))), none, none, none, none]) (M := M) (fun x => some (.tuple [x.1.d, fr (endOf L x.1).1])) (ev_seqv (ev_call (k := 2) (F := F_names_of) (ev_es1 (ev_var rfl)) rfl (names_of_run (by omega) _) rfl) (by rw [src_l, List.map_map]; rfl)) (by have : big = 1000000 := rfl; omega)
    (fun x hx M => ⟨[some (.d (wD w)), some (.d (.list (L.map stD))), none, some (.d x.1.d), none, none], true, rfl, by simp only [evC], (fun h => nomatch h), fun _ => ⟨_, ev_tup (ev_es2 (ev_var rfl) (ev_idx (ev_call (k := 3) (F := F_end_of) (ev_es2 (ev_var rfl) (ev_var rfl)) rfl (end_of_run hz (List.mem_map_of_mem hx) hne _) rfl) ev_int (show _ = some (.d (fr (endOf L x.1).1), M) from rfl))) rfl (by simp [big]), rfl⟩⟩)
  have hc2 := fun (e4 : Option Vl) M => comp_run (mu := false) (cs := [F_require_world, F_history, F_names_of, F_end_of, F_greatest]) (own := [("name", 3), ("time", 5)]) (t := .tup [(.name 3), (.name 5)]) (it := .seq (.var 2)) (c := .no) (e := .var 5) (f := fun x : Nm × Rat => PyData.tuple [x.1.d, fr (endOf L x.1).1]) (xs := w.ws)
    (env := [some (.d (wD w)), some (.d (.list (L.map stD))), some (.d (.list (w.ws.map fun x => PyData.tuple [x.1.d, fr (endOf L x.1).1]))), none, e4, none]) (M := M) (fun x => some (fr (endOf L x.1).1)) (ev_seqv (ev_var rfl) src_l) (by have : big = 1000000 := rfl; omega)
    (fun x hx M => ⟨[some (.d (wD w)), some (.d (.list (L.map stD))), some (.d (.list (w.ws.map fun x => PyData.tuple [x.1.d, fr (endOf L x.1).1]))), some (.d x.1.d), e4, some (.d (fr (endOf L x.1).1))], true, rfl, by simp only [evC], (fun h => nomatch h), fun _ => ⟨_, ev_var rfl, rfl⟩⟩)
  have hc3 := fun M => comp_run (mu := false) (cs := [F_require_world, F_history, F_names_of, F_end_of, F_greatest]) (own := [("name", 3), ("time", 5)]) (t := .tup [(.name 3), (.name 5)]) (it := .seq (.var 2)) (c := .so (.cmp .eq (.var 5) (.var 4))) (e := .var 3) (f := fun x : Nm × Rat => PyData.tuple [x.1.d, fr (endOf L x.1).1]) (xs := w.ws)
    (env := [some (.d (wD w)), some (.d (.list (L.map stD))), some (.d (.list (w.ws.map fun x => PyData.tuple [x.1.d, fr (endOf L x.1).1]))), none, some (.d (fr (lastOf w L))), none]) (M := M) (fun x => if decide ((endOf L x.1).1 = lastOf w L) = true then some x.1.d else none) (ev_seqv (ev_var rfl) src_l) (by have : big = 1000000 := rfl; omega)
    (fun x hx M => ⟨[some (.d (wD w)), some (.d (.list (L.map stD))), some (.d (.list (w.ws.map fun x => PyData.tuple [x.1.d, fr (endOf L x.1).1]))), some (.d x.1.d), some (.d (fr (lastOf w L))), some (.d (fr (endOf L x.1).1))], decide ((endOf L x.1).1 = lastOf w L), rfl, by
      simp only [evC]
      exact ts_of (ev_cmp (ev_var rfl) (ev_var rfl) (cmp_eq_fr _ _ _)), (fun h => by dsimp only; rw [h]; rfl), fun h => ⟨_, ev_var rfl, by dsimp only; rw [h]; rfl⟩⟩)
  simp only [fm_all] at hc hc2
  simp only [fm_if] at hc3
  have hg := fun M => greatest_run (qs := w.ws.map fun x => (endOf L x.1).1) (fun q hq => by obtain ⟨x, hx, rfl⟩ := List.mem_map.mp hq; exact hs x hx) h0 M
  simp only [List.map_map] at hg
  refine run_dfR (env := [some (.d (wD w)), none, none, none, none, none]) rfl (s_next (ev_callS (k := 0) (F := F_require_world) (ev_es1 (ev_var rfl)) rfl (require_world_run hw _) rfl) (s_next (env1 := [some (.d (wD w)), some (.d (.list (L.map stD))), none, none, none, none]) (M1 := M) (ev_asg (ev_call (k := 1) (F := F_history) (ev_es1 (ev_var rfl)) rfl (hh _) rfl) rfl)
    (s_next (ev_asg (hc M) rfl) (s_next (env1 := [some (.d (wD w)), some (.d (.list (L.map stD))), some (.d (.list (w.ws.map fun x => PyData.tuple [x.1.d, fr (endOf L x.1).1]))), none, some (.d (fr (lastOf w L))), none]) (M1 := M) (ev_asg (ev_call (k := 4) (F := F_greatest) (ev_es1 (hc2 none M)) rfl (hg _) rfl) rfl)
    (s_ret (v := .d (finD w L)) (M1 := M) (ev_ret (ev_tup (xs := [fr (lastOf w L), .tuple (((w.ws.filter fun x => decide ((endOf L x.1).1 = lastOf w L)).map (·.1)).map Nm.d)]) (ev_es2 (ev_var rfl) (ev_bi (ev_es1 (hc3 M)) bi_tup)) ?_ (by simp [big]))) fin_d))))) rfl
  rw [List.map_map]
  rfl
end NW

set_option Elab.async false
set_option linter.all false
set_option maxRecDepth 100000
set_option maxHeartbeats 4000000
set_option exponentiation.threshold 100000
/-! Geometry of one move. -/
namespace NW
open PySem

abbrev AscS (ss : List Site) : Prop := Asc (ss.map (·.p))
theorem asc_lt {ss : List Site} (h : AscS ss) {i j : Nat} (hij : i < j) (hj : j < ss.length) : pos ss i < pos ss j := by
  rw [pos_at (by omega), pos_at hj]
  have := List.pairwise_iff_getElem.mp h i j (by rw [List.length_map]; omega) (by rw [List.length_map]; exact hj) hij
  simpa using this
/-- closing speed of neighbours -/
def clo (ss : List Site) (i : Nat) : Int := spd ss i - spd ss (i + 1)
def wt (ss : List Site) (i : Nat) : Rat := (pos ss (i + 1) - pos ss i) / ((clo ss i : Int) : Rat)
theorem clo_le (ss : List Site) (i : Nat) : clo ss i ≤ 2 := by
  unfold clo
  rcases spd_cases ss i with a | a | a <;> rcases spd_cases ss (i + 1) with b | b | b <;> rw [a, b] <;> decide
theorem fold_cont (ss : List Site) : ∀ n : Nat, ((List.range n).foldl (contS ss) none = none → ∀ i, i < n → clo ss i ≤ 0) ∧
    ∀ w, (List.range n).foldl (contS ss) none = some w → (∃ i, i < n ∧ 0 < clo ss i ∧ w = wt ss i) ∧ ∀ i, i < n → 0 < clo ss i → w ≤ wt ss i
  | 0 => ⟨fun _ i h => by omega, fun w h => by cases h⟩
  | n + 1 => by
    obtain ⟨ih1, ih2⟩ := fold_cont ss n
    rw [List.range_succ, List.foldl_append]
    show (contS ss ((List.range n).foldl (contS ss) none) n = none → _) ∧ ∀ w, contS ss ((List.range n).foldl (contS ss) none) n = some w → _
    generalize (List.range n).foldl (contS ss) none = B at ih1 ih2 ⊢
    unfold contS
    by_cases hc : 0 < spd ss n - spd ss (n + 1)
    · rw [if_pos hc]
      refine ⟨(fun h => nomatch h), fun w h => ?_⟩
      have e := Option.some.inj h
      have hcn : 0 < clo ss n := hc
      have ew : (pos ss (n + 1) - pos ss n) / ((spd ss n - spd ss (n + 1) : Int) : Rat) = wt ss n := rfl
      rw [ew] at e
      cases B with
      | none =>
        have e : wt ss n = w := e
        have ih := ih1 rfl
        refine ⟨⟨n, by omega, hcn, e.symm⟩, fun i hi h0 => ?_⟩
        by_cases hin : i = n
        · subst hin
          grind
        · have := ih i (by omega)
          omega
      | some b =>
        obtain ⟨⟨j, hj1, hj2, hj3⟩, hall⟩ := ih2 b rfl
        have e : (if wt ss n < b then wt ss n else b) = w := e
        by_cases hlt : wt ss n < b
        · rw [if_pos hlt] at e
          refine ⟨⟨n, by omega, hcn, e.symm⟩, fun i hi h0 => ?_⟩
          by_cases hin : i = n
          · subst hin
            grind
          · have := hall i (by omega) h0
            grind
        · rw [if_neg hlt] at e
          subst e
          refine ⟨⟨j, by omega, hj2, hj3⟩, fun i hi h0 => ?_⟩
          by_cases hin : i = n
          · subst hin
            grind
          · exact hall i (by omega) h0
    · rw [if_neg hc]
      refine ⟨fun h i hi => ?_, fun w h => ?_⟩
      · by_cases hin : i = n
        · subst hin
          exact Int.not_lt.mp hc
        · exact ih1 h i (by omega)
      · obtain ⟨⟨j, hj1, hj2, hj3⟩, hall⟩ := ih2 w h
        refine ⟨⟨j, by omega, hj2, hj3⟩, fun i hi h0 => ?_⟩
        by_cases hin : i = n
        · subst hin
          exact absurd h0 hc
        · exact hall i (by omega) h0
theorem cont_none {ss : List Site} (h : cont ss = none) {i : Nat} (hi : i + 1 < ss.length) : clo ss i ≤ 0 := (fold_cont ss _).1 h i (by omega)
theorem cont_some {ss : List Site} {w : Rat} (h : cont ss = some w) : (∃ i, i + 1 < ss.length ∧ 0 < clo ss i ∧ w = wt ss i) ∧ ∀ i, i + 1 < ss.length → 0 < clo ss i → w ≤ wt ss i := by
  obtain ⟨⟨i, h1, h2, h3⟩, h4⟩ := (fold_cont ss _).2 w h
  exact ⟨⟨i, by omega, h2, h3⟩, fun j hj h0 => h4 j (by omega) h0⟩
theorem clo_cases {ss : List Site} {i : Nat} (h : 0 < clo ss i) : clo ss i = 1 ∨ clo ss i = 2 := by
  have := clo_le ss i
  omega
theorem wt_mul {ss : List Site} {i : Nat} (h : 0 < clo ss i) : wt ss i * ((clo ss i : Int) : Rat) = pos ss (i + 1) - pos ss i := by
  unfold wt
  rcases clo_cases h with e | e <;> rw [e] <;> simp <;> grind
/-- after a move by w, no longer than to the next contact -/
def qs (ss : List Site) (w : Rat) (i : Nat) : Rat := pos ss i + w * ((spd ss i : Int) : Rat)
theorem qs_gap (ss : List Site) (w : Rat) (i : Nat) : qs ss w (i + 1) - qs ss w i = pos ss (i + 1) - pos ss i - w * ((clo ss i : Int) : Rat) := by
  unfold qs clo
  rw [Rat.intCast_sub]
  grind
theorem qs_le {ss : List Site} {w : Rat} (ha : AscS ss) (hw : 0 ≤ w) (hl : ∀ i, i + 1 < ss.length → 0 < clo ss i → w ≤ wt ss i) {i : Nat} (hi : i + 1 < ss.length) : qs ss w i ≤ qs ss w (i + 1) := by
  have hg := qs_gap ss w i
  have hp := asc_lt ha (Nat.lt_succ_self i) hi
  by_cases hc : 0 < clo ss i
  · have h1 := hl i hi hc
    have h2 := wt_mul hc
    rcases clo_cases hc with e | e <;> rw [e] at hg h2 <;> simp at hg h2 <;> grind
  · have h3 : clo ss i = 0 ∨ clo ss i = -1 ∨ clo ss i = -2 := by
      have : -2 ≤ clo ss i := by
        unfold clo
        rcases spd_cases ss i with a | a | a <;> rcases spd_cases ss (i + 1) with b | b | b <;> rw [a, b] <;> decide
      omega
    rcases h3 with e | e | e <;> rw [e] at hg <;> simp at hg <;> grind
theorem qs_mono {ss : List Site} {w : Rat} (h : ∀ i, i + 1 < ss.length → qs ss w i ≤ qs ss w (i + 1)) : ∀ {i j : Nat}, i ≤ j → j < ss.length → qs ss w i ≤ qs ss w j := by
  intro i j hij hj
  induction j with
  | zero =>
    have : i = 0 := by omega
    subst this
    grind
  | succ j ih =>
    by_cases e : i = j + 1
    · subst e
      grind
    · have h1 := ih (by omega) (by omega)
      have h2 := h j hj
      grind
theorem shift_p {ss : List Site} {w : Rat} : (shiftS ss w).map (·.p) = (List.range ss.length).map (qs ss w) := by
  unfold shiftS
  rw [List.map_map]
  refine List.map_congr_left fun i hi => ?_
  show (sAt ss i).p + _ = _
  rw [sAt_p (List.mem_range.mp hi)]
  rfl
theorem shift_sorted {ss : List Site} {w : Rat} (h : ∀ i, i + 1 < ss.length → qs ss w i ≤ qs ss w (i + 1)) : (shiftS ss w).Pairwise fun a b => a.p ≤ b.p := by
  have h1 : ((shiftS ss w).map (·.p)).Pairwise (· ≤ ·) := by
    rw [shift_p, List.pairwise_map, List.pairwise_iff_getElem]
    intro i j hi hj hij
    rw [List.length_range] at hi hj
    rw [List.getElem_range, List.getElem_range]
    exact qs_mono h (by omega) hj
  exact List.pairwise_map.mp h1

/-! ### merging -/
structure MgP (l acc : List Site) : Prop where
  asc : AscS acc
  mem : ∀ q, q ∈ acc.map (·.p) ↔ q ∈ l.map (·.p)
  ns : ∀ x ∈ acc, ∀ n, n ∈ x.ns ↔ ∃ y ∈ l, y.p = x.p ∧ n ∈ y.ns
  po : ∀ x ∈ acc, x.post = true ↔ ∃ y ∈ l, y.p = x.p ∧ y.post = true
theorem mem_sortN {xs : List Nm} {n : Nm} : n ∈ sortN xs ↔ n ∈ xs := List.mem_mergeSort
theorem mg_step {l acc : List Site} {s : Site} (h : MgP l acc) (hs : ∀ y ∈ l, y.p ≤ s.p) : MgP (l ++ [s]) (stepG acc s) := by
  unfold stepG
  have hle : ∀ x ∈ acc, x.p ≤ s.p := fun x hx => by
    have h1 := (h.mem x.p).mp (List.mem_map_of_mem hx)
    obtain ⟨y, hy, e⟩ := List.mem_map.mp h1
    rw [← e]
    exact hs y hy
  have new : (∀ x ∈ acc, x.p < s.p) → MgP (l ++ [s]) (acc ++ [s]) := fun hlt => by
    have hne : ∀ x ∈ acc, s.p ≠ x.p := fun x hx e => by
      have := hlt x hx
      grind
    have hno : ∀ y ∈ l, y.p ≠ s.p := fun y hy e => by
      have h2 := (h.mem y.p).mpr (List.mem_map_of_mem hy)
      obtain ⟨x, hx, e2⟩ := List.mem_map.mp h2
      have := hlt x hx
      grind
    refine ⟨?_, fun q => ?_, fun x hx n => ?_, fun x hx => ?_⟩
    · show ((acc ++ [s]).map (·.p)).Pairwise _
      rw [List.map_append]
      refine List.pairwise_append.mpr ⟨h.asc, by simp, fun a ha b hb => ?_⟩
      obtain ⟨x, hx, rfl⟩ := List.mem_map.mp ha
      have : b = s.p := by simpa using hb
      subst this
      exact hlt x hx
    · rw [List.map_append, List.map_append, List.mem_append, List.mem_append, h.mem q]
    · rcases List.mem_append.mp hx with ha | hx
      · rw [h.ns x ha n]
        constructor
        · rintro ⟨y, h1, h2⟩
          exact ⟨y, List.mem_append_left _ h1, h2⟩
        · rintro ⟨y, h1, h2, h3⟩
          rcases List.mem_append.mp h1 with h1 | h1
          · exact ⟨y, h1, h2, h3⟩
          · have : y = s := by simpa using h1
            subst this
            exact absurd h2 (hne x ha)
      · have : x = s := by simpa using hx
        subst this
        constructor
        · intro hn
          exact ⟨x, by simp, rfl, hn⟩
        · rintro ⟨y, h1, h2, h3⟩
          rcases List.mem_append.mp h1 with h1 | h1
          · exact absurd h2 (hno y h1)
          · have : y = x := by simpa using h1
            subst this
            exact h3
    · rcases List.mem_append.mp hx with ha | hx
      · rw [h.po x ha]
        constructor
        · rintro ⟨y, h1, h2⟩
          exact ⟨y, List.mem_append_left _ h1, h2⟩
        · rintro ⟨y, h1, h2, h3⟩
          rcases List.mem_append.mp h1 with h1 | h1
          · exact ⟨y, h1, h2, h3⟩
          · have : y = s := by simpa using h1
            subst this
            exact absurd h2 (hne x ha)
      · have : x = s := by simpa using hx
        subst this
        constructor
        · intro hn
          exact ⟨x, by simp, rfl, hn⟩
        · rintro ⟨y, h1, h2, h3⟩
          rcases List.mem_append.mp h1 with h1 | h1
          · exact absurd h2 (hno y h1)
          · have : y = x := by simpa using h1
            subst this
            exact h3
  split
  · rename_i r hr
    have he := last_split hr
    have hr2 : r ∈ acc := List.mem_of_getLast? hr
    generalize acc.dropLast = init at he
    subst he
    have hasc : ((init ++ [r]).map (·.p)).Pairwise (· < ·) := h.asc
    rw [List.map_append] at hasc
    obtain ⟨a1, a2, a3⟩ := List.pairwise_append.mp hasc
    have hinit : ∀ x ∈ init, x.p < r.p := fun x hx => a3 _ (List.mem_map_of_mem hx) r.p (by simp)
    by_cases hrs : r.p = s.p
    · rw [if_pos hrs]
      have hns := h.ns r hr2
      have hpo := h.po r hr2
      refine ⟨?_, fun q => ?_, fun x hx n => ?_, fun x hx => ?_⟩
      · show ((init ++ [Site.mk s.p (sortN (r.ns ++ s.ns)) (r.post || s.post)]).map (·.p)).Pairwise _
        rw [List.map_append]
        refine List.pairwise_append.mpr ⟨a1, by simp, fun a ha b hb => ?_⟩
        have : b = s.p := by simpa using hb
        subst this
        rw [← hrs]
        exact a3 a ha r.p (by simp)
      · have := h.mem q
        rw [List.map_append, List.mem_append] at this ⊢
        rw [List.map_append, List.mem_append, ← this]
        simp only [List.map_cons, List.map_nil, List.mem_singleton, hrs]
        grind
      · rcases List.mem_append.mp hx with hx | hx
        · have hlt := hinit x hx
          rw [h.ns x (List.mem_append_left _ hx) n]
          constructor
          · rintro ⟨y, h1, h2⟩
            exact ⟨y, List.mem_append_left _ h1, h2⟩
          · rintro ⟨y, h1, h2, h3⟩
            rcases List.mem_append.mp h1 with h1 | h1
            · exact ⟨y, h1, h2, h3⟩
            · have : y = s := by simpa using h1
              subst this
              grind
        · have : x = Site.mk s.p (sortN (r.ns ++ s.ns)) (r.post || s.post) := by simpa using hx
          subst this
          dsimp only
          rw [mem_sortN, List.mem_append, hns n, hrs]
          constructor
          · rintro (⟨y, h1, h2, h3⟩ | h1)
            · exact ⟨y, List.mem_append_left _ h1, h2, h3⟩
            · exact ⟨s, by simp, rfl, h1⟩
          · rintro ⟨y, h1, h2, h3⟩
            rcases List.mem_append.mp h1 with h1 | h1
            · exact .inl ⟨y, h1, h2, h3⟩
            · have : y = s := by simpa using h1
              subst this
              exact .inr h3
      · rcases List.mem_append.mp hx with hx | hx
        · have hlt := hinit x hx
          rw [h.po x (List.mem_append_left _ hx)]
          constructor
          · rintro ⟨y, h1, h2⟩
            exact ⟨y, List.mem_append_left _ h1, h2⟩
          · rintro ⟨y, h1, h2, h3⟩
            rcases List.mem_append.mp h1 with h1 | h1
            · exact ⟨y, h1, h2, h3⟩
            · have : y = s := by simpa using h1
              subst this
              grind
        · have : x = Site.mk s.p (sortN (r.ns ++ s.ns)) (r.post || s.post) := by simpa using hx
          subst this
          dsimp only
          rw [Bool.or_eq_true, hpo, hrs]
          constructor
          · rintro (⟨y, h1, h2, h3⟩ | h1)
            · exact ⟨y, List.mem_append_left _ h1, h2, h3⟩
            · exact ⟨s, by simp, rfl, h1⟩
          · rintro ⟨y, h1, h2, h3⟩
            rcases List.mem_append.mp h1 with h1 | h1
            · exact .inl ⟨y, h1, h2, h3⟩
            · have : y = s := by simpa using h1
              subst this
              exact .inr h3
    · rw [if_neg hrs]
      refine new fun x hx => ?_
      have h1 := hle r hr2
      rcases List.mem_append.mp hx with hx | hx
      · have := hinit x hx
        grind
      · have : x = r := by simpa using hx
        subst this
        grind
  · rename_i hnone
    have : acc = [] := by simpa using hnone
    subst this
    exact new fun x hx => by cases hx
theorem mg_all {l : List Site} (hs : l.Pairwise fun a b => a.p ≤ b.p) : MgP l (mg l) := by
  have key : ∀ (l pre acc : List Site), MgP pre acc → (pre ++ l).Pairwise (fun a b => a.p ≤ b.p) → MgP (pre ++ l) (l.foldl stepG acc) := by
    intro l
    induction l with
    | nil => intro pre acc h _; simpa using h
    | cons s l ih =>
      intro pre acc h hp
      rw [List.foldl_cons]
      have e : pre ++ s :: l = (pre ++ [s]) ++ l := by simp
      rw [e] at hp ⊢
      refine ih (pre ++ [s]) _ (mg_step h fun y hy => ?_) hp
      have := (List.pairwise_append.mp hp).1
      exact (List.pairwise_append.mp this).2.2 y hy s (by simp)
  have := key l [] [] ⟨.nil, fun q => by simp, (fun x hx => nomatch hx), (fun x hx => nomatch hx)⟩ (by simpa using hs)
  simpa [mg] using this
theorem step_last (acc : List Site) (s : Site) : ∃ r, (stepG acc s).getLast? = some r ∧ r.p = s.p := by
  unfold stepG
  split
  · split
    · exact ⟨_, List.getLast?_concat, rfl⟩
    · exact ⟨_, List.getLast?_concat, rfl⟩
  · exact ⟨_, List.getLast?_concat, rfl⟩
/-- two neighbours at one place: fewer sites -/
theorem len_mg_lt {l : List Site} {i : Nat} (hi : i + 1 < l.length) (he : l[i].p = l[i + 1].p) : (mg l).length < l.length := by
  have rest : ∀ (l acc : List Site), (l.foldl stepG acc).length ≤ acc.length + l.length := by
    intro l
    induction l with
    | nil => intro acc; simp
    | cons s l ih =>
      intro acc
      rw [List.foldl_cons, List.length_cons]
      have := ih (stepG acc s)
      have := len_step acc s
      omega
  have e1 : mg (l.take (i + 1)) = stepG (mg (l.take i)) l[i] := by rw [List.take_succ_eq_append_getElem (by omega), mg_snoc]
  have e2 : mg (l.take (i + 2)) = stepG (mg (l.take (i + 1))) l[i + 1] := by rw [List.take_succ_eq_append_getElem hi, mg_snoc]
  obtain ⟨r, hr, hp⟩ := step_last (mg (l.take i)) l[i]
  rw [← e1] at hr
  have h3 : (mg (l.take (i + 2))).length ≤ i + 1 := by
    rw [e2]
    unfold stepG
    rw [hr]
    dsimp only
    rw [if_pos (by rw [hp, he])]
    have h4 := len_mg (l.take (i + 1))
    rw [List.length_take] at h4
    have h5 := last_split hr
    have h6 := congrArg List.length h5
    rw [List.length_append, List.length_singleton] at h6 ⊢
    omega
  have h7 : mg l = (l.drop (i + 2)).foldl stepG (mg (l.take (i + 2))) := by
    unfold mg
    rw [← List.foldl_append, List.take_append_drop]
  rw [h7]
  have := rest (l.drop (i + 2)) (mg (l.take (i + 2)))
  rw [List.length_drop] at this
  omega
end NW

set_option Elab.async false
set_option linter.all false
set_option maxRecDepth 100000
set_option maxHeartbeats 4000000
set_option exponentiation.threshold 100000
/-! Sizes along a history; it ends. -/
namespace NW
open PySem

/-- the state, with room for n more moves -/
structure GI (n D : Nat) (t : Rat) (ss : List Site) : Prop where
  asc : AscS ss
  len : ss.length ≤ n + 1
  D0 : 0 < D
  D2 : D * 2 ^ n < 2 ^ 300
  n1 : n ≤ 100
  gr : ∀ i, i < ss.length → Gr D (pos ss i)
  lo : ∀ i, i < ss.length → -1000000 ≤ pos ss i
  hi : ∀ i, i < ss.length → pos ss i ≤ 1000000
  gt : Gr D t
  t0 : 0 ≤ t
  t1 : t + 2000000 * (n : Rat) ≤ 1000000000
  tt : tot ss ≤ 1000
theorem sm_B {D : Nat} {q : Rat} (hD : 0 < D) (hD2 : D < 2 ^ 301) (g : Gr D q) (h1 : -1000000000 ≤ q) (h2 : q ≤ 1000000000) : sm q := by
  refine sm_of hD ?_ g (B := 1000000000) (by simpa using h1) (by simpa using h2) ?_
  · have : (2 : Nat) ^ 301 ≤ 2 ^ 400 := Nat.pow_le_pow_right (by decide) (by decide)
    omega
  · have : (2 : Nat) ^ 30 ≤ 2 ^ 400 := Nat.pow_le_pow_right (by decide) (by decide)
    omega
section
variable {n D : Nat} {t : Rat} {ss : List Site}
theorem GI.D1 (g : GI n D t ss) : D < 2 ^ 300 := by
  have h := g.D2
  have : D * 1 ≤ D * 2 ^ n := Nat.mul_le_mul_left D (Nat.one_le_two_pow)
  omega
theorem GI.dd (g : GI n D t ss) : 2 * D < 2 ^ 301 := by
  have h := g.D1
  have : (2 : Nat) ^ 301 = 2 * 2 ^ 300 := Nat.pow_succ'
  omega
theorem GI.d1 (g : GI n D t ss) : D < 2 ^ 301 := by
  have := g.dd
  omega
theorem wt_gr (g : GI n D t ss) {i : Nat} (hi : i + 1 < ss.length) (hc : 0 < clo ss i) : Gr (2 * D) (wt ss i) := by
  have h := (g.gr (i + 1) hi).sub (g.gr i (by omega))
  unfold wt
  rcases clo_cases hc with e | e
  · rw [e]
    have h2 := h.up 2
    have e2 : (pos ss (i + 1) - pos ss i) / ((1 : Int) : Rat) = pos ss (i + 1) - pos ss i := by
      simp
      grind
    rw [e2]
    exact h2
  · rw [e]
    exact h.half
theorem wt_bd (g : GI n D t ss) {i : Nat} (hi : i + 1 < ss.length) (hc : 0 < clo ss i) : 0 < wt ss i ∧ wt ss i ≤ 2000000 := by
  have h1 := wt_mul hc
  have h2 := asc_lt g.asc (Nat.lt_succ_self i) hi
  have h3 := g.lo i (by omega)
  have h4 := g.hi (i + 1) hi
  rcases clo_cases hc with e | e <;> rw [e] at h1 <;> simp at h1 <;> constructor <;> grind
theorem GI.sz (g : GI n D t ss) : Sz ss := by
  refine ⟨fun j hj => sm_B g.D0 g.d1 (g.gr j hj) ?_ ?_, fun j hj => sm_B g.D0 g.d1 ((g.gr (j + 1) hj).sub (g.gr j (by omega))) ?_ ?_, by have := g.len; have := g.n1; omega, fun j hj hc => sm_B (D := 2 * D) (by have := g.D0; omega) g.dd (wt_gr g hj hc) ?_ ?_⟩
  · have := g.lo j hj
    grind
  · have := g.hi j hj
    grind
  · have := g.lo (j + 1) hj
    have := g.hi j (by omega)
    grind
  · have := g.hi (j + 1) hj
    have := g.lo j (by omega)
    grind
  · have := (wt_bd g hj hc).1
    show -1000000000 ≤ wt ss j
    grind
  · have := (wt_bd g hj hc).2
    show wt ss j ≤ 1000000000
    grind
theorem mul_spd (w : Rat) (i : Nat) : w * ((spd ss i : Int) : Rat) = 0 ∨ w * ((spd ss i : Int) : Rat) = w ∨ w * ((spd ss i : Int) : Rat) = -w := by
  rcases spd_cases ss i with a | a | a <;> rw [a] <;> simp
  · exact .inr (.inr (by grind))
/-- a move by w of the grid's size -/
theorem GI.mz (g : GI n D t ss) {w : Rat} (hg : Gr (2 * D) w) (h0 : 0 ≤ w) (h1 : w ≤ 100000000) : Mz ss w := by
  have hD : 0 < 2 * D := by have := g.D0; omega
  refine ⟨g.sz, sm_B hD g.dd hg (by grind) (by grind), fun j hj => sm_B hD g.dd (hg.mul _) ?_ ?_, fun j hj => sm_B hD g.dd (((g.gr j hj).up 2).add (hg.mul _)) ?_ ?_, by have := g.tt; omega⟩
  · rcases mul_spd (ss := ss) w j with e | e | e <;> rw [e] <;> grind
  · rcases mul_spd (ss := ss) w j with e | e | e <;> rw [e] <;> grind
  · have := g.lo j hj
    have := g.hi j hj
    rcases mul_spd (ss := ss) w j with e | e | e <;> rw [e] <;> grind
  · have := g.lo j hj
    have := g.hi j hj
    rcases mul_spd (ss := ss) w j with e | e | e <;> rw [e] <;> grind
theorem spd_first (h : 0 < ss.length) : spd ss 0 = 0 ∨ spd ss 0 = 1 := by
  unfold spd
  split
  · exact .inl rfl
  · exact .inr rfl
theorem spd_last (h0 : 0 < ss.length) : spd ss (ss.length - 1) = 0 ∨ spd ss (ss.length - 1) = -1 := by
  by_cases h : isPost ss (ss.length - 1) = true ∨ ss.length = 1
  · unfold spd
    rw [if_pos h]
    exact .inl rfl
  · by_cases h2 : ss.length - 1 = 0
    · exact absurd (.inr (by omega)) h
    · unfold spd
      rw [if_neg h, if_neg h2, if_pos rfl]
      exact .inr rfl
theorem shift_len (w : Rat) : (shiftS ss w).length = ss.length := by unfold shiftS; rw [List.length_map, List.length_range]
theorem shift_get {w : Rat} {i : Nat} (h : i < (shiftS ss w).length) : (shiftS ss w)[i].p = qs ss w i := by
  have h2 : i < ss.length := by rw [shift_len] at h; exact h
  simp only [shiftS, List.getElem_map, List.getElem_range]
  rw [sAt_p h2]
  rfl
theorem move_pos {w : Rat} (hs : (shiftS ss w).Pairwise fun a b => a.p ≤ b.p) {i : Nat} (hi : i < (moveS ss w).length) : ∃ j, j < ss.length ∧ pos (moveS ss w) i = qs ss w j := by
  have h := (mg_all hs).mem (pos (moveS ss w) i)
  have h1 : pos (moveS ss w) i ∈ (mg (shiftS ss w)).map (·.p) := by
    rw [pos_at hi]
    exact List.mem_map_of_mem (List.getElem_mem hi)
  have h2 := h.mp h1
  rw [shift_p] at h2
  obtain ⟨j, hj, e⟩ := List.mem_map.mp h2
  exact ⟨j, List.mem_range.mp hj, e.symm⟩
/-- all stays between the outermost sites -/
theorem qs_hull (ha : AscS ss) {w : Rat} (h0 : 0 ≤ w) (hm : ∀ i, i + 1 < ss.length → qs ss w i ≤ qs ss w (i + 1)) {j : Nat} (hj : j < ss.length) : pos ss 0 ≤ qs ss w j ∧ qs ss w j ≤ pos ss (ss.length - 1) := by
  have h1 := qs_mono hm (Nat.zero_le j) hj
  have h2 := qs_mono hm (show j ≤ ss.length - 1 by omega) (by omega)
  have h3 : pos ss 0 ≤ qs ss w 0 := by
    unfold qs
    rcases spd_first (ss := ss) (by omega) with e | e <;> rw [e] <;> simp <;> grind
  have h4 : qs ss w (ss.length - 1) ≤ pos ss (ss.length - 1) := by
    unfold qs
    rcases spd_last (ss := ss) (by omega) with e | e <;> rw [e] <;> simp <;> grind
  constructor <;> grind
theorem GI.next {n : Nat} (g : GI (n + 1) D t ss) {w : Rat} (h : cont ss = some w) : Mz ss w ∧ GI n (2 * D) (t + w) (moveS ss w) := by
  obtain ⟨⟨i, hi, hc, hw⟩, hall⟩ := cont_some h
  have hg : Gr (2 * D) w := by rw [hw]; exact wt_gr g hi hc
  obtain ⟨b1, b2⟩ := wt_bd g hi hc
  rw [← hw] at b1 b2
  have hmono : ∀ i, i + 1 < ss.length → qs ss w i ≤ qs ss w (i + 1) := fun i hi => qs_le g.asc (by grind) hall hi
  have hs := shift_sorted hmono
  have hM := mg_all hs
  refine ⟨g.mz hg (by grind) (by grind), hM.asc, ?_, by have := g.D0; omega, ?_, by have := g.n1; omega, fun j hj => ?_, fun j hj => ?_, fun j hj => ?_, (g.gt.up 2).add hg, ?_, ?_, ?_⟩
  · have h1 : (moveS ss w).length < (shiftS ss w).length := by
      refine len_mg_lt (i := i) (by rw [shift_len]; exact hi) ?_
      rw [shift_get, shift_get]
      have h2 := qs_gap ss w i
      have h3 := wt_mul hc
      rw [hw] at h2
      rw [hw]
      grind
    rw [shift_len] at h1
    have := g.len
    omega
  · have := g.D2
    rw [Nat.pow_succ] at this
    have e : 2 * D * 2 ^ n = D * (2 ^ n * 2) := by
      rw [Nat.mul_comm 2 D, Nat.mul_assoc, Nat.mul_comm 2]
    omega
  · obtain ⟨k, hk, e⟩ := move_pos hs hj
    rw [e]
    exact ((g.gr k hk).up 2).add (hg.mul _)
  · obtain ⟨k, hk, e⟩ := move_pos hs hj
    have h1 := (qs_hull g.asc (by grind) hmono hk).1
    have h2 := g.lo 0 (by omega)
    grind
  · obtain ⟨k, hk, e⟩ := move_pos hs hj
    have h1 := (qs_hull g.asc (by grind) hmono hk).2
    have h2 := g.hi (ss.length - 1) (by omega)
    grind
  · have := g.t0
    grind
  · have := g.t1
    rw [Rat.natCast_add] at this
    grind
  · unfold moveS
    rw [tot_mg, tot_shift]
    exact g.tt
theorem GI.smt (g : GI n D t ss) : sm t := by
  refine sm_B g.D0 g.d1 g.gt (by have := g.t0; grind) ?_
  have h1 := g.t1
  have h2 : (0 : Rat) ≤ (n : Rat) := Rat.natCast_nonneg
  grind
theorem GI.fine : ∀ {n D : Nat} {t : Rat} {ss : List Site}, GI n D t ss → Fine n t ss
  | 0, D, t, ss, g => by
    refine ⟨g.smt, g.sz, ?_⟩
    unfold cont
    have : ss.length - 1 = 0 := by have := g.len; omega
    rw [this]
    rfl
  | n + 1, D, t, ss, g => ⟨g.smt, g.sz, fun w h => ⟨(g.next h).1, (g.next h).2.fine⟩⟩
end
end NW

set_option Elab.async false
set_option linter.all false
set_option maxRecDepth 100000
set_option maxHeartbeats 4000000
set_option exponentiation.threshold 100000
/-! The first state; what holds along a history; worlds without posts. -/
namespace NW
open PySem

/-- sizes of a world's numbers -/
structure WG (w : Wd) : Prop where
  a : ∀ x ∈ w.ws, Gr 6 x.2 ∧ -1000000 ≤ x.2 ∧ x.2 ≤ 1000000
  b : ∀ p ∈ w.ps, Gr 6 p ∧ -1000000 ≤ p ∧ p ≤ 1000000
  n8 : w.ws.length ≤ 8
  p4 : w.ps.length ≤ 4
def allP (w : Wd) : List Rat := w.ws.map (·.2) ++ w.ps
theorem WG.all {w : Wd} (g : WG w) : ∀ q ∈ allP w, Gr 6 q ∧ -1000000 ≤ q ∧ q ≤ 1000000 := fun q hq => by
  rcases List.mem_append.mp hq with h | h
  · obtain ⟨x, hx, rfl⟩ := List.mem_map.mp h
    exact g.a x hx
  · exact g.b q h
theorem sites0_p (w : Wd) : (sites0 w).map (·.p) = asc (allP w) := by
  unfold sites0
  rw [List.map_map]
  exact List.map_id _
theorem sites0_len (w : Wd) : (sites0 w).length = (asc (allP w)).length := by rw [← sites0_p, List.length_map]
theorem pos_map {ss : List Site} {i : Nat} (h : i < ss.length) : pos ss i = (ss.map (·.p))[i]'(by rw [List.length_map]; exact h) := by
  rw [pos_at h, List.getElem_map]
theorem pos_mem {ss : List Site} {i : Nat} (h : i < ss.length) : pos ss i ∈ ss.map (·.p) := by
  rw [pos_map h]
  exact List.getElem_mem _
theorem mem_pos {ss : List Site} {q : Rat} (h : q ∈ ss.map (·.p)) : ∃ i, i < ss.length ∧ pos ss i = q := by
  obtain ⟨i, hi, e⟩ := List.getElem_of_mem h
  have hi2 : i < ss.length := by rw [List.length_map] at hi; exact hi
  exact ⟨i, hi2, by rw [pos_map hi2, e]⟩
theorem tot_le {ss : List Site} {k : Nat} (h : ∀ s ∈ ss, s.ns.length ≤ k) : tot ss ≤ ss.length * k := by
  induction ss with
  | nil => simp [tot]
  | cons s ss ih =>
    have e : tot (s :: ss) = s.ns.length + tot ss := by simp [tot]
    have h1 := h s List.mem_cons_self
    have h2 := ih fun x hx => h x (List.mem_cons_of_mem _ hx)
    rw [List.length_cons, Nat.succ_mul]
    omega
theorem gi0 {w : Wd} (g : WG w) : GI 12 6 0 (sites0 w) := by
  have hl : (sites0 w).length ≤ 12 := by
    rw [sites0_len]
    have h := len_asc (qs := allP w)
    unfold allP at h
    rw [List.length_append, List.length_map] at h
    have := g.n8
    have := g.p4
    unfold allP
    omega
  have hp : ∀ i, i < (sites0 w).length → pos (sites0 w) i ∈ allP w := fun i hi => by
    have := pos_mem hi
    rw [sites0_p] at this
    exact mem_asc.mp this
  refine ⟨by show Asc _; rw [sites0_p]; exact asc_asc _, by omega, by omega, by
    have : (6 : Nat) * 2 ^ 12 < 2 ^ 20 := by decide
    have : (2 : Nat) ^ 20 ≤ 2 ^ 300 := Nat.pow_le_pow_right (by decide) (by decide)
    omega, by omega, fun i hi => (g.all _ (hp i hi)).1, fun i hi => (g.all _ (hp i hi)).2.1, fun i hi => (g.all _ (hp i hi)).2.2, Gr.int 0, by grind, by
    show (0 : Rat) + 2000000 * ((12 : Nat) : Rat) ≤ 1000000000
    have : ((12 : Nat) : Rat) = 12 := rfl
    rw [this]
    decide +kernel, ?_⟩
  have h1 : tot (sites0 w) ≤ (sites0 w).length * 8 := tot_le fun s hs => by
    unfold sites0 at hs
    obtain ⟨p, hp, rfl⟩ := List.mem_map.mp hs
    dsimp only
    rw [List.length_map]
    have := List.length_filter_le (fun x : Nm × Rat => decide (x.2 = p)) w.ws
    have := g.n8
    omega
  omega
theorem allin0 (w : Wd) : AllIn w (sites0 w) := fun x hx => by
  have h : x.2 ∈ asc (allP w) := mem_asc.mpr (List.mem_append_left _ (List.mem_map_of_mem hx))
  refine ⟨⟨x.2, (w.ws.filter fun y => decide (y.2 = x.2)).map (·.1), decide (x.2 ∈ w.ps)⟩, List.mem_map_of_mem (f := fun p => (⟨p, (w.ws.filter fun y => decide (y.2 = p)).map (·.1), decide (p ∈ w.ps)⟩ : Site)) h, ?_⟩
  exact List.mem_map_of_mem (List.mem_filter.mpr ⟨hx, by simp⟩)
section
variable {n D : Nat} {t : Rat} {ss : List Site} {w : Wd}
theorem shift_mem {v : Rat} {s : Site} (h : s ∈ ss) : ∃ y ∈ shiftS ss v, y.ns = s.ns ∧ y.post = s.post := by
  obtain ⟨i, hi, e⟩ := List.getElem_of_mem h
  refine ⟨_, List.mem_map_of_mem (List.mem_range.mpr hi), ?_, ?_⟩
  · rw [sAt_at hi, e]
  · rw [sAt_at hi, e]
theorem mem_shift {v : Rat} {y : Site} (h : y ∈ shiftS ss v) : ∃ s ∈ ss, y.ns = s.ns ∧ y.post = s.post := by
  unfold shiftS at h
  obtain ⟨i, hi, rfl⟩ := List.mem_map.mp h
  have hi := List.mem_range.mp hi
  refine ⟨ss[i], List.getElem_mem hi, ?_, ?_⟩
  · rw [sAt_at hi]
  · rw [sAt_at hi]
theorem allin_move {v : Rat} (hs : (shiftS ss v).Pairwise fun a b => a.p ≤ b.p) (h : AllIn w ss) : AllIn w (moveS ss v) := fun x hx => by
  obtain ⟨s, h1, h2⟩ := h x hx
  obtain ⟨y, h3, h4, h5⟩ := shift_mem (v := v) h1
  have hm := mg_all hs
  have hp := (hm.mem y.p).mpr (List.mem_map_of_mem h3)
  obtain ⟨z, h6, h7⟩ := List.mem_map.mp hp
  exact ⟨z, h6, (hm.ns z h6 x.1).mpr ⟨y, h3, h7.symm, by rw [h4]; exact h2⟩⟩
theorem sorted_of (g : GI n D t ss) {v : Rat} (h : cont ss = some v) : (∀ i, i + 1 < ss.length → qs ss v i ≤ qs ss v (i + 1)) ∧ 0 < v := by
  obtain ⟨⟨i, hi, hc, hw⟩, hall⟩ := cont_some h
  have b := (wt_bd g hi hc).1
  rw [← hw] at b
  exact ⟨fun i hi => qs_le g.asc (by grind) hall hi, b⟩
/-- what holds of every state -/
theorem hist_all {P : Rat → List Site → Prop} (hstep : ∀ n D t ss v, GI n D t ss → P t ss → cont ss = some v → P (t + v) (moveS ss v)) : ∀ {n D : Nat} {t : Rat} {ss : List Site}, GI n D t ss → P t ss → ∀ x ∈ histL n t ss, P x.1 x.2 ∧ ∃ n D, GI n D x.1 x.2
  | 0, D, t, ss, g, h, x, hx => by
    have : x = (t, ss) := by simpa [histL] using hx
    subst this
    exact ⟨h, 0, D, g⟩
  | n + 1, D, t, ss, g, h, x, hx => by
    unfold histL at hx
    split at hx
    · have : x = (t, ss) := by simpa using hx
      subst this
      exact ⟨h, n + 1, D, g⟩
    · rename_i v hv
      rcases List.mem_cons.mp hx with rfl | hx
      · exact ⟨h, n + 1, D, g⟩
      · exact hist_all hstep (g.next hv).2 (hstep _ _ _ _ _ g h hv) x hx
theorem hist_ends : ∀ {n D : Nat} {t : Rat} {ss : List Site}, GI n D t ss → ∃ init last, histL n t ss = init ++ [last] ∧ cont last.2 = none ∧ ∀ x ∈ init, cont x.2 ≠ none
  | 0, D, t, ss, g => ⟨[], (t, ss), rfl, g.fine.2.2, fun x hx => nomatch hx⟩
  | n + 1, D, t, ss, g => by
    unfold histL
    split
    · rename_i hv
      exact ⟨[], (t, ss), rfl, hv, fun x hx => nomatch hx⟩
    · rename_i v hv
      obtain ⟨init, last, e, h1, h2⟩ := hist_ends (g.next hv).2
      refine ⟨(t, ss) :: init, last, by rw [e]; rfl, h1, fun x hx => ?_⟩
      rcases List.mem_cons.mp hx with rfl | hx
      · rw [hv]
        exact Option.some_ne_none v
      · exact h2 x hx
theorem hist_len : ∀ {n : Nat} {t : Rat} {ss : List Site}, (histL n t ss).length ≤ n + 1
  | 0, t, ss => by simp [histL]
  | n + 1, t, ss => by
    unfold histL
    split
    · simp
    · rw [List.length_cons]
      exact Nat.succ_le_succ hist_len
theorem lz_of (g : WG w) : Lz w (histL 12 0 (sites0 w)) := by
  have h := hist_all (P := fun t ss => AllIn w ss) (fun n D t ss v g h hv => allin_move (shift_sorted (sorted_of g hv).1) h) (gi0 g) (allin0 w)
  refine ⟨fun x hx => ?_, fun x hx => (h x hx).1, by have := hist_len (n := 12) (t := 0) (ss := sites0 w); omega⟩
  obtain ⟨n, D, gx⟩ := (h x hx).2
  exact gx.sz
theorem hist_ok (g : WG w) (hz : Wz w) (M : Mem) : F_history.run [.d (wD w)] M = some (.ret (.d (.list ((histL 12 0 (sites0 w)).map stD))), M) := history_run hz (by omega) (gi0 g).fine M

/-! ### without posts -/
def NoP (ss : List Site) : Prop := ∀ s ∈ ss, s.post = false
theorem nop_spd (h : NoP ss) {i : Nat} (hi : i < ss.length) (h2 : 2 ≤ ss.length) : spd ss i ≠ 0 := by
  have hp : isPost ss i = false := by rw [isPost_at hi]; exact h _ (List.getElem_mem hi)
  unfold spd
  rw [if_neg (by rw [hp]; simp; omega)]
  split
  · decide
  · split
    · decide
    · split <;> decide
theorem nop_first (h : NoP ss) (h2 : 2 ≤ ss.length) : spd ss 0 = 1 := by
  rcases spd_first (ss := ss) (by omega) with e | e
  · exact absurd e (nop_spd h (by omega) h2)
  · exact e
theorem nop_last (h : NoP ss) (h2 : 2 ≤ ss.length) : spd ss (ss.length - 1) = -1 := by
  rcases spd_last (ss := ss) (by omega) with e | e
  · exact absurd e (nop_spd h (by omega) h2)
  · exact e
theorem nop_cont (h : NoP ss) (h2 : 2 ≤ ss.length) : cont ss ≠ none := fun hc => by
  have key : ∀ j, j < ss.length → spd ss 0 ≤ spd ss j := by
    intro j
    induction j with
    | zero => intro _; exact Int.le_refl _
    | succ j ih =>
      intro hj
      have h1 := ih (by omega)
      have h3 := cont_none hc hj
      unfold clo at h3
      omega
  have h4 := key (ss.length - 1) (by omega)
  rw [nop_first h h2, nop_last h h2] at h4
  omega
theorem nop_move {v : Rat} (hs : (shiftS ss v).Pairwise fun a b => a.p ≤ b.p) (h : NoP ss) : NoP (moveS ss v) := fun x hx => by
  have hm := mg_all hs
  cases hp : x.post with
  | false => rfl
  | true =>
    obtain ⟨y, h1, _, h3⟩ := (hm.po x hx).mp hp
    obtain ⟨s, h4, _, h5⟩ := mem_shift h1
    rw [h5, h s h4] at h3
    cases h3
theorem cont_two {v : Rat} (h : cont ss = some v) : 2 ≤ ss.length := by
  obtain ⟨⟨i, hi, _⟩, _⟩ := cont_some h
  omega
theorem pos_le (ha : AscS ss) {i j : Nat} (hij : i ≤ j) (hj : j < ss.length) : pos ss i ≤ pos ss j := by
  by_cases e : i = j
  · subst e
    grind
  · have := asc_lt ha (show i < j by omega) hj
    grind
/-- the ends of the line after a move -/
theorem move_ends {v : Rat} (hm : ∀ i, i + 1 < ss.length → qs ss v i ≤ qs ss v (i + 1)) (h0 : 0 < ss.length) : 0 < (moveS ss v).length ∧ pos (moveS ss v) 0 = qs ss v 0 ∧ pos (moveS ss v) ((moveS ss v).length - 1) = qs ss v (ss.length - 1) := by
  have hs := shift_sorted hm
  have hM := mg_all hs
  have mem : ∀ j, j < ss.length → ∃ i, i < (moveS ss v).length ∧ pos (moveS ss v) i = qs ss v j := fun j hj => by
    refine mem_pos ((hM.mem _).mpr ?_)
    rw [shift_p]
    exact List.mem_map_of_mem (List.mem_range.mpr hj)
  obtain ⟨a, ha, ea⟩ := mem 0 h0
  obtain ⟨b, hb, eb⟩ := mem (ss.length - 1) (by omega)
  refine ⟨by omega, ?_, ?_⟩
  · obtain ⟨j, hj, e⟩ := move_pos hs (i := 0) (by omega)
    have h1 := qs_mono hm (Nat.zero_le j) hj
    have h2 := pos_le hM.asc (Nat.zero_le a) ha
    have h2' : pos (moveS ss v) 0 ≤ pos (moveS ss v) a := h2
    grind
  · obtain ⟨j, hj, e⟩ := move_pos hs (i := (moveS ss v).length - 1) (by omega)
    have h1 := qs_mono hm (show j ≤ ss.length - 1 by omega) (by omega)
    have h2 : pos (moveS ss v) b ≤ pos (moveS ss v) ((moveS ss v).length - 1) := pos_le hM.asc (by show b ≤ (mg (shiftS ss v)).length - 1; have : b < (mg (shiftS ss v)).length := hb; omega) (by show _ < (mg (shiftS ss v)).length; have : b < (mg (shiftS ss v)).length := hb; show (mg (shiftS ss v)).length - 1 < _; omega)
    grind
/-- a world without posts: every state -/
structure HP (w : Wd) (lo hi : Rat) (t : Rat) (ss : List Site) : Prop where
  nop : NoP ss
  al : AllIn w ss
  l0 : 0 < ss.length
  a : pos ss 0 = lo + t
  b : pos ss (ss.length - 1) = hi - t
theorem hp_step {lo hi : Rat} (n D : Nat) (t : Rat) (ss : List Site) (v : Rat) (g : GI n D t ss) (h : HP w lo hi t ss) (hv : cont ss = some v) : HP w lo hi (t + v) (moveS ss v) := by
  obtain ⟨hm, hv0⟩ := sorted_of g hv
  have hs := shift_sorted hm
  have h2 := cont_two hv
  obtain ⟨e1, e2, e3⟩ := move_ends hm h.l0
  refine ⟨nop_move hs h.nop, allin_move hs h.al, e1, ?_, ?_⟩
  · rw [e2]
    unfold qs
    rw [nop_first h.nop h2, h.a]
    simp
    grind
  · rw [e3]
    unfold qs
    rw [nop_last h.nop h2, h.b]
    simp
    grind
theorem endS_last {init : List (Rat × Rat × Int)} {r : Rat × Rat × Int} (h : ∀ x ∈ init, x.2.2 ≠ 0) : endS (init ++ [r]) r = r := by
  unfold endS
  rw [List.reverse_append, List.reverse_singleton, List.singleton_append, List.foldl_cons]
  have e : (if r.2.2 = 0 then r else r) = r := by split <;> rfl
  rw [e]
  have key : ∀ (l : List (Rat × Rat × Int)), (∀ x ∈ l, x.2.2 ≠ 0) → l.foldl (fun f r => if r.2.2 = 0 then r else f) r = r := by
    intro l
    induction l with
    | nil => intro _; rfl
    | cons x l ih =>
      intro h
      rw [List.foldl_cons, if_neg (h x List.mem_cons_self)]
      exact ih fun y hy => h y (List.mem_cons_of_mem _ hy)
  exact key _ fun x hx => h x (List.mem_reverse.mp hx)
/-- all finish halfway, at half the distance -/
structure Half (w : Wd) (L : List (Rat × List Site)) (T mid : Rat) : Prop where
  ne : L ≠ []
  last : ∃ init s, L = init ++ [(T, s)] ∧ s.length = 1 ∧ pos s 0 = mid
  ends : ∀ x ∈ w.ws, endOf L x.1 = (T, mid)
theorem half_of (g : WG w) (hp : w.ps = []) (hn : w.ws ≠ []) {lo hi : Rat} (h1 : pos (sites0 w) 0 = lo) (h2 : pos (sites0 w) ((sites0 w).length - 1) = hi) : Half w (histL 12 0 (sites0 w)) ((hi - lo) / 2) ((hi + lo) / 2) := by
  have hl0 : 0 < (sites0 w).length := by
    cases hw : w.ws with
    | nil => exact absurd hw hn
    | cons x r =>
      obtain ⟨s, hs, _⟩ := allin0 w x (by rw [hw]; exact List.mem_cons_self)
      exact List.length_pos_of_mem hs
  have hp0 : HP w lo hi 0 (sites0 w) := by
    refine ⟨fun s hs => ?_, allin0 w, hl0, by rw [h1]; grind, by rw [h2]; grind⟩
    unfold sites0 at hs
    obtain ⟨p, _, rfl⟩ := List.mem_map.mp hs
    dsimp only
    rw [hp]
    simp
  have hall := hist_all (P := HP w lo hi) hp_step (gi0 g) hp0
  obtain ⟨init, last, e, hc, hne⟩ := hist_ends (gi0 g)
  generalize histL 12 0 (sites0 w) = L at hall e
  subst e
  obtain ⟨⟨n1, a1, l1, p1, q1⟩, _⟩ := hall last (by simp)
  have hlen : last.2.length = 1 := by
    by_cases h : 2 ≤ last.2.length
    · exact absurd hc (nop_cont n1 h)
    · omega
  rw [hlen] at q1
  have q1 : pos last.2 0 = hi - last.1 := q1
  have hT : last.1 = (hi - lo) / 2 := by grind
  have hm : pos last.2 0 = (hi + lo) / 2 := by grind
  refine ⟨by simp, ⟨init, last.2, by rw [← hT], hlen, hm⟩, fun x hx => ?_⟩
  have hst : stepsL (init ++ [last]) x.1 = stepsL init x.1 ++ [(last.1, pos last.2 (plc last.2 x.1), spd last.2 (plc last.2 x.1))] := by
    unfold stepsL
    rw [List.map_append]
    rfl
  have hpl : plc last.2 x.1 = 0 := by
    have h := place_lt (place_some (a1 x hx))
    omega
  unfold endOf
  rw [hst, List.getLast?_concat]
  dsimp only
  rw [endS_last]
  · rw [hpl, hT, hm]
  · intro y hy
    unfold stepsL at hy
    obtain ⟨z, hz, rfl⟩ := List.mem_map.mp hy
    obtain ⟨⟨n2, a2, l2, _, _⟩, n, D, gz⟩ := hall z (List.mem_append_left _ hz)
    have h2 : 2 ≤ z.2.length := by
      cases hcz : cont z.2 with
      | none => exact absurd hcz (hne z hz)
      | some v => exact cont_two hcz
    exact nop_spd n2 (place_lt (place_some (a2 x hx))) h2
theorem maxQ_const {T : Rat} (hT : 0 ≤ T) : ∀ {xs : List Rat}, xs ≠ [] → (∀ q ∈ xs, q = T) → maxQ xs = T := by
  intro xs hne h
  unfold maxQ
  have key : ∀ (xs : List Rat), (∀ q ∈ xs, q = T) → xs.foldl (fun f q => if f < q then q else f) T = T := by
    intro xs
    induction xs with
    | nil => intro _; rfl
    | cons x xs ih =>
      intro h
      rw [List.foldl_cons, h x List.mem_cons_self]
      have e : (if T < T then T else T) = T := by split <;> rfl
      rw [e]
      exact ih fun q hq => h q (List.mem_cons_of_mem _ hq)
  cases xs with
  | nil => exact absurd rfl hne
  | cons x xs =>
    rw [List.foldl_cons, h x List.mem_cons_self]
    have e : (if 0 < T then T else 0) = T := by
      split
      · rfl
      · grind
    rw [e]
    exact key xs fun q hq => h q (List.mem_cons_of_mem _ hq)
theorem half_fin {L : List (Rat × List Site)} {T mid : Rat} (h : Half w L T mid) (hT : 0 ≤ T) (hn : w.ws ≠ []) : finD w L = .tuple [fr T, .tuple ((w.ws.map (·.1)).map Nm.d)] := by
  have hl : lastOf w L = T := by
    unfold lastOf
    refine maxQ_const hT (by simpa using hn) fun q hq => ?_
    obtain ⟨x, hx, rfl⟩ := List.mem_map.mp hq
    rw [h.ends x hx]
  unfold finD
  rw [hl]
  have e : (w.ws.filter fun x => decide ((endOf L x.1).1 = T)) = w.ws := by
    rw [List.filter_eq_self]
    intro x hx
    rw [h.ends x hx]
    simp
  rw [e]
theorem half_pos {L : List (Rat × List Site)} {T mid : Rat} (h : Half w L T mid) (ha : ∀ x ∈ L, AllIn w x.2) : ∃ r, (L.filter fun x => !decide (T < x.1)).getLast? = some r ∧ r.1 = T ∧ r.2.length = 1 ∧ posD w r.2 = w.ws.map (fun x => .tuple [x.1.d, fr mid]) ∧ AllIn w r.2 := by
  obtain ⟨init, s, e, h1, h2⟩ := h.last
  subst e
  have hal := ha (T, s) (by simp)
  refine ⟨(T, s), ?_, rfl, h1, ?_, hal⟩
  · rw [List.filter_append]
    have e2 : ([(T, s)].filter fun x => !decide (T < x.1)) = [(T, s)] := by
      have : ¬ T < T := by grind
      simp [this]
    rw [e2, List.getLast?_concat]
  · unfold posD
    refine List.map_congr_left fun x hx => ?_
    have hpl : plc s x.1 = 0 := by
      have h3 := place_lt (place_some (hal x hx))
      have h3 : plc s x.1 < s.length := h3
      omega
    show PyData.tuple [x.1.d, fr (pos s (plc s x.1))] = _
    rw [hpl, h2]
end
end NW

set_option Elab.async false
set_option linter.all false
set_option maxRecDepth 100000
set_option maxHeartbeats 4000000
set_option exponentiation.threshold 100000
/-! The laws' own helpers: fractions, ascending lists. -/
namespace NW
open PySem

theorem pow_big {k : Nat} (h : k ≤ 8999) : (2 : Nat) ^ k ≤ 2 ^ 8999 := Nat.pow_le_pow_right (by decide) h
theorem law_fraction_run {t b : Int} (hb : 0 < b) (hs : b < 2 ^ 8999) (M : Mem) : F_law_fraction.run [.d (.int t), .d (.int b)] M = some (.ret (.d (fr (mkRat t b.toNat))), M) := by
  have g0 : 0 < Int.gcd t b := Int.gcd_pos_of_ne_zero_right _ (by omega)
  have gl : (Int.gcd t b : Int) ≤ b := Int.le_of_dvd hb (Int.gcd_dvd_right ..)
  have hd : divOk (Int.gcd t b : Int) = true := divOk_of (by omega) (by omega)
  have e1 : (mkRat t b.toNat).num = t / (Int.gcd t b : Int) := by
    rw [Rat.num_mkRat, if_neg (by omega)]
    congr 2
    unfold Int.gcd
    rw [Nat.gcd_comm]
    congr 1
    omega
  have e2 : ((mkRat t b.toNat).den : Int) = b / (Int.gcd t b : Int) := by
    rw [Rat.den_mkRat, if_neg (by omega)]
    have : b.toNat.gcd t.natAbs = Int.gcd t b := by
      unfold Int.gcd
      rw [Nat.gcd_comm]
      congr 1
      omega
    rw [this]
    have hb2 : (b.toNat : Int) = b := by omega
    rw [Int.natCast_ediv, hb2]
  refine run_dfR (env := [some (.d (.int t)), some (.d (.int b)), none, none]) rfl (s_next (env1 := [some (.d (.int t)), some (.d (.int b)), some (.d (.int (t.natAbs : Int))), some (.d (.int b))]) (M1 := M) ?_
    (s_then (whil_of (fun m env M' => M' = M ∧ ∃ x y : Int, env = [some (.d (.int t)), some (.d (.int b)), some (.d (.int x)), some (.d (.int y))] ∧ 0 ≤ x ∧ 0 ≤ y ∧ y.toNat = m ∧ Int.gcd x y = Int.gcd t b) ?_ (m := b.toNat) (fuel_lt ?_) ⟨rfl, _, b, rfl, by omega, by omega, rfl, ?_⟩))) rfl
  · have h1 : (if t < 0 then -t else t) = (t.natAbs : Int) := by omega
    have h2 : (if b < 0 then -b else b) = b := by omega
    have e := ev_es2 (cs := []) (env := [some (.d (.int t)), some (.d (.int b)), none, none]) (M := M) (ev_bi (ev_es1 (ev_var (i := 0) rfl)) bi_abs) (ev_bi (ev_es1 (ev_var (i := 1) rfl)) bi_abs)
    rw [h1, h2] at e
    simp only [evS]
    rw [e]
    rfl
  · rintro m env M' ⟨rfl, x, y, rfl, hx, hy, hm, hg⟩
    by_cases h0 : y = 0
    · subst h0
      rw [Int.gcd_zero_right] at hg
      have hxg : x = (Int.gcd t b : Int) := by omega
      subst hxg
      refine .inl ⟨by simp, s_next (env1 := [some (.d (.int t)), some (.d (.int b)), some (.d (.int (Int.gcd t b : Int))), some (.d (.int 0))]) (M1 := M') (ev_asg (ev_ife (r := true) (M1 := M') (ts_of (ev_cmp (ev_var rfl) ev_int (by rw [cmp_gt_int, decide_eq_true hb]))) (by rw [if_pos rfl]; exact ev_var rfl)) rfl)
        (s_ret (v := .d (fr (mkRat t b.toNat))) (M1 := M') (ev_ret (ev_tup (ev_es2 (ev_bin (ev_var rfl) (ev_var rfl) (b_fdivI hd)) (ev_bin (ev_var rfl) (ev_var rfl) (b_fdivI hd))) (show datasV _ = some [.int (mkRat t b.toNat).num, .int ((mkRat t b.toNat).den : Int)] by rw [e1, e2]; rfl) (by simp [big]))) fin_d)⟩
    · refine .inr ⟨by simp; omega, s_next (env1 := [some (.d (.int t)), some (.d (.int b)), some (.d (.int y)), some (.d (.int (x.fmod y)))]) (M1 := M') (by simp [h0]) (s_end ⟨(x.fmod y).toNat, ?_, rfl, y, x.fmod y, rfl, hy, ?_, rfl, by rw [gcd_step hy, hg]⟩)⟩
      · rw [fmod_pos hy, ← hm]
        have := Int.emod_lt_of_pos x (show 0 < y by omega)
        have := Int.emod_nonneg x h0
        omega
      · rw [fmod_pos hy]
        exact Int.emod_nonneg x h0
  · have : (2 : Nat) ^ 8999 < 2 ^ 9000 := Nat.pow_lt_pow_right (by decide) (by decide)
    omega
  · unfold Int.gcd
    simp
theorem law_plus_run {a b : Rat} (ha : sm a) (hb : sm b) (M : Mem) : F_law_plus.run [.d (fr a), .d (fr b)] M = some (.ret (.d (fr (a + b))), M) := by
  have m1 : mulOk a.num b.den = true := mul_sm ha.1 (by rw [natAbs_den]; exact hb.2)
  have m2 : mulOk b.num a.den = true := mul_sm hb.1 (by rw [natAbs_den]; exact ha.2)
  have m3 : mulOk (a.den : Int) b.den = true := mul_sm (by rw [natAbs_den]; exact ha.2) (by rw [natAbs_den]; exact hb.2)
  obtain ⟨d1, d2⟩ := den_mul ha hb
  have h := law_fraction_run (t := a.num * b.den + b.num * a.den) d1 d2 M
  rw [show mkRat (a.num * b.den + b.num * a.den) ((a.den : Int) * (b.den : Int)).toNat = a + b by rw [Rat.add_def']; rfl] at h
  exact run_dfR (env := [some (.d (fr a)), some (.d (fr b))]) rfl (s_ret (v := .d (fr (a + b))) (M1 := M) (ev_ret (ev_call (k := 0) (F := F_law_fraction) (ev_es2 (ev_bin (ev_bin (ev_idx (ev_var rfl) ev_int fr_num) (ev_idx (ev_var rfl) ev_int fr_den) (b_mulI m1)) (ev_bin (ev_idx (ev_var rfl) ev_int fr_num) (ev_idx (ev_var rfl) ev_int fr_den) (b_mulI m2)) b_addI) (ev_bin (ev_idx (ev_var rfl) ev_int fr_den) (ev_idx (ev_var rfl) ev_int fr_den) (b_mulI m3))) rfl h rfl)) fin_d) rfl
theorem law_minus_run {a b : Rat} (ha : sm a) (hb : sm b) (M : Mem) : F_law_minus.run [.d (fr a), .d (fr b)] M = some (.ret (.d (fr (a - b))), M) := by
  have m1 : mulOk a.num b.den = true := mul_sm ha.1 (by rw [natAbs_den]; exact hb.2)
  have m2 : mulOk b.num a.den = true := mul_sm hb.1 (by rw [natAbs_den]; exact ha.2)
  have m3 : mulOk (a.den : Int) b.den = true := mul_sm (by rw [natAbs_den]; exact ha.2) (by rw [natAbs_den]; exact hb.2)
  obtain ⟨d1, d2⟩ := den_mul ha hb
  have h := law_fraction_run (t := a.num * b.den - b.num * a.den) d1 d2 M
  rw [show mkRat (a.num * b.den - b.num * a.den) ((a.den : Int) * (b.den : Int)).toNat = a - b by rw [Rat.sub_def']; rfl] at h
  exact run_dfR (env := [some (.d (fr a)), some (.d (fr b))]) rfl (s_ret (v := .d (fr (a - b))) (M1 := M) (ev_ret (ev_call (k := 0) (F := F_law_fraction) (ev_es2 (ev_bin (ev_bin (ev_idx (ev_var rfl) ev_int fr_num) (ev_idx (ev_var rfl) ev_int fr_den) (b_mulI m1)) (ev_bin (ev_idx (ev_var rfl) ev_int fr_num) (ev_idx (ev_var rfl) ev_int fr_den) (b_mulI m2)) b_subI) (ev_bin (ev_idx (ev_var rfl) ev_int fr_den) (ev_idx (ev_var rfl) ev_int fr_den) (b_mulI m3))) rfl h rfl)) fin_d) rfl
theorem law_times_run {a b : Rat} (ha : sm a) (hb : sm b) (M : Mem) : F_law_times.run [.d (fr a), .d (fr b)] M = some (.ret (.d (fr (a * b))), M) := by
  have m1 : mulOk a.num b.num = true := mul_sm ha.1 hb.1
  have m3 : mulOk (a.den : Int) b.den = true := mul_sm (by rw [natAbs_den]; exact ha.2) (by rw [natAbs_den]; exact hb.2)
  obtain ⟨d1, d2⟩ := den_mul ha hb
  have h := law_fraction_run (t := a.num * b.num) d1 d2 M
  rw [show mkRat (a.num * b.num) ((a.den : Int) * (b.den : Int)).toNat = a * b by rw [Rat.mul_def']; rfl] at h
  exact run_dfR (env := [some (.d (fr a)), some (.d (fr b))]) rfl (s_ret (v := .d (fr (a * b))) (M1 := M) (ev_ret (ev_call (k := 0) (F := F_law_fraction) (ev_es2 (ev_bin (ev_idx (ev_var rfl) ev_int fr_num) (ev_idx (ev_var rfl) ev_int fr_num) (b_mulI m1)) (ev_bin (ev_idx (ev_var rfl) ev_int fr_den) (ev_idx (ev_var rfl) ev_int fr_den) (b_mulI m3))) rfl h rfl)) fin_d) rfl
theorem law_less_run {a b : Rat} (ha : sm a) (hb : sm b) (M : Mem) : F_law_is_less.run [.d (fr a), .d (fr b)] M = some (.ret (.d (.bool (decide (a < b)))), M) := by
  have m1 : mulOk a.num b.den = true := mul_sm ha.1 (by rw [natAbs_den]; exact hb.2)
  have m2 : mulOk b.num a.den = true := mul_sm hb.1 (by rw [natAbs_den]; exact ha.2)
  refine run_dfR (env := [some (.d (fr a)), some (.d (fr b))]) rfl (s_ret (v := .d (.bool (decide (a < b)))) (M1 := M) (ev_ret (ev_cmp (ev_bin (ev_idx (ev_var rfl) ev_int fr_num) (ev_idx (ev_var rfl) ev_int fr_den) (b_mulI m1)) (ev_bin (ev_idx (ev_var rfl) ev_int fr_num) (ev_idx (ev_var rfl) ev_int fr_den) (b_mulI m2)) ?_)) fin_d) rfl
  rw [cmp_lt_int]
  congr 1
  rw [decide_eq_decide]
  exact (Rat.lt_iff a b).symm
theorem ordered_run {qs : List Rat} (hs : ∀ q ∈ qs, sm q) (hl : qs.length ≤ 100000) (M : Mem) : F_law_ordered.run [.d (.list (qs.map fr))] M = some (.ret (.d (.list ((asc qs).map fr))), M) := by
  refine run_dfR (env := [some (.d (.list (qs.map fr))), none, none, none]) rfl (s_next (env1 := [some (.d (.list (qs.map fr))), some (.m M.length), none, none]) (M1 := M ++ [.lst []]) (by simp [big]) (s_then (for_of (f := fr) (xs := qs)
    (fun i env M' => ∃ e2, env = [some (.d (.list (qs.map fr))), some (.m M.length), e2, none] ∧ M' = M ++ [.lst ((asc (qs.take i)).map fr)]) (ev_seqv (ev_var rfl) src_l) ⟨none, rfl, rfl⟩ ?_ ?_))) rfl
  · rintro i hi env M' ⟨e2, rfl, rfl⟩
    have hx : sm qs[i] := hs _ (List.getElem_mem hi)
    generalize hacc : asc (qs.take i) = acc
    have hnext : asc (qs.take (i + 1)) = insA acc qs[i] := by rw [List.take_succ_eq_append_getElem hi, asc_snoc, hacc]
    have hal : acc.length ≤ 100000 := by
      have := len_asc (qs := qs.take i)
      rw [hacc, List.length_take] at this
      omega
    have hsm : ∀ y ∈ acc, sm y := fun y hy => by
      rw [← hacc] at hy
      exact hs y (List.mem_of_mem_take (mem_asc.mp hy))
    generalize qs[i] = x at hx hnext
    refine ⟨_, rfl, ?_⟩
    have hm : (M ++ [Cl.lst (acc.map fr)])[M.length]? = some (.lst (acc.map fr)) := List.getElem?_concat_length ..
    have hc := comp_runM (mu := false) (cs := [F_law_is_less]) (own := [("other", 3)]) (t := .name 3) (it := .seq (.var 1)) (c := .so (.call 0 (.cons (.var 3) (.cons (.var 2) .nil)))) (e := .var 3) (f := fr) (ys := acc)
      (env := [some (.d (.list (qs.map fr))), some (.m M.length), some (.d (fr x)), none]) (M := M ++ [.lst (acc.map fr)]) (i := M.length) (fun y => if decide (y < x) = true then some (fr y) else none) (ev_seqv (ev_var rfl) (src_m hm)) hm (by omega)
      (fun y hy => less_turn rfl (fun M => law_less_run (hsm y hy) hx M) rfl (by simp) rfl (by decide))
    rw [fm_if] at hc
    refine s_then (s_ifB (v := !decide (x ∈ acc)) (M1 := M ++ [.lst (acc.map fr)]) ?_ ?_ ?_)
    · exact ts_of (ev_cmp (ev_var rfl) (ev_var rfl) (nmem_of eqv_fr (fun a => flat_fr a 19) (x := x) (xs := acc) (.inl (dat_m hm))))
    · intro h
      have hx : x ∉ acc := by simpa using h
      have hmt := asc_step (M := M) rfl hx (show acc.length < big by have : big = 1000000 := rfl; omega)
      exact s_next (ev_mth (ev_var rfl) (cell_at hm) (ev_es2 (ev_bi (ev_es1 hc) len_l) (ev_var rfl)) (by rw [List.length_map]; exact hmt)) (s_end (s_end ⟨_, rfl, by rw [hnext]⟩))
    · intro h
      have hx : x ∈ acc := by simpa using h
      refine s_end (s_end ⟨_, rfl, ?_⟩)
      rw [hnext]
      unfold insA
      rw [if_pos hx]
  · rintro env M' ⟨e2, rfl, rfl⟩
    rw [List.take_length]
    refine s_ret (v := .d (.list ((asc qs).map fr))) (M1 := M ++ [.gone]) ?_ fin_dA
    simp
end NW

set_option Elab.async false
set_option linter.all false
set_option maxRecDepth 100000
set_option maxHeartbeats 4000000
set_option exponentiation.threshold 100000
/-! What the laws draw: sources, numbers, positions, worlds. -/
namespace NW
open PySem

/-- a source's object -/
def Src3 (c : Cl) : Prop := ∃ a b d : Int, c = .lst [.int a, .int b, .int d] ∧ 0 ≤ a ∧ 0 ≤ b ∧ b < 2 ^ 40 ∧ 0 < d ∧ d < 2 ^ 40
theorem small_mul {i j : Int} (hi : i.natAbs < 2 ^ 50) (hj : j.natAbs < 2 ^ 50) : mulOk i j = true := by
  have : (2 : Nat) ^ 50 ≤ 2 ^ 1000 := Nat.pow_le_pow_right (by decide) (by decide)
  exact mul_sm (by omega) (by omega)
theorem small_div {j : Int} (h0 : 0 < j) (h : j < 2 ^ 50) : divOk j = true := by
  have : (2 : Int) ^ 50 ≤ 2 ^ 8999 := by
    have h : (2 : Nat) ^ 50 ≤ 2 ^ 8999 := Nat.pow_le_pow_right (by decide) (by decide)
    have h6 : ((2 ^ 50 : Nat) : Int) ≤ ((2 ^ 8999 : Nat) : Int) := Int.ofNat_le.mpr h
    rw [Int.natCast_pow, Int.natCast_pow] at h6
    exact h6
  exact divOk_of h0 (by omega)
theorem fmod_rng {i j : Int} (h : 0 < j) : 0 ≤ i.fmod j ∧ i.fmod j < j := by
  rw [fmod_pos (by omega)]
  exact ⟨Int.emod_nonneg _ (by omega), Int.emod_lt_of_pos _ h⟩
theorem pick_run {M : Mem} {i : Nat} {c : Cl} {s : Int} (hi : M[i]? = some c) (hc : Src3 c) (h0 : 0 < s) (h1 : s < 2 ^ 40) : ∃ (v : Int) (c' : Cl), F_law_pick.run [.m i, .d (.int s)] M = some (.ret (.d (.int v)), M.set i c') ∧ 0 ≤ v ∧ v < s ∧ Src3 c' := by
  obtain ⟨a, b, d, rfl, ha, hb, hb2, hd, hd2⟩ := hc
  have hil : i < M.length := (List.getElem?_eq_some_iff.mp hi).1
  have ix : ∀ (M : Mem) (x y z : D) (k : Int) (w : D), M[i]? = some (.lst [x, y, z]) → L2.atI [x, y, z] k = some w → evIdx (.m i) (.d (.int k)) M = some (.d w, M) := fun M x y z k w h1 h2 => by rw [ix_m h1, h2]; rfl
  have set_ : ∀ (M : Mem) (xs : List D) (k : Int) (y : D) (j : Nat), M[i]? = some (.lst xs) → L2.ixN xs.length k = some j → evSet (.m i) (.d (.int k)) y M = some (M.set i (.lst (xs.set j y))) := fun M xs k y j h1 h2 => by
    unfold evSet
    dsimp only
    rw [h1]
    dsimp only
    rw [h2]
    rfl
  by_cases hap : 0 < a
  · refine ⟨a.fmod s, .lst [.int (a / s), .int b, .int d], ?_, (fmod_rng h0).1, (fmod_rng h0).2, a / s, b, d, rfl, Int.ediv_nonneg ha (by omega), hb, hb2, hd, hd2⟩
    have hst : evS [] (.setI (.var 0) (.int 0) (.bin .fdiv (.idx (.var 0) (.int 0)) (.var 1))) [some (.m i), some (.d (.int s)), some (.d (.int (a.fmod s)))] M = some (.nx [some (.m i), some (.d (.int s)), some (.d (.int (a.fmod s)))] (M.set i (.lst [.int (a / s), .int b, .int d]))) := by
      have e1 : evE [] (.bin .fdiv (.idx (.var 0) (.int 0)) (.var 1)) [some (.m i), some (.d (.int s)), some (.d (.int (a.fmod s)))] M = some (.d (.int (a / s)), M) := ev_bin (ev_idx (ev_var rfl) ev_int (ix _ _ _ _ _ _ hi rfl)) (ev_var rfl) (b_fdivI (small_div h0 (by omega)))
      simp only [evS]
      rw [e1]
      simp only [dataV, Option.bind_some]
      rw [ev_var (v := .m i) rfl, Option.bind_some, ev_int, Option.bind_some, set_ _ _ _ _ 0 hi rfl]
      rfl
    refine run_dfR (env := [some (.m i), some (.d (.int s)), none]) rfl (s_then (s_ifT (M1 := M) (ts_of (ev_cmp (ev_idx (ev_var rfl) ev_int (ix _ _ _ _ _ _ hi rfl)) ev_int (by rw [cmp_gt_int, decide_eq_true hap]))) (s_next (env1 := [some (.m i), some (.d (.int s)), some (.d (.int (a.fmod s)))]) (M1 := M) (ev_asg (ev_bin (ev_idx (ev_var rfl) ev_int (ix _ _ _ _ _ _ hi rfl)) (ev_var rfl) (b_modI (by omega))) rfl)
      (s_next hst (s_ret (v := .d (.int (a.fmod s))) (M1 := M.set i (.lst [.int (a / s), .int b, .int d])) (ev_ret (ev_var rfl)) ?_))))) rfl
    have e : M.length = (M.set i (Cl.lst [PyData.int (a / s), PyData.int b, PyData.int d])).length := by rw [List.length_set]
    rw [e]
    exact fin_d
  · have hb' := fmod_rng (i := b * 48271) hd
    generalize hB : (b * 48271).fmod d + 1 = b2
    have hb3 : 0 ≤ b2 ∧ b2 < 2 ^ 41 := by omega
    refine ⟨((b2 * b2).fmod 2147483423 / 7).fmod s, .lst [.int a, .int b2, .int d], ?_, (fmod_rng h0).1, (fmod_rng h0).2, a, b2, d, rfl, ha, hb3.1, by omega, hd, hd2⟩
    have hst : evS [] (.setI (.var 0) (.int 1) (.bin .add (.bin .mod (.bin .mul (.idx (.var 0) (.int 1)) (.int 48271)) (.idx (.var 0) (.int 2))) (.int 1))) [some (.m i), some (.d (.int s)), none] M = some (.nx [some (.m i), some (.d (.int s)), none] (M.set i (.lst [.int a, .int b2, .int d]))) := by
      have e1 : evE [] (.bin .add (.bin .mod (.bin .mul (.idx (.var 0) (.int 1)) (.int 48271)) (.idx (.var 0) (.int 2))) (.int 1)) [some (.m i), some (.d (.int s)), none] M = some (.d (.int b2), M) := by
        refine ev_bin (ev_bin (ev_bin (ev_idx (ev_var rfl) ev_int (ix _ _ _ _ _ _ hi rfl)) ev_int (b_mulI (small_mul (by omega) (by omega)))) (ev_idx (ev_var rfl) ev_int (ix _ _ _ _ _ _ hi rfl)) (b_modI (by omega))) ev_int ?_
        rw [b_addI, hB]
      simp only [evS]
      rw [e1]
      simp only [dataV, Option.bind_some]
      rw [ev_var (v := .m i) rfl, Option.bind_some, ev_int, Option.bind_some, set_ _ _ _ _ 1 hi rfl]
      rfl
    have hi2 : (M.set i (Cl.lst [PyData.int a, PyData.int b2, PyData.int d]))[i]? = some (.lst [.int a, .int b2, .int d]) := List.getElem?_set_self hil
    refine run_dfR (env := [some (.m i), some (.d (.int s)), none]) rfl (s_then (s_ifF (M1 := M) (ts_of (ev_cmp (ev_idx (ev_var rfl) ev_int (ix _ _ _ _ _ _ hi rfl)) ev_int (by rw [cmp_gt_int, decide_eq_false hap]))) (s_end (s_next hst
      (s_ret (v := .d (.int (((b2 * b2).fmod 2147483423 / 7).fmod s))) (M1 := M.set i (.lst [.int a, .int b2, .int d])) (ev_ret (ev_bin (ev_bin (ev_bin (ev_bin (ev_idx (ev_var rfl) ev_int (ix _ _ _ _ _ _ hi2 rfl)) (ev_idx (ev_var rfl) ev_int (ix _ _ _ _ _ _ hi2 rfl)) (b_mulI (small_mul (by omega) (by omega)))) ev_int (b_modI (by decide))) ev_int (b_fdivI (small_div (by decide) (by decide)))) (ev_var rfl) (b_modI (by omega)))) ?_))))) rfl
    have e : M.length = (M.set i (Cl.lst [PyData.int a, PyData.int b2, PyData.int d])).length := by rw [List.length_set]
    rw [e]
    exact fin_d
/-- a drawn position -/
def PosOk (q : Rat) : Prop := Gr 6 q ∧ -1000 ≤ q ∧ q ≤ 1000
theorem pos_mk {t : Int} {b : Nat} (hb : b = 1 ∨ b = 2 ∨ b = 3) (h1 : -(1000 : Int) ≤ t) (h2 : t ≤ 1000) : PosOk (mkRat t b) := by
  have t1 : (-1000 : Rat) ≤ (t : Rat) := by
    have := Rat.intCast_le_intCast.mpr h1
    simpa using this
  have t2 : (t : Rat) ≤ 1000 := by
    have := Rat.intCast_le_intCast.mpr h2
    simpa using this
  refine ⟨?_, ?_, ?_⟩
  · rcases hb with rfl | rfl | rfl
    · exact ⟨t * 6, by rw [Rat.mkRat_eq_div, Rat.intCast_mul]; simp; grind⟩
    · exact ⟨t * 3, by rw [Rat.mkRat_eq_div, Rat.intCast_mul]; simp; grind⟩
    · exact ⟨t * 2, by rw [Rat.mkRat_eq_div, Rat.intCast_mul]; simp; grind⟩
  · rw [Rat.mkRat_eq_div]
    rcases hb with rfl | rfl | rfl <;> simp <;> grind
  · rw [Rat.mkRat_eq_div]
    rcases hb with rfl | rfl | rfl <;> simp <;> grind
theorem PosOk.sm {q : Rat} (h : PosOk q) : sm q := sm_B (D := 6) (by decide) (by
  have : (2 : Nat) ^ 3 ≤ 2 ^ 301 := Nat.pow_le_pow_right (by decide) (by decide)
  omega) h.1 (by have := h.2.1; grind) (by have := h.2.2; grind)
theorem src_set {M : Mem} {i : Nat} {c : Cl} (hi : i < M.length) : (M.set i c)[i]? = some c := List.getElem?_set_self hi
theorem position_run {M : Mem} {i : Nat} {c : Cl} {wide : Int} (hi : M[i]? = some c) (hc : Src3 c) (h0 : 0 ≤ wide) (h1 : wide ≤ 100) : ∃ (q : Rat) (c' : Cl), F_law_position.run [.m i, .d (.int wide)] M = some (.ret (.d (fr q)), M.set i c') ∧ PosOk q ∧ Src3 c' := by
  have hil : i < M.length := (List.getElem?_eq_some_iff.mp hi).1
  obtain ⟨v, c1, e1, v0, v5, s1⟩ := pick_run hi hc (s := 5) (by decide) (by decide)
  obtain ⟨b, hb, hbo⟩ : ∃ b : Nat, L2.atI [PyData.int 1, .int 1, .int 1, .int 2, .int 3] v = some (.int (b : Int)) ∧ (b = 1 ∨ b = 2 ∨ b = 3) := by
    have : v = 0 ∨ v = 1 ∨ v = 2 ∨ v = 3 ∨ v = 4 := by omega
    rcases this with rfl | rfl | rfl | rfl | rfl
    · exact ⟨1, rfl, .inl rfl⟩
    · exact ⟨1, rfl, .inl rfl⟩
    · exact ⟨1, rfl, .inl rfl⟩
    · exact ⟨2, rfl, .inr (.inl rfl)⟩
    · exact ⟨3, rfl, .inr (.inr rfl)⟩
  have hbb : 1 ≤ b ∧ b ≤ 3 := by omega
  have hw1 : 0 ≤ wide * (b : Int) ∧ wide * (b : Int) ≤ 300 := by
    rcases hbo with rfl | rfl | rfl <;> omega
  obtain ⟨u, c2, e2, u0, u5, s2⟩ := pick_run (M := M.set i c1) (src_set hil) s1 (s := wide * (b : Int) + 1) (by omega) (by omega)
  rw [List.set_set] at e2
  have hw3 : 0 ≤ wide / 3 ∧ wide / 3 ≤ 33 := by omega
  have hbw : 0 ≤ (b : Int) * (wide / 3) ∧ (b : Int) * (wide / 3) ≤ 99 := by
    rcases hbo with rfl | rfl | rfl <;> omega
  refine ⟨mkRat (u - (b : Int) * (wide / 3)) b, c2, ?_, pos_mk hbo (by omega) (by omega), s2⟩
  have hlen : M.length = (M.set i c2).length := by rw [List.length_set]
  have hl1 : evE [F_law_pick, F_law_fraction] (.lst (.cons (.int 1) (.cons (.int 1) (.cons (.int 1) (.cons (.int 2) (.cons (.int 3) .nil)))))) [some (.m i), some (.d (.int wide)), none] M = some (.d (.list [.int 1, .int 1, .int 1, .int 2, .int 3]), M) := by
    simp only [evE, evEs, Option.bind_some, Option.map_some, datasV]
    rfl
  have hf := law_fraction_run (t := u - (b : Int) * (wide / 3)) (b := (b : Int)) (by omega) (by
    have h : (2 : Nat) ^ 3 ≤ 2 ^ 8999 := Nat.pow_le_pow_right (by decide) (by decide)
    have h6 : ((2 ^ 3 : Nat) : Int) ≤ ((2 ^ 8999 : Nat) : Int) := Int.ofNat_le.mpr h
    rw [Int.natCast_pow, Int.natCast_pow] at h6
    have : (((2 : Nat) : Int)) ^ 3 = 8 := by decide
    omega) (M.set i c2)
  rw [Int.toNat_natCast] at hf
  refine run_dfR (env := [some (.m i), some (.d (.int wide)), none]) rfl (s_next (env1 := [some (.m i), some (.d (.int wide)), some (.d (.int (b : Int)))]) (M1 := M.set i c1) (ev_asg (ev_idx hl1 (ev_call (k := 0) (F := F_law_pick) (ev_es2 (ev_var rfl) ev_int) rfl e1 rfl) (by rw [ix_l, hb]; rfl)) rfl)
    (s_ret (v := .d (fr (mkRat (u - (b : Int) * (wide / 3)) b))) (M1 := M.set i c2) (ev_ret (ev_call (k := 1) (F := F_law_fraction) (ev_es2 (ev_bin (ev_call (k := 0) (F := F_law_pick) (ev_es2 (ev_var rfl) (ev_bin (ev_bin (ev_var rfl) (ev_var rfl) (b_mulI (small_mul (by omega) (by omega)))) ev_int b_addI)) rfl e2 rfl)
      (ev_bin (ev_var rfl) (ev_bin (ev_var rfl) ev_int (b_fdivI (small_div (by decide) (by decide)))) (b_mulI (small_mul (by omega) (by omega)))) b_subI) (ev_var rfl)) rfl hf rfl)) ?_)) rfl
  rw [hlen]
  exact fin_d
theorem compL_draw {i n : Nat} {α : Type} {f : α → D} {Q : α → D → Prop} {step : D → Mem → Option (Option D × Mem)} : ∀ (xs : List α), (∀ x ∈ xs, ∀ (M : Mem) (c : Cl), M[i]? = some c → Src3 c → ∃ y c', step (f x) M = some (some y, M.set i c') ∧ Src3 c' ∧ Q x y) →
    ∀ (M0 : Mem) (acc : List D) (c : Cl), M0.length = n → M0[i]? = some c → Src3 c → acc.length + xs.length ≤ big → ∃ ys c', compL n step (xs.map f) (M0 ++ [.lst acc]) = some (M0.set i c' ++ [.lst (acc ++ ys)]) ∧ Src3 c' ∧ Paired Q xs ys
  | [], _, M0, acc, c, hn, h1, h2, h3 => by
    refine ⟨[], c, ?_, h2, .nil⟩
    rw [List.map_nil]
    unfold compL
    have : M0.set i c = M0 := by
      obtain ⟨h4, h5⟩ := List.getElem?_eq_some_iff.mp h1
      rw [← h5]
      exact List.set_getElem_self h4
    rw [this, List.append_nil]
  | x :: xs, hst, M0, acc, c, hn, h1, h2, h3 => by
    rw [List.length_cons] at h3
    have hlt : i < M0.length := (List.getElem?_eq_some_iff.mp h1).1
    have g1 : (M0 ++ [Cl.lst acc])[i]? = some c := by rw [List.getElem?_append_left hlt]; exact h1
    obtain ⟨y, c1, e2, s1, q1⟩ := hst x List.mem_cons_self _ c g1 h2
    rw [List.set_append_left _ _ hlt] at e2
    obtain ⟨ys, c2, e3, s2, q2⟩ := compL_draw (n := n) xs (fun z hz => hst z (List.mem_cons_of_mem _ hz)) (M0.set i c1) (acc ++ [y]) c1 (by rw [List.length_set]; exact hn) (src_set hlt) s1 (by rw [List.length_append, List.length_singleton]; omega)
    refine ⟨y :: ys, c2, ?_, s2, .cons q1 q2⟩
    rw [List.map_cons]
    unfold compL compT
    rw [e2, Option.bind_some]
    dsimp only
    rw [add_to (by rw [List.length_set]; exact hn) (by omega), Option.bind_some, e3, List.set_set, List.append_assoc]
    rfl
/-- [e for t in xs], e draws from the source at i -/
theorem comp_draw {cs : List Fn} {own : List (String × Nat)} {t : T} {it : It} {e : E} {env : En} {i : Nat} {α : Type} {f : α → D} (Q : α → D → Prop) {xs : List α}
    (hstep : ∀ x ∈ xs, ∀ (M : Mem) (c : Cl), M[i]? = some c → Src3 c → ∃ env1 y c', evT t (.d (f x)) (wipeE env (own.map (·.2))) = some env1 ∧ evE cs e env1 M = some (.d y, M.set i c') ∧ Src3 c' ∧ Q x y)
    {M0 M : Mem} {c : Cl} (hi : M[i]? = some c) (hc : Src3 c) (hit : evI cs it env M0 = some (.fix (xs.map f), M)) (hl : xs.length ≤ big) :
    ∃ ys c', evE cs (.comp false own t it .no e) env M0 = some (.d (.list ys), M.set i c') ∧ Src3 c' ∧ Paired Q xs ys := by
  simp only [evE, hit, Option.bind_some, compS]
  obtain ⟨ys, c', e1, s1, q1⟩ := compL_draw (n := M.length) (f := f) (Q := Q) (step := fun x M => (evT t (.d x) (wipeE env (own.map (·.2)))).bind fun env1 => (evC cs .no env1 M).bind fun q => if q.1 = true then (dataV (evE cs e env1 q.2)).map fun p => (some p.1, p.2) else some (none, q.2)) xs
    (fun x hx M c h1 h2 => by
      obtain ⟨env1, y, c', e1, e2, s, q⟩ := hstep x hx M c h1 h2
      refine ⟨y, c', ?_, s, q⟩
      simp only [e1, Option.bind_some, evC, if_true, e2, dataV, Option.map_some]) M [] c rfl hi hc (by simpa using hl)
  refine ⟨ys, c', ?_, s1, q1⟩
  rw [e1, Option.bind_some, comp_end (by rw [List.length_set]), List.nil_append]
  rfl
/-! ### worlds -/
def nm8 (s : String) (h : PyData.strOk (Str.ofString s) = true) : Nm := ⟨Str.ofString s, h⟩
def nms8 : List Nm := [nm8 "ann" (by decide +kernel), nm8 "bo" (by decide +kernel), nm8 "cy" (by decide +kernel), nm8 "dee" (by decide +kernel), nm8 "eve" (by decide +kernel), nm8 "fay" (by decide +kernel), nm8 "gus" (by decide +kernel), nm8 "hal" (by decide +kernel)]
def nmB (n : Nm) : Bool := decide (1 ≤ n.s.length) && (decide (n.s.length ≤ 8) && (signsD n.s).all fun c => match c with
  | .str z => subS z (Str.ofString "abcdefghijklmnopqrstuvwxyz")
  | _ => false)
theorem nmB_ok {n : Nm} (h : nmB n = true) : NmOk n := by
  obtain ⟨h1, h2⟩ := Bool.and_eq_true_iff.mp h
  obtain ⟨h2, h3⟩ := Bool.and_eq_true_iff.mp h2
  refine ⟨of_decide_eq_true h1, of_decide_eq_true h2, fun c hc => ?_⟩
  have h4 := List.all_eq_true.mp h3 c hc
  cases c with
  | str z => exact ⟨z, rfl, h4⟩
  | _ => cases h4
theorem nms8_ok : ∀ n ∈ nms8, NmOk n := by
  have h : nms8.all nmB = true := by decide +kernel
  exact fun n hn => nmB_ok (List.all_eq_true.mp h n hn)
theorem nms8_asc : nms8.Pairwise fun x y => x.s.cps.toList < y.s.cps.toList := by
  decide +kernel
theorem paired_rows : ∀ {xs : List Nm} {ys : List D}, Paired (fun n y => ∃ q, y = PyData.tuple [n.d, fr q] ∧ PosOk q) xs ys → ∃ ws : List (Nm × Rat), ys = ws.map wkD ∧ ws.map (·.1) = xs ∧ ∀ x ∈ ws, PosOk x.2
  | _, _, .nil => ⟨[], rfl, rfl, fun x hx => nomatch hx⟩
  | n :: _, _, .cons ⟨q, e, hq⟩ t => by
    obtain ⟨ws, h1, h2, h3⟩ := paired_rows t
    refine ⟨(n, q) :: ws, by rw [h1, e]; rfl, by rw [List.map_cons, h2], fun x hx => ?_⟩
    rcases List.mem_cons.mp hx with rfl | hx
    · exact hq
    · exact h3 x hx
theorem paired_pos {α : Type} : ∀ {xs : List α} {ys : List D}, Paired (fun _ y => ∃ q, y = fr q ∧ PosOk q) xs ys → ∃ qs : List Rat, ys = qs.map fr ∧ qs.length = xs.length ∧ ∀ q ∈ qs, PosOk q
  | _, _, .nil => ⟨[], rfl, rfl, fun x hx => nomatch hx⟩
  | _ :: _, _, .cons ⟨q, e, hq⟩ t => by
    obtain ⟨qs, h1, h2, h3⟩ := paired_pos t
    refine ⟨q :: qs, by rw [h1, e]; rfl, by rw [List.length_cons, List.length_cons, h2], fun x hx => ?_⟩
    rcases List.mem_cons.mp hx with rfl | hx
    · exact hq
    · exact h3 x hx
/-- a drawn world -/
structure Drawn (w : Wd) (np : Nat) : Prop where
  ok : WOk w
  g : WG w
  np : w.ps.length ≤ np
  b : ∀ x ∈ w.ws, PosOk x.2
  bp : ∀ p ∈ w.ps, PosOk p
theorem world_run {M : Mem} {i : Nat} {c : Cl} {most np : Nat} (hi : M[i]? = some c) (hc : Src3 c) (h1 : 1 ≤ most) (h8 : most ≤ 8) (h4 : np ≤ 4) : ∃ (w : Wd) (c' : Cl), F_law_world.run [.m i, .d (.int (most : Int)), .d (.int (np : Int))] M = some (.ret (.d (wD w)), M.set i c') ∧ Src3 c' ∧ Drawn w np := by
  have hil : i < M.length := (List.getElem?_eq_some_iff.mp hi).1
  have hset : ∀ c : Cl, i < (M.set i c).length := fun c => by rw [List.length_set]; exact hil
  obtain ⟨v, c1, e1, v0, v3, s1⟩ := pick_run hi hc (s := 3) (by decide) (by decide)
  obtain ⟨wide, hw, w0, w1⟩ : ∃ wide : Int, L2.atI [PyData.int 6, .int 20, .int 100] v = some (.int wide) ∧ 0 ≤ wide ∧ wide ≤ 100 := by
    have : v = 0 ∨ v = 1 ∨ v = 2 := by omega
    rcases this with rfl | rfl | rfl
    · exact ⟨6, rfl, by decide, by decide⟩
    · exact ⟨20, rfl, by decide, by decide⟩
    · exact ⟨100, rfl, by decide, by decide⟩
  obtain ⟨u, c2, e2, u0, u1, s2⟩ := pick_run (src_set (c := c1) hil) s1 (s := (most : Int)) (by omega) (by omega)
  rw [List.set_set] at e2
  -- the names
  have hl1 : evE [F_law_pick, F_law_position, F_law_ordered] (.lst (.cons (.int 6) (.cons (.int 20) (.cons (.int 100) .nil)))) [some (.m i), some (.d (.int (most : Int))), some (.d (.int (np : Int))), none, none, none, none, none, none] M = some (.d (.list [.int 6, .int 20, .int 100]), M) := by
    simp only [evE, evEs, Option.bind_some, Option.map_some, datasV]
    rfl
  have hl2 : ∀ env M, evE [F_law_pick, F_law_position, F_law_ordered] (.lst (.cons (.str "ann") (.cons (.str "bo") (.cons (.str "cy") (.cons (.str "dee") (.cons (.str "eve") (.cons (.str "fay") (.cons (.str "gus") (.cons (.str "hal") .nil))))))))) env M = some (.d (.list (nms8.map Nm.d)), M) := fun env M => by
    simp only [evE, evEs, Option.bind_some, Option.map_some, datasV]
    rfl
  generalize hns : nms8.take (u + 1).toNat = ns
  have hnl : ns.length ≤ 8 ∧ 1 ≤ ns.length := by
    rw [← hns, List.length_take]
    have : nms8.length = 8 := rfl
    omega
  have hnok : ∀ n ∈ ns, NmOk n := fun n hn => nms8_ok n (List.mem_of_mem_take (by rw [hns]; exact hn))
  have hnasc : ns.Pairwise fun x y => x.s.cps.toList < y.s.cps.toList := by
    rw [← hns]
    exact nms8_asc.sublist (List.take_sublist _ _)
  have hsl : evE [F_law_pick, F_law_position, F_law_ordered] (.slc (.lst (.cons (.str "ann") (.cons (.str "bo") (.cons (.str "cy") (.cons (.str "dee") (.cons (.str "eve") (.cons (.str "fay") (.cons (.str "gus") (.cons (.str "hal") .nil))))))))) .no (.so (.bin .add (.int 1) (.call 0 (.cons (.var 0) (.cons (.var 1) .nil))))))
      [some (.m i), some (.d (.int (most : Int))), some (.d (.int (np : Int))), some (.d (.int wide)), none, none, none, none, none] (M.set i c1) = some (.d (.list (ns.map Nm.d)), M.set i c2) := by
    have e3 := ev_bin (op := .add) (ev_int (cs := [F_law_pick, F_law_position, F_law_ordered]) (k := 1) (env := [some (.m i), some (.d (.int (most : Int))), some (.d (.int (np : Int))), some (.d (.int wide)), none, none, none, none, none]) (M := M.set i c1)) (ev_call (k := 0) (F := F_law_pick) (ev_es2 (ev_var (i := 0) rfl) (ev_var (i := 1) rfl)) rfl e2 rfl) b_addI
    have e4 := hl2 [some (.m i), some (.d (.int (most : Int))), some (.d (.int (np : Int))), some (.d (.int wide)), none, none, none, none, none] (M.set i c1)
    generalize E.lst (.cons (.str "ann") (.cons (.str "bo") (.cons (.str "cy") (.cons (.str "dee") (.cons (.str "eve") (.cons (.str "fay") (.cons (.str "gus") (.cons (.str "hal") .nil)))))))) = le at e4
    generalize E.bin .add (.int 1) (.call 0 (.cons (.var 0) (.cons (.var 1) .nil))) = be at e3
    simp only [evE, evO, e4, Option.bind_some]
    rw [e3]
    simp only [evPart, Option.bind_some]
    rw [sl_l]
    congr 3
    have e5 : (1 + u) = (((u + 1).toNat : Nat) : Int) := by omega
    rw [e5, cut_to, ← List.map_take, hns]
  -- the walkers
  obtain ⟨ys, c3, e3, s3, q3⟩ := comp_draw (cs := [F_law_pick, F_law_position, F_law_ordered]) (own := [("name", 6)]) (t := .name 6) (it := .seq (.var 4)) (e := .tup (.cons (.var 6) (.cons (.call 1 (.cons (.var 0) (.cons (.var 3) .nil))) .nil))) (i := i) (f := Nm.d)
    (env := [some (.m i), some (.d (.int (most : Int))), some (.d (.int (np : Int))), some (.d (.int wide)), some (.d (.list (ns.map Nm.d))), none, none, none, none]) (fun n y => ∃ q, y = PyData.tuple [n.d, fr q] ∧ PosOk q) (xs := ns) (fun n hn M c g1 g2 => by
      obtain ⟨q, c', e, hq, hs⟩ := position_run g1 g2 w0 w1
      exact ⟨[some (.m i), some (.d (.int (most : Int))), some (.d (.int (np : Int))), some (.d (.int wide)), some (.d (.list (ns.map Nm.d))), none, some (.d n.d), none, none], .tuple [n.d, fr q], c', rfl, ev_tup (ev_es2 (ev_var rfl) (ev_call (k := 1) (F := F_law_position) (ev_es2 (ev_var rfl) (ev_var rfl)) rfl e rfl)) rfl (by simp [big]), hs, q, rfl, hq⟩)
    (M0 := M.set i c2) (M := M.set i c2) (src_set hil) s2 (ev_seqv (ev_var rfl) src_l) (by have : big = 1000000 := rfl; omega)
  rw [List.set_set] at e3
  obtain ⟨ws, rfl, hws, hpos⟩ := paired_rows q3
  -- the posts
  obtain ⟨m, c4, e4, m0, m1, s4⟩ := pick_run (src_set (c := c3) hil) s3 (s := (np : Int) + 1) (by omega) (by omega)
  rw [List.set_set] at e4
  obtain ⟨zs, c5, e5, s5, q5⟩ := comp_draw (cs := [F_law_pick, F_law_position, F_law_ordered]) (own := [("turn", 8)]) (t := .name 8) (it := .rng1 (.call 0 (.cons (.var 0) (.cons (.bin .add (.var 2) (.int 1)) .nil)))) (e := .call 1 (.cons (.var 0) (.cons (.var 3) .nil))) (i := i) (f := natD)
    (env := [some (.m i), some (.d (.int (most : Int))), some (.d (.int (np : Int))), some (.d (.int wide)), some (.d (.list (ns.map Nm.d))), some (.d (.tuple (ws.map wkD))), none, none, none]) (fun _ y => ∃ q, y = fr q ∧ PosOk q) (xs := List.range m.toNat) (fun n hn M c g1 g2 => by
      obtain ⟨q, c', e, hq, hs⟩ := position_run g1 g2 w0 w1
      exact ⟨[some (.m i), some (.d (.int (most : Int))), some (.d (.int (np : Int))), some (.d (.int wide)), some (.d (.list (ns.map Nm.d))), some (.d (.tuple (ws.map wkD))), none, none, some (.d (natD n))], fr q, c', rfl, ev_call (k := 1) (F := F_law_position) (ev_es2 (ev_var rfl) (ev_var rfl)) rfl e rfl, hs, q, rfl, hq⟩)
    (M0 := M.set i c3) (M := M.set i c4) (src_set hil) s4 (rng1_ev (k := m) (ev_call (k := 0) (F := F_law_pick) (ev_es2 (ev_var rfl) (ev_bin (ev_var rfl) ev_int b_addI)) rfl e4 rfl) rfl (by omega) (by omega)) (by rw [List.length_range]; have : big = 1000000 := rfl; omega)
  rw [List.set_set] at e5
  obtain ⟨qs, rfl, hql, hqp⟩ := paired_pos q5
  rw [List.length_range] at hql
  have hqs : qs.length ≤ np := by omega
  have hal := len_asc (qs := qs)
  have hwl : ws.length = ns.length := by rw [← hws, List.length_map]
  have wk : ∀ q, PosOk q → Gr 6 q ∧ -1000000 ≤ q ∧ q ≤ 1000000 := fun q h => ⟨h.1, by have := h.2.1; grind, by have := h.2.2; grind⟩
  refine ⟨⟨ws, asc qs⟩, c5, ?_, s5, ⟨by show 1 ≤ ws.length; omega, by show ws.length ≤ 8; omega, by show (asc qs).length ≤ 4; omega, fun x hx => hnok x.1 (by rw [← hws]; exact List.mem_map_of_mem hx), fun x hx => (hpos x hx).sm, fun p hp => (hqp p (mem_asc.mp hp)).sm, ?_, asc_asc qs⟩,
    ⟨fun x hx => wk _ (hpos x hx), fun p hp => wk _ (hqp p (mem_asc.mp hp)), by show ws.length ≤ 8; omega, by show (asc qs).length ≤ 4; omega⟩, by show (asc qs).length ≤ np; omega, hpos, fun p hp => hqp p (mem_asc.mp hp)⟩
  · have hlen : M.length = (M.set i c5).length := by rw [List.length_set]
    refine run_dfR (env := [some (.m i), some (.d (.int (most : Int))), some (.d (.int (np : Int))), none, none, none, none, none, none]) rfl (s_next (env1 := [some (.m i), some (.d (.int (most : Int))), some (.d (.int (np : Int))), some (.d (.int wide)), none, none, none, none, none]) (M1 := M.set i c1) (ev_asg (ev_idx hl1 (ev_call (k := 0) (F := F_law_pick) (ev_es2 (ev_var rfl) ev_int) rfl e1 rfl) (by rw [ix_l, hw]; rfl)) rfl)
      (s_next (env1 := [some (.m i), some (.d (.int (most : Int))), some (.d (.int (np : Int))), some (.d (.int wide)), some (.d (.list (ns.map Nm.d))), none, none, none, none]) (M1 := M.set i c2) (ev_asg hsl rfl)
      (s_next (env1 := [some (.m i), some (.d (.int (most : Int))), some (.d (.int (np : Int))), some (.d (.int wide)), some (.d (.list (ns.map Nm.d))), some (.d (.tuple (ws.map wkD))), none, none, none]) (M1 := M.set i c3) (ev_asg (ev_bi (ev_es1 e3) bi_tup) rfl)
      (s_next (env1 := [some (.m i), some (.d (.int (most : Int))), some (.d (.int (np : Int))), some (.d (.int wide)), some (.d (.list (ns.map Nm.d))), some (.d (.tuple (ws.map wkD))), none, some (.d (.list (qs.map fr))), none]) (M1 := M.set i c5) (ev_asg e5 rfl)
      (s_ret (v := .d (wD ⟨ws, asc qs⟩)) (M1 := M.set i c5) (ev_ret (ev_tup (xs := [.tuple (ws.map wkD), .tuple ((asc qs).map fr)]) (ev_es2 (ev_var rfl) (ev_bi (ev_es1 (ev_call (k := 2) (F := F_law_ordered) (ev_es1 (ev_var rfl)) rfl (ordered_run (fun q hq => (hqp q hq).sm) (by omega) _) rfl)) bi_tup)) rfl (by simp [big]))) ?_))))) rfl
    rw [hlen]
    exact fin_d
  · have h : (ws.map (·.1)).Pairwise fun x y => x.s.cps.toList < y.s.cps.toList := by rw [hws]; exact hnasc
    exact (List.pairwise_map (f := fun x : Nm × Rat => x.1) (R := fun x y : Nm => x.s.cps.toList < y.s.cps.toList)).mp h
theorem fin_new {M : Mem} {c : Cl} : finish M.length (.rt (.m M.length) (M ++ [c])) = some (.ret (.m M.length), M ++ [c]) := by simp
theorem source_run {ns : List Int} {k : Nat} (hl : ns.length ≤ 63) (hk : k ≤ 100) (M : Mem) : ∃ c, F_law_source.run [.d (.list (ns.map .int)), .d (.int (k : Int))] M = some (.ret (.m M.length), M ++ [c]) ∧ Src3 c := by
  obtain ⟨cell, hcell⟩ : ∃ cell : Int, cell = (if k < ns.length then ns.getD k 0 else 0) := ⟨_, rfl⟩
  obtain ⟨s1, hs1⟩ : ∃ s1 : Int, s1 = ((cell.fmod 2147483489 + 1) * (48271 + 2 * (k : Int))).fmod 2147483489 := ⟨_, rfl⟩
  obtain ⟨s2, hs2⟩ : ∃ s2 : Int, s2 = (s1 * s1).fmod 2147483477 + (k : Int) + 1 := ⟨_, rfl⟩
  have r0 := fmod_rng (i := cell) (j := 2147483489) (by decide)
  have r1 : 0 ≤ s1 ∧ s1 < 2147483489 := by rw [hs1]; exact fmod_rng (by decide)
  have r2 := fmod_rng (i := s1 * s1) (j := 2147483477) (by decide)
  have r3 : 0 ≤ s2 ∧ s2 < 2 ^ 40 := by omega
  obtain ⟨p, hp, hp0, hp1⟩ : ∃ p : Int, L2.atI [PyData.int 2147483647, .int 2147483629, .int 2147483587, .int 2147483579, .int 2147483563, .int 2147483549, .int 2147483543, .int 2147483497] ((k : Int).fmod 8) = some (.int p) ∧ 0 < p ∧ p < 2 ^ 40 := by
    have r := fmod_rng (i := (k : Int)) (j := 8) (by decide)
    generalize (k : Int).fmod 8 = z at r
    have : z = 0 ∨ z = 1 ∨ z = 2 ∨ z = 3 ∨ z = 4 ∨ z = 5 ∨ z = 6 ∨ z = 7 := by omega
    rcases this with rfl | rfl | rfl | rfl | rfl | rfl | rfl | rfl <;> exact ⟨_, rfl, by decide, by decide⟩
  have e1 : ∃ o, evS [] (.ife (.cmp .lt (.var 1) (.bi .len (.cons (.var 0) .nil))) (.cons (.asg (.name 2) (.idx (.var 0) (.var 1))) .nil) .nil) [some (.d (.list (ns.map .int))), some (.d (.int (k : Int))), some (.d (.int 0)), none, none] M = some o ∧ o = .nx [some (.d (.list (ns.map .int))), some (.d (.int (k : Int))), some (.d (.int cell)), none, none] M := by
    refine s_ifB (v := decide (k < ns.length)) (M1 := M) (ts_of (ev_cmp (ev_var rfl) (ev_bi (ev_es1 (ev_var rfl)) (by rw [len_l, List.length_map])) (by rw [cmp_lt_int]; congr 1; rw [decide_eq_decide]; omega))) (fun h => ?_) (fun h => ?_)
    · have h := of_decide_eq_true h
      have e : ns[k]? = some cell := by
        rw [hcell, if_pos h, List.getD_eq_getElem?_getD, List.getElem?_eq_getElem h]
        rfl
      exact s_next (ev_asg (ev_idx (ev_var rfl) (ev_var rfl) (by rw [ix_l, at_map e]; rfl)) rfl) (s_end rfl)
    · have h := of_decide_eq_false h
      rw [if_neg h] at hcell
      rw [hcell]
      exact s_end rfl
  obtain ⟨o, e1, rfl⟩ := e1
  have e2 : ∀ env M, evE [] (.lst (.cons (.int 2147483647) (.cons (.int 2147483629) (.cons (.int 2147483587) (.cons (.int 2147483579) (.cons (.int 2147483563) (.cons (.int 2147483549) (.cons (.int 2147483543) (.cons (.int 2147483497) .nil))))))))) env M = some (.d (.list [.int 2147483647, .int 2147483629, .int 2147483587, .int 2147483579, .int 2147483563, .int 2147483549, .int 2147483543, .int 2147483497]), M) := fun env M => by
    simp only [evE, evEs, Option.bind_some, Option.map_some, datasV]
    rfl
  have hpow : powOk 10 18 = true := by decide
  have nw : ∀ (x : E) (a : Int) (env : En), (∀ M, evE [] x env M = some (.d (.int a), M)) → env[4]? = some (some (.d (.int s2))) → env[3]? = some (some (.d (.list [.int 2147483647, .int 2147483629, .int 2147483587, .int 2147483579, .int 2147483563, .int 2147483549, .int 2147483543, .int 2147483497]))) → env[1]? = some (some (.d (.int (k : Int)))) →
      evS [] (.ret (.new (.cons x (.cons (.var 4) (.cons (.idx (.var 3) (.bin .mod (.var 1) (.int 8))) .nil))))) env M = some (.rt (.m M.length) (M ++ [.lst [.int a, .int s2, .int p]])) := fun x a env hx h4 h3 h1 => by
    have e := ev_es3 (hx M) (ev_var h4) (ev_idx (ev_var h3) (ev_bin (ev_var h1) (ev_int (k := 8)) (b_modI (by decide))) (by rw [ix_l, hp]; rfl))
    generalize (.cons x (.cons (.var 4) (.cons (.idx (.var 3) (.bin .mod (.var 1) (.int 8))) .nil)) : Es) = es at e ⊢
    simp only [evS, evE, e, Option.bind_some]
    simp [datasV, big]
  have main : ∀ c, (∃ a : Int, 0 ≤ a ∧ c = Cl.lst [.int a, .int s2, .int p]) → Src3 c := fun c ⟨a, ha, e⟩ => ⟨a, s2, p, e, ha, r3.1, r3.2, hp0, hp1⟩
  have go : ∃ a : Int, 0 ≤ a ∧ F_law_source.run [.d (.list (ns.map .int)), .d (.int (k : Int))] M = some (.ret (.m M.length), M ++ [.lst [.int a, .int s2, .int p]]) := by
    refine ⟨if 10 ^ 18 ≤ cell then cell else 0, by split <;> omega, ?_⟩
    refine run_dfR (env := [some (.d (.list (ns.map .int))), some (.d (.int (k : Int))), none, none, none]) rfl (s_next (env1 := [some (.d (.list (ns.map .int))), some (.d (.int (k : Int))), some (.d (.int 0)), none, none]) (M1 := M) (ev_asg ev_int rfl) (s_next e1
      (s_next (ev_asg (e2 _ _) rfl) (s_next (env1 := [some (.d (.list (ns.map .int))), some (.d (.int (k : Int))), some (.d (.int cell)), some (.d (.list [.int 2147483647, .int 2147483629, .int 2147483587, .int 2147483579, .int 2147483563, .int 2147483549, .int 2147483543, .int 2147483497])), some (.d (.int s1))]) (M1 := M) (ev_asg ?_ rfl)
      (s_next (env1 := [some (.d (.list (ns.map .int))), some (.d (.int (k : Int))), some (.d (.int cell)), some (.d (.list [.int 2147483647, .int 2147483629, .int 2147483587, .int 2147483579, .int 2147483563, .int 2147483549, .int 2147483543, .int 2147483497])), some (.d (.int s2))]) (M1 := M) (ev_asg ?_ rfl)
      (s_then (s_ifB (v := decide ((10 : Int) ^ 18 ≤ cell)) (M1 := M) (ts_of (ev_cmp (ev_var rfl) (ev_bin ev_int ev_int (b_powI hpow)) (by rw [cmp_ge_int]; rfl))) (fun h => ?_) (fun h => ?_)))))))) rfl
    · rw [hs1]
      exact ev_bin (ev_bin (ev_bin (ev_bin (ev_var rfl) ev_int (b_modI (by decide))) ev_int b_addI) (ev_bin ev_int (ev_bin ev_int (ev_var rfl) (b_mulI (small_mul (by omega) (by omega)))) b_addI) (b_mulI (small_mul (by omega) (by omega)))) ev_int (b_modI (by decide))
    · rw [hs2]
      exact ev_bin (ev_bin (ev_bin (ev_bin (ev_var rfl) (ev_var rfl) (b_mulI (small_mul (by omega) (by omega)))) ev_int (b_modI (by decide))) (ev_var rfl) b_addI) ev_int b_addI
    · have h := of_decide_eq_true h
      rw [if_pos h]
      exact s_ret (nw (.var 2) cell _ (fun M => ev_var rfl) rfl rfl rfl) fin_new
    · have h := of_decide_eq_false h
      rw [if_neg h]
      exact s_end (s_ret (nw (.int 0) 0 _ (fun M => ev_int) rfl rfl rfl) fin_new)
  obtain ⟨a, ha, e⟩ := go
  exact ⟨_, e, main _ ⟨a, ha, rfl⟩⟩
theorem law_names_run {w : Wd} (hl : w.ws.length ≤ 1000) (M : Mem) : F_law_names.run [.d (wD w)] M = some (.ret (.d (.list ((w.ws.map (·.1)).map Nm.d))), M) := by
  have hc := comp_run (mu := false) (cs := []) (own := [("row", 1)]) (t := .name 1) (it := .seq (.idx (.var 0) (.int 0))) (c := .no) (e := .idx (.var 1) (.int 0)) (f := wkD) (xs := w.ws) (env := [some (.d (wD w)), none]) (M := M)
    (fun x => some x.1.d) (ev_seqv (ev_idx (ev_var rfl) ev_int (show _ = some (.d (.tuple (w.ws.map wkD)), M) from rfl)) src_t) (by have : big = 1000000 := rfl; omega)
    (fun x hx M => ⟨[some (.d (wD w)), some (.d (wkD x))], true, rfl, by simp only [evC], (fun h => nomatch h), fun _ => ⟨_, ev_idx (ev_var rfl) ev_int wk_nm, rfl⟩⟩)
  rw [fm_all] at hc
  refine run_dfR (env := [some (.d (wD w)), none]) rfl (s_ret (v := .d (.list ((w.ws.map (·.1)).map Nm.d))) (M1 := M) (ev_ret ?_) fin_d) rfl
  rw [List.map_map]
  exact hc
end NW

set_option Elab.async false
set_option linter.all false
set_option maxRecDepth 100000
set_option maxHeartbeats 4000000
set_option exponentiation.threshold 100000
/-! Steps as rules to be applied, one by one. -/
namespace NW
open PySem

section
variable {cs : List Fn} {env env1 : En} {M M1 M2 M3 : Mem} {e a b c : E} {v u w : Vl} {ss : Ss} {R : SO → Prop}
theorem s_asg {t : T} (h : evE cs e env M = some (v, M1)) (h2 : evT t v env = some env1) (h3 : ∃ o, evSs cs ss env1 M1 = some o ∧ R o) : ∃ o, evSs cs (.cons (.asg t e) ss) env M = some o ∧ R o := s_next (ev_asg h h2) h3
theorem s_par {is : List Nat} {es : Es} {vs : List Vl} (h : evEs cs es env M = some (vs, M1)) (h2 : evPar is vs env = some env1) (h3 : ∃ o, evSs cs ss env1 M1 = some o ∧ R o) : ∃ o, evSs cs (.cons (.par is es) ss) env M = some o ∧ R o :=
  s_next (by simp only [evS, h, Option.bind_some, h2, Option.map_some]) h3
theorem s_parC {ts : List T} {es : Es} {vs : List Vl} (h : evEs cs es env M = some (vs, M1)) (h2 : evPs ts vs env = some env1) (h3 : ∃ o, evSs cs ss env1 M1 = some o ∧ R o) : ∃ o, evSs cs (.cons (.parC ts es) ss) env M = some o ∧ R o :=
  s_next (by simp only [evS, h, Option.bind_some, h2, Option.map_some]) h3
theorem s_mthd {m : Mt} {es : Es} {vs : List Vl} (h : evE cs a env M = some (v, M1)) (hc : isCell v M1 = true) (h2 : evEs cs es env M1 = some (vs, M2)) (h3 : evMt m v vs M2 = some M3) (h4 : ∃ o, evSs cs ss env M3 = some o ∧ R o) : ∃ o, evSs cs (.cons (.mth m a es) ss) env M = some o ∧ R o := s_next (ev_mth h hc h2 h3) h4
theorem s_callv {k : Nat} {es : Es} {vs : List Vl} {F : Fn} (h : evEs cs es env M = some (vs, M1)) (hk : cs[k]? = some F) (h2 : F.run vs M1 = some (.ret v, M2)) (hl : vs.length = F.ar) (h3 : ∃ o, evSs cs ss env M2 = some o ∧ R o) : ∃ o, evSs cs (.cons (.callS k es) ss) env M = some o ∧ R o := s_next (ev_callS h hk h2 hl) h3
theorem s_retv (h : evE cs e env M = some (v, M1)) (h2 : R (.rt v M1)) : ∃ o, evSs cs (.cons (.ret e) ss) env M = some o ∧ R o := s_ret (ev_ret h) h2
/-- a test that leaves on yes -/
theorem s_ifr {x : Ss} {r : Bool} (h : tstB (evE cs c env M) = some (r, M1)) (ht : r = true → ∃ o, evSs cs x env M1 = some o ∧ After cs ss R o) (hf : r = false → ∃ o, evSs cs ss env M1 = some o ∧ R o) : ∃ o, evSs cs (.cons (.ife c x .nil) ss) env M = some o ∧ R o :=
  s_then (s_ifB h ht fun e => s_end (hf e))
theorem s_iff {x : Ss} (h : tstB (evE cs c env M) = some (false, M1)) (hf : ∃ o, evSs cs ss env M1 = some o ∧ R o) : ∃ o, evSs cs (.cons (.ife c x .nil) ss) env M = some o ∧ R o :=
  s_then (s_ifF h (s_end hf))
theorem s_if {x y : Ss} {r : Bool} (h : tstB (evE cs c env M) = some (r, M1)) (ht : r = true → ∃ o, evSs cs x env M1 = some o ∧ After cs ss R o) (hf : r = false → ∃ o, evSs cs y env M1 = some o ∧ After cs ss R o) : ∃ o, evSs cs (.cons (.ife c x y) ss) env M = some o ∧ R o := s_then (s_ifB h ht hf)
/-- the end of a branch: on behind it -/
theorem s_on (h : ∃ o, evSs cs ss env M = some o ∧ R o) : ∃ o, evSs cs .nil env M = some o ∧ After cs ss R o := s_end h
theorem af_rt {M : Mem} (h : R (.rt v M)) : After cs ss R (.rt v M) := h

theorem s_for {α : Type} {f : α → D} {t : T} {it : It} {b : Ss} {xs : List α} (I : Nat → En → Mem → Prop) (hi : evI cs it env M = some (.fix (xs.map f), M)) (h0 : I 0 env M)
    (h : ∀ i (hi : i < xs.length) env M, I i env M → ∃ env1, evT t (.d (f xs[i])) env = some env1 ∧ ∃ o, evSs cs b env1 M = some o ∧ Turn (I (i + 1)) (After cs ss R) o)
    (hR : ∀ env M, I xs.length env M → ∃ o, evSs cs ss env M = some o ∧ R o) : ∃ o, evSs cs (.cons (.for t it b) ss) env M = some o ∧ R o := s_then (for_of I hi h0 h hR)
theorem s_whil {c : E} {b : Ss} (I : Nat → En → Mem → Prop) {n m : Nat}
    (h : ∀ m env M, I m env M → (tstB (evE cs c env M) = some (false, M) ∧ ∃ o, evSs cs ss env M = some o ∧ R o) ∨ (tstB (evE cs c env M) = some (true, M) ∧ ∃ o, evSs cs b env M = some o ∧ Turn (fun env2 M2 => ∃ m2, m2 < m ∧ I m2 env2 M2) (After cs ss R) o))
    (hm : m < n) (hI : I m env M) : ∃ o, evSs cs (.cons (.whil n c b) ss) env M = some o ∧ R o := s_then (whil_of I h hm hI)

/-! expressions -/
theorem ev_ifeP {r : Bool} (h : tstB (evE cs c env M) = some (r, M1)) (h2 : r = true → evE cs a env M1 = some (v, M2)) (h3 : r = false → evE cs b env M1 = some (u, M2)) : evE cs (.ife c a b) env M = some (if r = true then v else u, M2) := by
  simp only [evE, h, Option.bind_some]
  cases r with
  | true => simp [h2]
  | false => simp [h3]
theorem ev_andP {r q : Bool} (h : tstB (evE cs a env M) = some (r, M1)) (h2 : r = true → evE cs b env M1 = some (.d (.bool q), M1)) : evE cs (.and a b) env M = some (.d (.bool (r && q)), M1) := by
  simp only [evE, h, Option.bind_some]
  cases r with
  | true => simp [h2]
  | false => simp
theorem ev_orP {r q : Bool} (h : tstB (evE cs a env M) = some (r, M1)) (h2 : r = false → evE cs b env M1 = some (.d (.bool q), M1)) : evE cs (.or a b) env M = some (.d (.bool (r || q)), M1) := by
  simp only [evE, h, Option.bind_some]
  cases r with
  | true => simp
  | false => simp [h2]
theorem ev_isN (h : evE cs a env M = some (v, M1)) : evE cs (.isN a) env M = some (.d (.bool (isNV v)), M1) := by
  simp only [evE, h, Option.bind_some]
theorem ev_notN (h : evE cs a env M = some (v, M1)) : evE cs (.notN a) env M = some (.d (.bool (!isNV v)), M1) := by
  simp only [evE, h, Option.bind_some]
theorem ev_bl {x : Bool} : evE cs (.bl x) env M = some (.d (.bool x), M) := by simp only [evE]
theorem ev_str {x : String} : evE cs (.str x) env M = some (.d (.str (Str.ofString x)), M) := by simp only [evE]
theorem ev_con {x : String} {y : D} : evE cs (.con x y) env M = some (.d y, M) := by simp only [evE]
theorem ev_negP {k : Int} (h : evE cs a env M = some (.d (.int k), M1)) : evE cs (.neg a) env M = some (.d (.int (-k)), M1) := by simp only [evE, h, evNeg, Option.bind_some]
theorem ev_rev {r : Option (Vl × Mem)} (h : evE cs a env M = some (v, M1)) (h2 : evRev v M1 = r) : evE cs (.rev a) env M = r := by
  simp only [evE, h, Option.bind_some]
  exact h2
theorem ev_frz {r : Option (Vl × Mem)} (h : evE cs a env M = some (v, M1)) (h2 : evFrz v M1 = r) : evE cs (.frz a) env M = r := by
  simp only [evE, h, Option.bind_some]
  exact h2
theorem frz_at {i : Nat} {xs : List D} (h : M[i]? = some (.lst xs)) : evFrz (.m i) M = some (.d (.list xs), M.set i .gone) := by
  unfold evFrz
  dsimp only
  rw [h]
theorem frz_last {xs : List D} : evFrz (.m M.length) (M ++ [.lst xs]) = some (.d (.list xs), M ++ [.gone]) := by
  rw [frz_at (List.getElem?_concat_length ..)]
  simp
theorem ev_o0 : evO cs .no env M = some (none, M) := by simp only [evO]
theorem ev_o1 {k : Int} (h : evE cs a env M = some (.d (.int k), M1)) : evO cs (.so a) env M = some (some k, M1) := by simp only [evO, h, Option.bind_some, evPart]
theorem ev_slc {lo hi : Eo} {x y : Option Int} {r : Option (Vl × Mem)} (h : evE cs a env M = some (v, M1)) (h2 : evO cs lo env M1 = some (x, M2)) (h3 : evO cs hi env M2 = some (y, M3)) (h4 : evSlc v x y M3 = r) : evE cs (.slc a lo hi) env M = r := by
  simp only [evE, h, h2, h3, Option.bind_some]
  exact h4
theorem ev_new {es : Es} {vs : List Vl} {xs : List D} (h : evEs cs es env M = some (vs, M1)) (h2 : datasV vs = some xs) (h3 : xs.length ≤ big) : evE cs (.new es) env M = some (.m M1.length, M1 ++ [.lst xs]) := by
  simp only [evE, h, Option.bind_some, h2, if_pos h3]
theorem ev_newL {xs : List D} (h : evE cs e env M = some (v, M1)) (h2 : seqOf M1 v = some xs) : evE cs (.newL e) env M = some (.m M1.length, M1 ++ [.lst xs]) := by
  simp only [evE, h, Option.bind_some, h2, Option.map_some]
/-! what is walked -/
theorem iv_seq {s : Src} (h : evE cs e env M = some (v, M1)) (h2 : srcOf M1 v = some s) : evI cs (.seq e) env M = some (s, M1) := ev_seqv h h2
theorem iv_zip {s : Src} (h : evE cs a env M = some (v, M1)) (h2 : evE cs b env M1 = some (u, M2)) (h3 : zipOf v u = some s) : evI cs (.zip a b) env M = some (s, M2) := by
  simp only [evI, h, h2, h3, Option.bind_some, Option.map_some]
theorem iv_enum {s : Src} (h : evE cs a env M = some (v, M1)) (h3 : enumOf v = some s) : evI cs (.enum a) env M = some (s, M1) := by
  simp only [evI, h, h3, Option.bind_some, Option.map_some]
theorem iv_rng1 {k : Int} (h : evE cs e env M = some (.d (.int k), M1)) (h1 : -1000000 ≤ k) (h2 : k ≤ 1000000) : evI cs (.rng1 e) env M = some (.fix ((List.range k.toNat).map natD), M1) := rng1_ev h rfl h1 h2
abbrev intD (i : Int) : D := .int i
def rngI (i j : Int) : List Int := (List.range (j - i).toNat).map fun (k : Nat) => i + (k : Int)
theorem iv_rng2 {i j : Int} (h : evE cs a env M = some (.d (.int i), M1)) (h2 : evE cs b env M1 = some (.d (.int j), M2)) (a1 : -1000000 ≤ i) (a2 : i ≤ 1000000) (a3 : -1000000 ≤ j) (a4 : j ≤ 1000000) : evI cs (.rng2 a b) env M = some (.fix ((rngI i j).map intD), M2) := by
  simp only [evI, h, h2, Option.bind_some, evRng2]
  rw [rng_of a1 a2 a3 a4, Option.map_some]
  congr 3
  unfold rngI rngD
  rw [List.map_map]
  rfl
theorem pairD_zipg {α β : Type} {f : α → D} {g : β → D} : ∀ (xs : List α) (ys : List β), pairD (xs.map f) (ys.map g) = (xs.zip ys).map fun p => .tuple [f p.1, g p.2]
  | [], _ => by simp [pairD]
  | _ :: _, [] => by simp [pairD]
  | x :: xs, y :: ys => by
    rw [List.map_cons, List.map_cons, List.zip_cons_cons, List.map_cons]
    show _ :: pairD _ _ = _
    rw [pairD_zipg xs ys]
theorem zip_lm {α β : Type} {f : α → D} {g : β → D} {xs : List α} {ys : List β} : zipOf (.d (.list (xs.map f))) (.d (.list (ys.map g))) = some (.fix ((xs.zip ys).map fun p => .tuple [f p.1, g p.2])) := by
  rw [zip_l, pairD_zipg]
theorem zip_tm {α β : Type} {f : α → D} {g : β → D} {xs : List α} {ys : List β} : zipOf (.d (.tuple (xs.map f))) (.d (.tuple (ys.map g))) = some (.fix ((xs.zip ys).map fun p => .tuple [f p.1, g p.2])) := by
  rw [zip_t, pairD_zipg]
theorem enum_lm {α : Type} {f : α → D} {xs : List α} : enumOf (.d (.list (xs.map f))) = some (.fix (((List.range xs.length).zip xs).map fun p => .tuple [natD p.1, f p.2])) := by
  rw [enum_l, List.length_map, rng_map]
  show some (Src.fix (pairD ((List.range xs.length).map natD) _)) = _
  rw [pairD_zipg]
/-! slices -/
theorem sl_from {α : Type} {f : α → D} {xs : List α} {k : Nat} {i : Int} (h : i = (k : Int)) : evSlc (.d (.list (xs.map f))) (some i) none M = some (.d (.list ((xs.drop k).map f)), M) := by
  subst h
  rw [sl_l, show cutN (xs.map f) (some (k : Int)) none = (xs.map f).drop k from cut_from _ k, ← List.map_drop]
theorem sl_fromT {α : Type} {f : α → D} {xs : List α} {k : Nat} {i : Int} (h : i = (k : Int)) : evSlc (.d (.tuple (xs.map f))) (some i) none M = some (.d (.tuple ((xs.drop k).map f)), M) := by
  subst h
  rw [sl_t, show cutN (xs.map f) (some (k : Int)) none = (xs.map f).drop k from cut_from _ k, ← List.map_drop]
theorem rv_m {α : Type} {f : α → D} {xs : List α} : evRev (.d (.list (xs.map f))) M = some (.d (.list (xs.reverse.map f)), M) := by
  rw [rv_l, List.map_reverse]
/-! comprehensions -/
theorem kl_c {α β : Type} {g : α → D} (h : β → D) (r : α → β) (e : ∀ x, g x = h (r x)) (xs : List α) : xs.map g = (xs.map r).map h := by
  rw [List.map_map]
  exact List.map_congr_left fun x _ => e x
theorem cv_N {α : Type} {f : α → D} {xs : List α} {g : α → D} {L : List D} {own : List (String × Nat)} {t : T} {it : It} {en : α → En} (hi : evI cs it env M = some (.fix (xs.map f), M1)) (hl : xs.length ≤ big) (ht : ∀ x, evT t (.d (f x)) (wipeE env (own.map (·.2))) = some (en x))
    (he : ∀ x, x ∈ xs → ∀ M, evE cs e (en x) M = some (.d (g x), M)) (hk : xs.map g = L) : evE cs (.comp false own t it .no e) env M = some (.d (.list L), M1) := by
  have h : ∀ x ∈ xs, TurnIs cs t .no e (wipeE env (own.map (·.2))) f (fun x => some (g x)) x := fun x hx M => ⟨en x, true, ht x, by simp only [evC], (fun h => nomatch h), fun _ => ⟨g x, he x hx M, rfl⟩⟩
  simp only [evE, hi, Option.bind_some, compS]
  rw [compL_pure (g := fun x => some (g x)) xs [] M1 rfl (by simpa using hl) fun x hx M => (h x hx).step M]
  rw [List.nil_append, Option.bind_some, comp_end rfl, fm_all, hk]
  rfl
theorem cv_C {α : Type} {f : α → D} {xs : List α} {g : α → D} {p : α → Bool} {L : List D} {own : List (String × Nat)} {t : T} {it : It} {en : α → En} (hi : evI cs it env M = some (.fix (xs.map f), M1)) (hl : xs.length ≤ big) (ht : ∀ x, evT t (.d (f x)) (wipeE env (own.map (·.2))) = some (en x))
    (hc : ∀ x, x ∈ xs → ∀ M, tstB (evE cs c (en x) M) = some (p x, M)) (he : ∀ x, x ∈ xs → p x = true → ∀ M, evE cs e (en x) M = some (.d (g x), M)) (hk : (xs.filter p).map g = L) : evE cs (.comp false own t it (.so c) e) env M = some (.d (.list L), M1) := by
  have h : ∀ x ∈ xs, TurnIs cs t (.so c) e (wipeE env (own.map (·.2))) f (fun x => if p x = true then some (g x) else none) x := fun x hx M => ⟨en x, p x, ht x, by simp only [evC]; exact hc x hx M, fun h => by dsimp only; rw [h]; rfl, fun h => ⟨g x, he x hx h M, by dsimp only; rw [h]; rfl⟩⟩
  simp only [evE, hi, Option.bind_some, compS]
  rw [compL_pure (g := fun x => if p x = true then some (g x) else none) xs [] M1 rfl (by simpa using hl) fun x hx M => (h x hx).step M]
  rw [List.nil_append, Option.bind_some, comp_end rfl, fm_if, hk]
  rfl
/-- over an object that stands still -/
theorem cv_Nm {α : Type} {f : α → D} {xs : List α} {g : α → D} {L : List D} {own : List (String × Nat)} {t : T} {it : It} {en : α → En} {i : Nat} (hi : evI cs it env M = some (.dyn i, M1)) (hm : M1[i]? = some (.lst (xs.map f))) (hl : xs.length < 1000000) (ht : ∀ x, evT t (.d (f x)) (wipeE env (own.map (·.2))) = some (en x))
    (he : ∀ x, x ∈ xs → ∀ M, evE cs e (en x) M = some (.d (g x), M)) (hk : xs.map g = L) : evE cs (.comp false own t it .no e) env M = some (.d (.list L), M1) := by
  have h : ∀ x ∈ xs, TurnIs cs t .no e (wipeE env (own.map (·.2))) f (fun x => some (g x)) x := fun x hx M => ⟨en x, true, ht x, by simp only [evC], (fun h => nomatch h), fun _ => ⟨g x, he x hx M, rfl⟩⟩
  simp only [evE, hi, Option.bind_some, compS]
  rw [compD_pure (f := f) (g := fun x => some (g x)) M1 rfl hm hl (fun x hx M => (h x hx).step M) 1000000 0 [] (by omega) (by omega) (by simp [big]; omega)]
  rw [List.nil_append, Option.bind_some, comp_end rfl, List.drop_zero, fm_all, hk]
  rfl
theorem cv_Cm {α : Type} {f : α → D} {xs : List α} {g : α → D} {p : α → Bool} {L : List D} {own : List (String × Nat)} {t : T} {it : It} {en : α → En} {i : Nat} (hi : evI cs it env M = some (.dyn i, M1)) (hm : M1[i]? = some (.lst (xs.map f))) (hl : xs.length < 1000000) (ht : ∀ x, evT t (.d (f x)) (wipeE env (own.map (·.2))) = some (en x))
    (hc : ∀ x, x ∈ xs → ∀ M, tstB (evE cs c (en x) M) = some (p x, M)) (he : ∀ x, x ∈ xs → p x = true → ∀ M, evE cs e (en x) M = some (.d (g x), M)) (hk : (xs.filter p).map g = L) : evE cs (.comp false own t it (.so c) e) env M = some (.d (.list L), M1) := by
  have h : ∀ x ∈ xs, TurnIs cs t (.so c) e (wipeE env (own.map (·.2))) f (fun x => if p x = true then some (g x) else none) x := fun x hx M => ⟨en x, p x, ht x, by simp only [evC]; exact hc x hx M, fun h => by dsimp only; rw [h]; rfl, fun h => ⟨g x, he x hx h M, by dsimp only; rw [h]; rfl⟩⟩
  simp only [evE, hi, Option.bind_some, compS]
  rw [compD_pure (f := f) (g := fun x => if p x = true then some (g x) else none) M1 rfl hm hl (fun x hx M => (h x hx).step M) 1000000 0 [] (by omega) (by omega) (by simp [big]; omega)]
  rw [List.nil_append, Option.bind_some, comp_end rfl, List.drop_zero, fm_if, hk]
  rfl
/-- the same, kept as an object -/
theorem cv_Nk {α : Type} {f : α → D} {xs : List α} {g : α → D} {L : List D} {own : List (String × Nat)} {t : T} {it : It} {en : α → En} (hi : evI cs it env M = some (.fix (xs.map f), M1)) (hl : xs.length ≤ big) (ht : ∀ x, evT t (.d (f x)) (wipeE env (own.map (·.2))) = some (en x))
    (he : ∀ x, x ∈ xs → ∀ M, evE cs e (en x) M = some (.d (g x), M)) (hk : xs.map g = L) : evE cs (.comp true own t it .no e) env M = some (.m M1.length, M1 ++ [.lst L]) := by
  have h : ∀ x ∈ xs, TurnIs cs t .no e (wipeE env (own.map (·.2))) f (fun x => some (g x)) x := fun x hx M => ⟨en x, true, ht x, by simp only [evC], (fun h => nomatch h), fun _ => ⟨g x, he x hx M, rfl⟩⟩
  simp only [evE, hi, Option.bind_some, compS]
  rw [compL_pure (g := fun x => some (g x)) xs [] M1 rfl (by simpa using hl) fun x hx M => (h x hx).step M]
  rw [List.nil_append, Option.bind_some, comp_end rfl, fm_all, hk]
  rfl
end
/-! leaves -/
section
variable {M : Mem}
theorem len_lm {α : Type} {f : α → D} {xs : List α} : evBi .len [.d (.list (xs.map f))] M = some (.d (.int xs.length), M) := by rw [len_l, List.length_map]
theorem len_tm {α : Type} {f : α → D} {xs : List α} : evBi .len [.d (.tuple (xs.map f))] M = some (.d (.int xs.length), M) := by rw [len_t, List.length_map]
theorem tup_lm {xs : List D} : evBi .tuple [.d (.list xs)] M = some (.d (.tuple xs), M) := rfl
theorem eqv_nilT {α : Type} {f : α → D} (xs : List α) : PyData.eqv (.tuple (xs.map f)) (.tuple []) = xs.isEmpty := by
  simp only [PyData.eqv]
  cases xs <;> simp [PyData.eqvAll]
/-- data that may be compared: what is flat, with the plain equality -/
class Flt {α : Type} (f : α → D) : Prop where
  fl : ∀ n a, flatD (n + 8) (f a) = true
class Eqv {α : Type} [DecidableEq α] (f : α → D) : Prop where
  eq : ∀ a b, PyData.eqv (f a) (f b) = decide (a = b)
instance : Flt fr := ⟨fun n a => flat_fr a _⟩
instance : Eqv fr := ⟨eqv_fr⟩
instance : Flt Nm.d := ⟨fun n a => flat_nm a _⟩
instance : Eqv Nm.d := ⟨eqv_nm⟩
instance : Flt PyData.int := ⟨fun _ _ => rfl⟩
instance : Eqv PyData.int := ⟨eqv_int⟩
instance : Flt intD := ⟨fun _ _ => rfl⟩
instance : Eqv intD := ⟨eqv_int⟩
instance : Flt PyData.bool := ⟨fun _ _ => rfl⟩
instance : Eqv PyData.bool := ⟨fun a b => by cases a <;> cases b <;> rfl⟩
theorem eq_nil {α : Type} {f : α → D} [Flt f] {xs : List α} : evCmp .eq (.d (.list (xs.map f))) (.d (.list [])) M = some xs.isEmpty :=
  cmp_eq_of rfl rfl (by show flatD (19 + 1) _ = true; exact flat_map (fun a => Flt.fl 11 a) xs) rfl (eqv_nil xs)
theorem ne_nil {α : Type} {f : α → D} [Flt f] {xs : List α} : evCmp .ne (.d (.list (xs.map f))) (.d (.list [])) M = some (!xs.isEmpty) :=
  cmp_ne_of rfl rfl (by show flatD (19 + 1) _ = true; exact flat_map (fun a => Flt.fl 11 a) xs) rfl (eqv_nil xs)
theorem eq_nilm {α : Type} {f : α → D} {xs : List α} {i : Nat} (h : M[i]? = some (.lst (xs.map f))) (_ : Flt f) : evCmp .eq (.m i) (.d (.list [])) M = some xs.isEmpty :=
  cmp_eq_of (dat_m h) rfl (by show flatD (19 + 1) _ = true; exact flat_map (fun a => Flt.fl 11 a) xs) rfl (eqv_nil xs)
theorem ne_nilm {α : Type} {f : α → D} {xs : List α} {i : Nat} (h : M[i]? = some (.lst (xs.map f))) (_ : Flt f) : evCmp .ne (.m i) (.d (.list [])) M = some (!xs.isEmpty) :=
  cmp_ne_of (dat_m h) rfl (by show flatD (19 + 1) _ = true; exact flat_map (fun a => Flt.fl 11 a) xs) rfl (eqv_nil xs)
theorem eq_nilT {α : Type} {f : α → D} [Flt f] {xs : List α} : evCmp .eq (.d (.tuple (xs.map f))) (.d (.tuple [])) M = some xs.isEmpty :=
  cmp_eq_of rfl rfl (by show flatD (19 + 1) _ = true; exact flat_map (fun a => Flt.fl 11 a) xs) rfl (eqv_nilT xs)
theorem ne_nilT {α : Type} {f : α → D} [Flt f] {xs : List α} : evCmp .ne (.d (.tuple (xs.map f))) (.d (.tuple [])) M = some (!xs.isEmpty) :=
  cmp_ne_of rfl rfl (by show flatD (19 + 1) _ = true; exact flat_map (fun a => Flt.fl 11 a) xs) rfl (eqv_nilT xs)
theorem eq_x {α : Type} [DecidableEq α] {f : α → D} [Flt f] [Eqv f] {a b : α} : evCmp .eq (.d (f a)) (.d (f b)) M = some (decide (a = b)) := cmp_eq_of rfl rfl (Flt.fl 12 a) (Flt.fl 12 b) (Eqv.eq a b)
theorem ne_x {α : Type} [DecidableEq α] {f : α → D} [Flt f] [Eqv f] {a b : α} : evCmp .ne (.d (f a)) (.d (f b)) M = some (!decide (a = b)) := cmp_ne_of rfl rfl (Flt.fl 12 a) (Flt.fl 12 b) (Eqv.eq a b)
theorem eq_xl {α : Type} [DecidableEq α] {f : α → D} [Flt f] [Eqv f] {a b : List α} : evCmp .eq (.d (.list (a.map f))) (.d (.list (b.map f))) M = some (decide (a = b)) :=
  cmp_eq_of rfl rfl (by show flatD (19 + 1) _ = true; exact flat_map (fun a => Flt.fl 11 a) a) (by show flatD (19 + 1) _ = true; exact flat_map (fun a => Flt.fl 11 a) b) (by simp only [PyData.eqv]; exact eqvAll_by Eqv.eq a b)
theorem ne_xl {α : Type} [DecidableEq α] {f : α → D} [Flt f] [Eqv f] {a b : List α} : evCmp .ne (.d (.list (a.map f))) (.d (.list (b.map f))) M = some (!decide (a = b)) :=
  cmp_ne_of rfl rfl (by show flatD (19 + 1) _ = true; exact flat_map (fun a => Flt.fl 11 a) a) (by show flatD (19 + 1) _ = true; exact flat_map (fun a => Flt.fl 11 a) b) (by simp only [PyData.eqv]; exact eqvAll_by Eqv.eq a b)
theorem ne_xm {α : Type} [DecidableEq α] {f : α → D} {a b : List α} {i : Nat} (h : M[i]? = some (.lst (b.map f))) (_ : Flt f) (_ : Eqv f) : evCmp .ne (.d (.list (a.map f))) (.m i) M = some (!decide (a = b)) :=
  cmp_ne_of rfl (dat_m h) (by show flatD (19 + 1) _ = true; exact flat_map (fun a => Flt.fl 11 a) a) (by show flatD (19 + 1) _ = true; exact flat_map (fun a => Flt.fl 11 a) b) (by simp only [PyData.eqv]; exact eqvAll_by Eqv.eq a b)
theorem ne_mx {α : Type} [DecidableEq α] {f : α → D} {a b : List α} {i : Nat} (h : M[i]? = some (.lst (a.map f))) (_ : Flt f) (_ : Eqv f) : evCmp .ne (.m i) (.d (.list (b.map f))) M = some (!decide (a = b)) :=
  cmp_ne_of (dat_m h) rfl (by show flatD (19 + 1) _ = true; exact flat_map (fun a => Flt.fl 11 a) a) (by show flatD (19 + 1) _ = true; exact flat_map (fun a => Flt.fl 11 a) b) (by simp only [PyData.eqv]; exact eqvAll_by Eqv.eq a b)
theorem mem_l {α : Type} [DecidableEq α] {f : α → D} [Flt f] [Eqv f] {x : α} {xs : List α} : evCmp .mem (.d (f x)) (.d (.list (xs.map f))) M = some (decide (x ∈ xs)) := mem_of Eqv.eq (fun a => Flt.fl 12 a) (.inl rfl)
theorem mem_t {α : Type} [DecidableEq α] {f : α → D} [Flt f] [Eqv f] {x : α} {xs : List α} : evCmp .mem (.d (f x)) (.d (.tuple (xs.map f))) M = some (decide (x ∈ xs)) := mem_of Eqv.eq (fun a => Flt.fl 12 a) (.inr rfl)
theorem nmem_l {α : Type} [DecidableEq α] {f : α → D} [Flt f] [Eqv f] {x : α} {xs : List α} : evCmp .nmem (.d (f x)) (.d (.list (xs.map f))) M = some (!decide (x ∈ xs)) := nmem_of Eqv.eq (fun a => Flt.fl 12 a) (.inl rfl)
theorem nmem_t {α : Type} [DecidableEq α] {f : α → D} [Flt f] [Eqv f] {x : α} {xs : List α} : evCmp .nmem (.d (f x)) (.d (.tuple (xs.map f))) M = some (!decide (x ∈ xs)) := nmem_of Eqv.eq (fun a => Flt.fl 12 a) (.inr rfl)
theorem mem_m {α : Type} [DecidableEq α] {f : α → D} {x : α} {xs : List α} {i : Nat} (h : M[i]? = some (.lst (xs.map f))) (_ : Flt f) (_ : Eqv f) : evCmp .mem (.d (f x)) (.m i) M = some (decide (x ∈ xs)) := mem_of Eqv.eq (fun a => Flt.fl 12 a) (.inl (dat_m h))
theorem ix_first {α : Type} {f : α → D} {xs : List α} {x : α} (h : xs.head? = some x) : evIdx (.d (.list (xs.map f))) (.d (.int 0)) M = some (.d (f x), M) := by
  rw [ix_l, show L2.atI (xs.map f) 0 = some (f x) from at_map (k := 0) (x := x) (by rw [← List.head?_eq_getElem?]; exact h)]
  rfl
theorem ix_last {α : Type} {f : α → D} {xs : List α} {x : α} (h : xs.getLast? = some x) : evIdx (.d (.list (xs.map f))) (.d (.int (-1))) M = some (.d (f x), M) := by
  rw [ix_l, last_split h, last_at]
  rfl
theorem ix_k {α : Type} {f : α → D} {xs : List α} {x : α} {k : Nat} {i : Int} (hi : i = (k : Int)) (h : xs[k]? = some x) : evIdx (.d (.list (xs.map f))) (.d (.int i)) M = some (.d (f x), M) := by
  subst hi
  rw [ix_l, at_map h]
  rfl
theorem ix_kT {α : Type} {f : α → D} {xs : List α} {x : α} {k : Nat} {i : Int} (hi : i = (k : Int)) (h : xs[k]? = some x) : evIdx (.d (.tuple (xs.map f))) (.d (.int i)) M = some (.d (f x), M) := by
  subst hi
  rw [ix_t, at_map h]
  rfl
theorem nat_succ (i : Nat) : (i : Int) + 1 = ((i + 1 : Nat) : Int) := rfl
theorem nat_pred (i : Nat) (h : 0 < i) : (i : Int) - 1 = ((i - 1 : Nat) : Int) := by omega
theorem len_sites {ss : List Site} : evBi .len [.d (sitesD ss)] M = some (.d (.int ss.length), M) := by rw [sitesD, len_l, List.length_map]
theorem sp_get {ss : List Site} {i : Nat} (h : i < ss.length) : (spds ss)[i]? = some (spd ss i) := by
  unfold spds
  rw [List.getElem?_map, List.getElem?_range h]
  rfl
theorem wd_w {w : Wd} : evIdx (.d (wD w)) (.d (.int 0)) M = some (.d (.tuple (w.ws.map wkD)), M) := rfl
theorem wd_p {w : Wd} : evIdx (.d (wD w)) (.d (.int 1)) M = some (.d (.tuple (w.ps.map fr)), M) := rfl
theorem st_t {x : Rat × List Site} : evIdx (.d (stD x)) (.d (.int 0)) M = some (.d (fr x.1), M) := rfl
theorem st_s {x : Rat × List Site} : evIdx (.d (stD x)) (.d (.int 1)) M = some (.d (sitesD x.2), M) := rfl
theorem i2_0 {a b : D} : evIdx (.d (.tuple [a, b])) (.d (.int 0)) M = some (.d a, M) := rfl
theorem i2_1 {a b : D} : evIdx (.d (.tuple [a, b])) (.d (.int 1)) M = some (.d b, M) := rfl
theorem i3_0 {a b c : D} : evIdx (.d (.tuple [a, b, c])) (.d (.int 0)) M = some (.d a, M) := rfl
theorem i3_1 {a b c : D} : evIdx (.d (.tuple [a, b, c])) (.d (.int 1)) M = some (.d b, M) := rfl
theorem i3_2 {a b c : D} : evIdx (.d (.tuple [a, b, c])) (.d (.int 2)) M = some (.d c, M) := rfl
theorem pt_0 {x : Rat × Rat} : evIdx (.d (ptD x)) (.d (.int 0)) M = some (.d (fr x.1), M) := rfl
theorem pt_1 {x : Rat × Rat} : evIdx (.d (ptD x)) (.d (.int 1)) M = some (.d (fr x.2), M) := rfl
theorem app_m {α : Type} {f : α → D} {xs : List α} {x : α} {i : Nat} (h : M[i]? = some (.lst (xs.map f))) (hl : xs.length < big) : evMt .append (.m i) [.d (f x)] M = some (M.set i (.lst ((xs ++ [x]).map f))) := by
  unfold evMt
  dsimp only
  rw [h]
  unfold mtL
  dsimp only
  rw [if_pos (by rw [List.length_map]; exact hl), List.map_append]
  rfl
theorem get_app {i : Nat} {c d : Cl} (h : M[i]? = some c) : (M ++ [d])[i]? = some c := by
  rw [List.getElem?_append_left (List.getElem?_eq_some_iff.mp h).1]
  exact h
theorem get_new {d : Cl} : (M ++ [d])[M.length]? = some d := List.getElem?_concat_length ..
theorem get_set {i : Nat} {c d : Cl} (h : M[i]? = some c) : (M.set i d)[i]? = some d := List.getElem?_set_self (List.getElem?_eq_some_iff.mp h).1
theorem get_setn {i j : Nat} {c d : Cl} (h : M[i]? = some c) (hij : j ≠ i) : (M.set j d)[i]? = some c := by
  rw [List.getElem?_set_ne hij]
  exact h
theorem ev_ho {cs : List Fn} {env : En} : evE cs (.tup (.cons (.int 1) (.cons (.int 2) .nil))) env M = some (.d (fr (1 / 2)), M) := by
  have e : fr (1 / 2) = .tuple [.int 1, .int 2] := by
    unfold fr
    rw [show (1 / 2 : Rat).num = 1 from by decide +kernel, show (1 / 2 : Rat).den = 2 from by decide +kernel]
    rfl
  rw [e]
  exact ev_tup (ev_es2 ev_int ev_int) rfl (by decide)
theorem ev_zo {cs : List Fn} {env : En} : evE cs (.tup (.cons (.int 0) (.cons (.int 1) .nil))) env M = some (.d (fr 0), M) := ev_tup (ev_es2 ev_int ev_int) rfl (by decide)
theorem ev_73 {cs : List Fn} {env : En} : evE cs (.tup (.cons (.int 7) (.cons (.int 3) .nil))) env M = some (.d (fr (7 / 3)), M) := by
  have e : fr (7 / 3) = .tuple [.int 7, .int 3] := by
    unfold fr
    rw [show (7 / 3 : Rat).num = 7 from by decide +kernel, show (7 / 3 : Rat).den = 3 from by decide +kernel]
    rfl
  rw [e]
  exact ev_tup (ev_es2 ev_int ev_int) rfl (by decide)
theorem fr_int (k : Int) : PyData.tuple [.int k, .int 1] = fr (k : Rat) := by
  unfold fr
  rw [Rat.num_intCast, Rat.den_intCast]
  rfl
theorem ev_io {cs : List Fn} {env : En} {e : E} {M1 : Mem} {k : Int} (h : evE cs e env M = some (.d (.int k), M1)) : evE cs (.tup (.cons e (.cons (.int 1) .nil))) env M = some (.d (fr (k : Rat)), M1) := by
  rw [← fr_int]
  exact ev_tup (ev_es2 h ev_int) rfl (by simp [big])
theorem ev_oi {cs : List Fn} {env : En} {e : E} {M1 : Mem} {k : Int} (h : evE cs e env M = some (.d (.int k), M1)) (hk : 0 < k) : evE cs (.tup (.cons (.int 1) (.cons e .nil))) env M = some (.d (fr (1 / (k : Rat))), M1) := by
  have e2 : fr (1 / (k : Rat)) = .tuple [.int 1, .int k] := by
    have h1 : (1 / (k : Rat)) = mkRat 1 k.toNat := by
      rw [Rat.mkRat_eq_div]
      congr 1
      · rw [← Rat.intCast_natCast]
        congr 1
        omega
    rw [h1]
    unfold fr
    rw [Rat.num_mkRat, Rat.den_mkRat, if_neg (by omega), if_neg (by omega)]
    simp
    omega
  rw [e2]
  exact ev_tup (ev_es2 ev_int h) rfl (by simp [big])
end
local macro_rules | `(tactic| array_mem_dec) => `(tactic| with_reducible exact len_sites)
local macro_rules | `(tactic| sizeOf_list_dec) => `(tactic| ((with_reducible apply speeds_of_run) <;> bv_omega))
local macro_rules | `(tactic| sizeOf_list_dec) => `(tactic| ((with_reducible apply plus_run) <;> bv_omega))
local macro_rules | `(tactic| sizeOf_list_dec) => `(tactic| ((with_reducible apply minus_run) <;> bv_omega))
local macro_rules | `(tactic| sizeOf_list_dec) => `(tactic| ((with_reducible apply times_run) <;> bv_omega))
local macro_rules | `(tactic| sizeOf_list_dec) => `(tactic| ((with_reducible apply less_run) <;> bv_omega))
local macro_rules | `(tactic| sizeOf_list_dec) => `(tactic| ((with_reducible apply ascending_run) <;> bv_omega))
local macro_rules | `(tactic| sizeOf_list_dec) => `(tactic| ((with_reducible apply speed_of_run) <;> bv_omega))
local macro_rules | `(tactic| sizeOf_list_dec) => `(tactic| ((with_reducible apply law_plus_run) <;> bv_omega))
local macro_rules | `(tactic| sizeOf_list_dec) => `(tactic| ((with_reducible apply law_minus_run) <;> bv_omega))
local macro_rules | `(tactic| sizeOf_list_dec) => `(tactic| ((with_reducible apply law_times_run) <;> bv_omega))
local macro_rules | `(tactic| sizeOf_list_dec) => `(tactic| ((with_reducible apply law_less_run) <;> bv_omega))
local macro_rules | `(tactic| sizeOf_list_dec) => `(tactic| ((with_reducible apply ordered_run) <;> bv_omega))
local macro_rules | `(tactic| sizeOf_list_dec) => `(tactic| ((with_reducible apply law_names_run) <;> bv_omega))
local macro_rules | `(tactic| sizeOf_list_dec) => `(tactic| ((with_reducible apply names_of_run) <;> bv_omega))
local macro_rules | `(tactic| sizeOf_list_dec) => `(tactic| ((with_reducible apply require_world_run) <;> bv_omega))
local macro_rules | `(tactic| sizeOf_list_dec) => `(tactic| ((with_reducible apply require_time_run) <;> bv_omega))
local macro_rules | `(tactic| sizeOf_list_dec) => `(tactic| ((with_reducible apply require_name_run) <;> bv_omega))
end NW

set_option Elab.async false
set_option linter.all false
set_option maxRecDepth 100000
set_option maxHeartbeats 4000000
set_option exponentiation.threshold 100000
/-! Where each walker is, along a history. -/
namespace NW
open PySem

structure SI (w : Wd) (ss : List Site) : Prop where
  asc : AscS ss
  po : ∀ q, (∃ s ∈ ss, s.p = q ∧ s.post = true) ↔ q ∈ w.ps
  one : ∀ x ∈ w.ws, ∃ s ∈ ss, x.1 ∈ s.ns
  uni : ∀ x ∈ w.ws, ∀ s ∈ ss, ∀ s' ∈ ss, x.1 ∈ s.ns → x.1 ∈ s'.ns → s.p = s'.p
  occ : ∀ s ∈ ss, s.post = true ∨ ∃ x ∈ w.ws, x.1 ∈ s.ns
  own : ∀ s ∈ ss, ∀ n ∈ s.ns, n ∈ w.ws.map (·.1)
section
variable {w : Wd} {ss : List Site}
theorem si0 (hd : w.ws.Pairwise fun x y => x.1 ≠ y.1) : SI w (sites0 w) := by
  have inj : ∀ x ∈ w.ws, ∀ y ∈ w.ws, x.1 = y.1 → x = y := by
    intro x hx y hy e
    obtain ⟨i, hi, rfl⟩ := List.getElem_of_mem hx
    obtain ⟨j, hj, rfl⟩ := List.getElem_of_mem hy
    have h := List.pairwise_iff_getElem.mp hd
    rcases Nat.lt_trichotomy i j with h1 | h1 | h1
    · exact absurd e (h i j hi hj h1)
    · subst h1
      rfl
    · exact absurd e.symm (h j i hj hi h1)
  have mem : ∀ s ∈ sites0 w, s.p ∈ allP w ∧ s = ⟨s.p, (w.ws.filter fun x => decide (x.2 = s.p)).map (·.1), decide (s.p ∈ w.ps)⟩ := fun s hs => by
    unfold sites0 at hs
    obtain ⟨p, hp, rfl⟩ := List.mem_map.mp hs
    exact ⟨mem_asc.mp hp, rfl⟩
  have nsm : ∀ s ∈ sites0 w, ∀ n, n ∈ s.ns ↔ ∃ x ∈ w.ws, x.2 = s.p ∧ x.1 = n := fun s hs n => by
    rw [(mem s hs).2]
    dsimp only
    rw [List.mem_map]
    constructor
    · rintro ⟨x, hx, rfl⟩
      obtain ⟨h1, h2⟩ := List.mem_filter.mp hx
      exact ⟨x, h1, by simpa using h2, rfl⟩
    · rintro ⟨x, h1, h2, rfl⟩
      exact ⟨x, List.mem_filter.mpr ⟨h1, by simpa using h2⟩, rfl⟩
  refine ⟨by show Asc _; rw [sites0_p]; exact asc_asc _, fun q => ?_, fun x hx => allin0 w x hx, fun x hx s hs s' hs' h1 h2 => ?_, fun s hs => ?_, fun s hs n hn => ?_⟩
  · constructor
    · rintro ⟨s, hs, rfl, h⟩
      rw [(mem s hs).2] at h
      simpa using h
    · intro hq
      refine ⟨⟨q, (w.ws.filter fun y => decide (y.2 = q)).map (·.1), decide (q ∈ w.ps)⟩, ?_, rfl, by simpa using hq⟩
      exact List.mem_map_of_mem (f := fun p => (⟨p, (w.ws.filter fun y => decide (y.2 = p)).map (·.1), decide (p ∈ w.ps)⟩ : Site)) (mem_asc.mpr (List.mem_append_right _ hq))
  · obtain ⟨y, hy, e1, e2⟩ := (nsm s hs x.1).mp h1
    obtain ⟨z, hz, e3, e4⟩ := (nsm s' hs' x.1).mp h2
    have := inj y hy x hx e2
    have := inj z hz x hx e4
    subst_vars
    rw [← e1, ← e3]
  · have h1 := (mem s hs).1
    rcases List.mem_append.mp h1 with h | h
    · obtain ⟨x, hx, e⟩ := List.mem_map.mp h
      exact .inr ⟨x, hx, (nsm s hs x.1).mpr ⟨x, hx, e, rfl⟩⟩
    · refine .inl ?_
      rw [(mem s hs).2]
      simpa using h
  · obtain ⟨x, hx, _, rfl⟩ := (nsm s hs n).mp hn
    exact List.mem_map_of_mem hx
/-- where a walker is -/
theorem si_pos (h : SI w ss) {x : Nm × Rat} (hx : x ∈ w.ws) : plc ss x.1 < ss.length ∧ ∀ s ∈ ss, x.1 ∈ s.ns → s.p = pos ss (plc ss x.1) := by
  have hp := place_some (h.one x hx)
  have hl := place_lt hp
  refine ⟨hl, fun s hs hn => ?_⟩
  have hh := place_has hp
  rw [sAt_at hl] at hh
  rw [pos_at hl]
  exact h.uni x hx s hs _ (List.getElem_mem hl) hn hh
theorem spd_post {i : Nat} (h : isPost ss i = true) : spd ss i = 0 := by
  unfold spd
  rw [if_pos (.inl h)]
theorem shift_at {v : Rat} {i : Nat} (h : i < ss.length) : (⟨qs ss v i, ss[i].ns, ss[i].post⟩ : Site) ∈ shiftS ss v := by
  unfold shiftS
  refine List.mem_map.mpr ⟨i, List.mem_range.mpr h, ?_⟩
  rw [sAt_at h]
  unfold qs
  rw [pos_at h]
theorem shift_of {v : Rat} {y : Site} (h : y ∈ shiftS ss v) : ∃ i, ∃ hi : i < ss.length, y = ⟨qs ss v i, ss[i].ns, ss[i].post⟩ := by
  unfold shiftS at h
  obtain ⟨i, hi, rfl⟩ := List.mem_map.mp h
  have hi := List.mem_range.mp hi
  refine ⟨i, hi, ?_⟩
  rw [sAt_at hi]
  unfold qs
  rw [pos_at hi]
theorem idx_of_pos (ha : AscS ss) {i j : Nat} (hi : i < ss.length) (hj : j < ss.length) (h : pos ss i = pos ss j) : i = j := by
  rcases Nat.lt_trichotomy i j with h1 | h1 | h1
  · have := asc_lt ha h1 hj
    grind
  · exact h1
  · have := asc_lt ha h1 hi
    grind
/-- a move within a contact-free time keeps it all; each walker goes its way -/
theorem si_move (h : SI w ss) {v : Rat} (hm : ∀ i, i + 1 < ss.length → qs ss v i ≤ qs ss v (i + 1)) :
    SI w (moveS ss v) ∧ ∀ x ∈ w.ws, pos (moveS ss v) (plc (moveS ss v) x.1) = qs ss v (plc ss x.1) := by
  have hs := shift_sorted hm
  have hM := mg_all hs
  have up : ∀ y ∈ shiftS ss v, ∃ z ∈ moveS ss v, z.p = y.p := fun y hy => by
    obtain ⟨z, hz, e⟩ := List.mem_map.mp ((hM.mem y.p).mpr (List.mem_map_of_mem hy))
    exact ⟨z, hz, e⟩
  have down : ∀ z ∈ moveS ss v, ∃ y ∈ shiftS ss v, y.p = z.p := fun z hz => by
    obtain ⟨y, hy, e⟩ := List.mem_map.mp ((hM.mem z.p).mp (List.mem_map_of_mem hz))
    exact ⟨y, hy, e⟩
  have wh : ∀ x ∈ w.ws, ∀ y ∈ shiftS ss v, x.1 ∈ y.ns → y.p = qs ss v (plc ss x.1) := fun x hx y hy hn => by
    obtain ⟨i, hi, rfl⟩ := shift_of hy
    dsimp only at hn ⊢
    have h1 := (si_pos h hx).2 _ (List.getElem_mem hi) hn
    rw [← pos_at hi] at h1
    rw [idx_of_pos h.asc hi (si_pos h hx).1 h1]
  have key : SI w (moveS ss v) := by
    refine ⟨hM.asc, fun q => ?_, fun x hx => ?_, fun x hx s hs1 s' hs2 h1 h2 => ?_, fun s hs1 => ?_, fun s hs1 n hn => ?_⟩
    · rw [← h.po q]
      constructor
      · rintro ⟨z, hz, rfl, hp⟩
        obtain ⟨y, hy, e, hp2⟩ := (hM.po z hz).mp hp
        obtain ⟨i, hi, rfl⟩ := shift_of hy
        have h0 : spd ss i = 0 := spd_post (by rw [isPost_at hi]; exact hp2)
        refine ⟨ss[i], List.getElem_mem hi, ?_, hp2⟩
        rw [← e]
        show _ = qs ss v i
        unfold qs
        rw [h0, pos_at hi]
        simp
        grind
      · rintro ⟨s, hs1, rfl, hp⟩
        obtain ⟨i, hi, rfl⟩ := List.getElem_of_mem hs1
        have h0 : spd ss i = 0 := spd_post (by rw [isPost_at hi]; exact hp)
        obtain ⟨z, hz, e⟩ := up _ (shift_at (v := v) hi)
        refine ⟨z, hz, ?_, (hM.po z hz).mpr ⟨_, shift_at hi, e.symm, hp⟩⟩
        rw [e]
        show qs ss v i = _
        unfold qs
        rw [h0, pos_at hi]
        simp
        grind
    · exact allin_move hs h.one x hx
    · obtain ⟨y, hy, e1, hn1⟩ := (hM.ns s hs1 x.1).mp h1
      obtain ⟨y', hy', e2, hn2⟩ := (hM.ns s' hs2 x.1).mp h2
      rw [← e1, ← e2, wh x hx y hy hn1, wh x hx y' hy' hn2]
    · obtain ⟨y, hy, e⟩ := down s hs1
      obtain ⟨i, hi, rfl⟩ := shift_of hy
      rcases h.occ _ (List.getElem_mem hi) with hp | ⟨x, hx, hn⟩
      · exact .inl ((hM.po s hs1).mpr ⟨_, hy, e, hp⟩)
      · exact .inr ⟨x, hx, (hM.ns s hs1 x.1).mpr ⟨_, hy, e, hn⟩⟩
    · obtain ⟨y, hy, _, hn2⟩ := (hM.ns s hs1 n).mp hn
      obtain ⟨i, hi, rfl⟩ := shift_of hy
      exact h.own _ (List.getElem_mem hi) n hn2
  refine ⟨key, fun x hx => ?_⟩
  obtain ⟨s, hs1, hn⟩ := h.one x hx
  obtain ⟨i, hi, rfl⟩ := List.getElem_of_mem hs1
  obtain ⟨z, hz, e⟩ := up _ (shift_at (v := v) hi)
  have hz2 : x.1 ∈ z.ns := (hM.ns z hz x.1).mpr ⟨_, shift_at hi, e.symm, hn⟩
  have h1 := (si_pos key hx).2 z hz hz2
  rw [← h1, e]
  exact wh x hx _ (shift_at hi) hn
/-- the occupied positions -/
theorem si_places (h : SI w ss) : asc (w.ws.map (fun x => pos ss (plc ss x.1)) ++ w.ps) = ss.map (·.p) := by
  have ext : ∀ (a b : List Rat), Asc a → Asc b → (∀ q, q ∈ a ↔ q ∈ b) → a = b := by
    intro a
    induction a with
    | nil =>
      intro b _ _ hm
      cases b with
      | nil => rfl
      | cons y b =>
        have := (hm y).mpr List.mem_cons_self
        cases this
    | cons x a ih =>
      intro b ha hb hm
      cases b with
      | nil =>
        have := (hm x).mp List.mem_cons_self
        cases this
      | cons y b =>
        obtain ⟨a1, a2⟩ := List.pairwise_cons.mp ha
        obtain ⟨b1, b2⟩ := List.pairwise_cons.mp hb
        have hxy : x = y := by
          rcases List.mem_cons.mp ((hm x).mp List.mem_cons_self) with e | e
          · exact e
          · rcases List.mem_cons.mp ((hm y).mpr List.mem_cons_self) with e2 | e2
            · exact e2.symm
            · have := b1 x e
              have := a1 y e2
              grind
        subst hxy
        rw [ih b a2 b2 fun q => ?_]
        have := hm q
        rw [List.mem_cons, List.mem_cons] at this
        constructor
        · intro hq
          rcases this.mp (.inr hq) with e | e
          · subst e
            have := a1 q hq
            grind
          · exact e
        · intro hq
          rcases this.mpr (.inr hq) with e | e
          · subst e
            have := b1 q hq
            grind
          · exact e
  refine ext _ _ (asc_asc _) h.asc fun q => ?_
  rw [mem_asc, List.mem_append]
  constructor
  · rintro (hq | hq)
    · obtain ⟨x, hx, rfl⟩ := List.mem_map.mp hq
      exact pos_mem (si_pos h hx).1
    · obtain ⟨s, hs, rfl, _⟩ := (h.po q).mpr hq
      exact List.mem_map_of_mem hs
  · intro hq
    obtain ⟨s, hs, rfl⟩ := List.mem_map.mp hq
    rcases h.occ s hs with hp | ⟨x, hx, hn⟩
    · exact .inr ((h.po s.p).mp ⟨s, hs, rfl, hp⟩)
    · exact .inl (List.mem_map.mpr ⟨x, hx, ((si_pos h hx).2 s hs hn).symm⟩)
end
end NW

set_option Elab.async false
set_option linter.all false
set_option maxRecDepth 100000
set_option maxHeartbeats 4000000
set_option exponentiation.threshold 100000
/-! The laws' own simulation, plainly: speeds, waits. -/
namespace NW
open PySem

def loOf (pl : List Rat) (q : Rat) : List Rat := pl.filter fun x => decide (x < q)
def hiOf (pl : List Rat) (q : Rat) : List Rat := pl.filter fun x => decide (q < x)
theorem asc_loOf : ∀ {l : List Rat}, Asc l → ∀ {i : Nat} (hi : i < l.length), loOf l l[i] = l.take i
  | a :: l, h, 0, hi => by
    obtain ⟨h1, h2⟩ := List.pairwise_cons.mp h
    unfold loOf
    rw [List.getElem_cons_zero, List.take_zero, List.filter_eq_nil_iff]
    intro b hb
    rcases List.mem_cons.mp hb with rfl | hb
    · simp
    · have := h1 b hb
      simp
      grind
  | a :: l, h, i + 1, hi => by
    obtain ⟨h1, h2⟩ := List.pairwise_cons.mp h
    have hi2 : i < l.length := by simpa using hi
    have h3 := h1 l[i] (List.getElem_mem hi2)
    have ih := asc_loOf h2 hi2
    unfold loOf at ih ⊢
    rw [List.getElem_cons_succ, List.take_succ_cons, List.filter_cons_of_pos (by simpa using h3), ih]
theorem asc_hiOf : ∀ {l : List Rat}, Asc l → ∀ {i : Nat} (hi : i < l.length), hiOf l l[i] = l.drop (i + 1)
  | a :: l, h, 0, hi => by
    obtain ⟨h1, h2⟩ := List.pairwise_cons.mp h
    unfold hiOf
    rw [List.getElem_cons_zero, List.filter_cons_of_neg (by simp)]
    show _ = l
    rw [List.filter_eq_self]
    intro b hb
    have := h1 b hb
    simpa using this
  | a :: l, h, i + 1, hi => by
    obtain ⟨h1, h2⟩ := List.pairwise_cons.mp h
    have hi2 : i < l.length := by simpa using hi
    have h3 := h1 l[i] (List.getElem_mem hi2)
    have ih := asc_hiOf h2 hi2
    unfold hiOf at ih ⊢
    have h4 : ¬ l[i] < a := by grind
    rw [List.getElem_cons_succ, List.drop_succ_cons, List.filter_cons_of_neg (by simpa using h4), ih]
/-- the speed at a place, as the laws say it -/
def lsp (pl ps : List Rat) (q : Rat) : Int :=
  if q ∈ ps ∨ (loOf pl q = [] ∧ hiOf pl q = []) then 0
  else if loOf pl q = [] ∨ hiOf pl q = [] then (if loOf pl q = [] then 1 else -1)
  else if q - (loOf pl q).getLast?.getD 0 < (hiOf pl q).head?.getD 0 - q then -1 else 1
def plsOf (ss : List Site) : List Rat := ss.map (·.p)
section
variable {w : Wd} {ss : List Site}
theorem si_post (h : SI w ss) {i : Nat} (hi : i < ss.length) : pos ss i ∈ w.ps ↔ isPost ss i = true := by
  rw [← h.po (pos ss i), isPost_at hi]
  constructor
  · rintro ⟨s, hs, e, hp⟩
    obtain ⟨j, hj, rfl⟩ := List.getElem_of_mem hs
    have : j = i := idx_of_pos h.asc hj hi (by rw [pos_at hj]; exact e)
    subst this
    exact hp
  · intro hp
    exact ⟨ss[i], List.getElem_mem hi, (pos_at hi).symm, hp⟩
theorem lo_at (h : SI w ss) {i : Nat} (hi : i < ss.length) : loOf (plsOf ss) (pos ss i) = (plsOf ss).take i := by
  rw [pos_map hi]
  exact asc_loOf h.asc _
theorem hi_at (h : SI w ss) {i : Nat} (hi : i < ss.length) : hiOf (plsOf ss) (pos ss i) = (plsOf ss).drop (i + 1) := by
  rw [pos_map hi]
  exact asc_hiOf h.asc _
theorem pls_len : (plsOf ss).length = ss.length := List.length_map ..
theorem pls_get {i : Nat} (hi : i < ss.length) : (plsOf ss)[i]? = some (pos ss i) := by
  rw [List.getElem?_eq_getElem (by rw [pls_len]; exact hi), pos_map hi]
  rfl
theorem lsp_spd (h : SI w ss) {i : Nat} (hi : i < ss.length) : lsp (plsOf ss) w.ps (pos ss i) = spd ss i := by
  have e1 : (plsOf ss).take i = [] ↔ i = 0 := by
    rw [List.take_eq_nil_iff]
    constructor
    · rintro (e | e)
      · exact e
      · have := congrArg List.length e
        rw [pls_len] at this
        have : ss.length = 0 := this
        omega
    · exact .inl
  have e2 : (plsOf ss).drop (i + 1) = [] ↔ i = ss.length - 1 := by
    rw [List.drop_eq_nil_iff, pls_len]
    omega
  unfold lsp spd
  rw [lo_at h hi, hi_at h hi]
  by_cases hp : isPost ss i = true ∨ ss.length = 1
  · rw [if_pos hp, if_pos]
    rcases hp with hp | hp
    · exact .inl ((si_post h hi).mpr hp)
    · exact .inr ⟨e1.mpr (by omega), e2.mpr (by omega)⟩
  · rw [if_neg hp, if_neg]
    rotate_left
    · rintro (h1 | ⟨h1, h2⟩)
      · exact hp (.inl ((si_post h hi).mp h1))
      · have := e1.mp h1
        have := e2.mp h2
        exact hp (.inr (by omega))
    by_cases h0 : i = 0
    · rw [if_pos h0, if_pos (.inl (e1.mpr h0)), if_pos (e1.mpr h0)]
    · rw [if_neg h0]
      by_cases hl : i = ss.length - 1
      · rw [if_pos hl, if_pos (.inr (e2.mpr hl)), if_neg (fun e => h0 (e1.mp e))]
      · rw [if_neg hl, if_neg (fun e => e.elim (fun e => h0 (e1.mp e)) (fun e => hl (e2.mp e)))]
        have g1 : ((plsOf ss).take i).getLast?.getD 0 = pos ss (i - 1) := by
          rw [List.getLast?_take, if_neg h0, pls_get (by omega)]
          rfl
        have g2 : ((plsOf ss).drop (i + 1)).head?.getD 0 = pos ss (i + 1) := by
          rw [List.head?_drop, pls_get (by omega)]
          rfl
        rw [g1, g2]
/-- the waits for the contacts -/
def waitsS (ss : List Site) (n : Nat) : List Rat := ((List.range n).filter fun i => decide (0 < clo ss i)).map (wt ss)
theorem waits_nil : waitsS ss (ss.length - 1) = [] ↔ cont ss = none := by
  unfold waitsS
  rw [List.map_eq_nil_iff, List.filter_eq_nil_iff]
  constructor
  · intro h
    cases hc : cont ss with
    | none => rfl
    | some v =>
      obtain ⟨⟨i, hi, h1, _⟩, _⟩ := cont_some hc
      exact absurd (decide_eq_true h1) (h i (List.mem_range.mpr (by omega)))
  · intro hc i hi
    have hi := List.mem_range.mp hi
    have := cont_none hc (i := i) (by omega)
    simp
    omega
theorem asc_head {qs : List Rat} {m : Rat} (hm : m ∈ qs) (h : ∀ q ∈ qs, m ≤ q) : (asc qs).head? = some m := by
  have h1 : m ∈ asc qs := mem_asc.mpr hm
  have ha := asc_asc qs
  cases e : asc qs with
  | nil =>
    rw [e] at h1
    cases h1
  | cons a l =>
    rw [e] at h1 ha
    have h2 : a ∈ qs := mem_asc.mp (by rw [e]; exact List.mem_cons_self)
    have h3 := h a h2
    rcases List.mem_cons.mp h1 with rfl | h4
    · rfl
    · have := (List.pairwise_cons.mp ha).1 m h4
      grind
theorem waits_min {v : Rat} (hc : cont ss = some v) : (asc (waitsS ss (ss.length - 1))).head? = some v := by
  obtain ⟨⟨i, hi, h1, h2⟩, h3⟩ := cont_some hc
  refine asc_head ?_ fun q hq => ?_
  · unfold waitsS
    rw [h2]
    exact List.mem_map_of_mem (List.mem_filter.mpr ⟨List.mem_range.mpr (by omega), decide_eq_true h1⟩)
  · unfold waitsS at hq
    obtain ⟨j, hj, rfl⟩ := List.mem_map.mp hq
    obtain ⟨hj1, hj2⟩ := List.mem_filter.mp hj
    have := List.mem_range.mp hj1
    exact h3 j (by omega) (of_decide_eq_true hj2)
theorem zip_pls : (plsOf ss).zip ((plsOf ss).drop 1) = (List.range (ss.length - 1)).map fun i => (pos ss i, pos ss (i + 1)) := by
  refine List.ext_getElem (by rw [List.length_zip, List.length_drop, List.length_map, List.length_range, pls_len]; omega) fun i h1 h2 => ?_
  rw [List.length_map, List.length_range] at h2
  rw [List.getElem_zip, List.getElem_drop, List.getElem_map, List.getElem_range]
  have a1 : i < ss.length := by omega
  have a2 : i + 1 < ss.length := by omega
  rw [pos_map a1, pos_map a2]
  unfold plsOf
  congr 1
  congr 1
  omega
/-- the walkers' places and speeds in a state -/
def here (w : Wd) (ss : List Site) : List Rat := w.ws.map fun x => pos ss (plc ss x.1)
def sps (w : Wd) (ss : List Site) : List Int := w.ws.map fun x => spd ss (plc ss x.1)
theorem here_places (h : SI w ss) : asc (here w ss ++ w.ps) = plsOf ss := si_places h
theorem here_move (h : SI w ss) {v : Rat} (hm : ∀ i, i + 1 < ss.length → qs ss v i ≤ qs ss v (i + 1)) : here w (moveS ss v) = ((here w ss).zip (sps w ss)).map fun p => p.1 + v * ((p.2 : Int) : Rat) := by
  unfold here sps
  rw [List.zip_map', List.map_map]
  exact List.map_congr_left fun x hx => (si_move h hm).2 x hx
end
end NW

set_option Elab.async false
set_option linter.all false
set_option maxRecDepth 100000
set_option maxHeartbeats 4000000
set_option exponentiation.threshold 100000
/-! The laws' own simulation runs as the history tells, walker by walker. -/
namespace NW
open PySem
local macro_rules | `(tactic| array_get_dec) => `(tactic| first
  | with_reducible assumption
  | ((with_reducible apply ev_var); exact rfl)
  | with_reducible exact ev_int
  | with_reducible exact ev_neg1
  | with_reducible exact ev_none
  | with_reducible exact ev_bl
  | with_reducible exact ev_str
  | with_reducible exact ev_con
  | with_reducible exact ev_es0
  | ((with_reducible apply ev_es); array_get_dec; array_get_dec)
  | ((with_reducible apply ev_call); array_get_dec; exact rfl; sizeOf_list_dec; exact rfl)
  | ((with_reducible apply ts_of); array_get_dec)
  | ((with_reducible apply ev_pos); array_get_dec; array_get_dec; (first | with_reducible exact rfl | exact nat_succ _ | exact nat_pred _ (by omega)); first | assumption | omega)
  | ((with_reducible apply ev_idx); array_get_dec; array_get_dec; array_mem_dec)
  | ((with_reducible apply ev_bin); array_get_dec; array_get_dec; array_mem_dec)
  | ((with_reducible apply ev_cmp); array_get_dec; array_get_dec; array_mem_dec)
  | ((with_reducible apply ev_bi); array_get_dec; array_mem_dec)
  | with_reducible exact ev_ho
  | with_reducible exact ev_zo
  | with_reducible exact ev_73
  | ((with_reducible apply ev_io); array_get_dec)
  | ((with_reducible apply ev_oi); array_get_dec; assumption)
  | ((with_reducible apply ev_tup); array_get_dec; exact rfl; first | decide | simp [big])
  | ((with_reducible apply ev_lst); array_get_dec; exact rfl; first | decide | simp [big])
  | ((with_reducible apply ev_new); array_get_dec; exact rfl; first | decide | simp [big])
  | ((with_reducible apply ev_newL); array_get_dec; array_mem_dec)
  | ((with_reducible apply ev_not); array_get_dec)
  | ((with_reducible apply ev_andP); array_get_dec; intro _; array_get_dec)
  | ((with_reducible apply ev_orP); array_get_dec; intro _; array_get_dec)
  | ((with_reducible apply ev_ifeP); array_get_dec; (intro _; array_get_dec); intro _; array_get_dec)
  | ((with_reducible apply ev_isN); array_get_dec)
  | ((with_reducible apply ev_notN); array_get_dec)
  | ((with_reducible apply ev_negP); array_get_dec)
  | ((with_reducible apply ev_rev); array_get_dec; array_mem_dec)
  | ((with_reducible apply ev_frz); array_get_dec; array_mem_dec)
  | with_reducible exact ev_o0
  | ((with_reducible apply ev_o1); array_get_dec)
  | ((with_reducible apply ev_slc); array_get_dec; array_get_dec; array_get_dec; array_mem_dec)
  | ((with_reducible apply iv_seq); array_get_dec; array_mem_dec)
  | ((with_reducible apply iv_zip); array_get_dec; array_get_dec; array_mem_dec)
  | ((with_reducible apply iv_enum); array_get_dec; array_mem_dec)
  | ((with_reducible apply iv_rng1); array_get_dec; omega; omega)
  | ((with_reducible apply iv_rng2); array_get_dec; array_get_dec; omega; omega; omega; omega)
  | ((with_reducible apply cv_N); array_get_dec; (first | assumption | (simp only [List.length_range, List.length_map, List.length_zip, List.length_drop, List.length_take, List.length_reverse, List.length_append, List.length_cons, List.length_nil, big]; omega)); (intro _; exact rfl); (intro _ _ _; array_get_dec); (first | with_reducible exact (rfl : List.map fr _ = _) | with_reducible exact (rfl : List.map Nm.d _ = _) | with_reducible exact (rfl : List.map wkD _ = _) | with_reducible exact (rfl : List.map natD _ = _) | with_reducible exact (rfl : List.map intD _ = _) | with_reducible exact (rfl : List.map PyData.int _ = _) | with_reducible exact (rfl : List.map PyData.bool _ = _) | with_reducible exact (rfl : List.map Site.d _ = _) | with_reducible exact (rfl : List.map stD _ = _) | with_reducible exact (rfl : List.map rowD _ = _) | with_reducible exact (rfl : List.map ptD _ = _) | exact kl_c fr _ (fun _ => by with_reducible rfl) _ | exact kl_c Nm.d _ (fun _ => by with_reducible rfl) _ | exact kl_c wkD _ (fun _ => by with_reducible rfl) _ | exact kl_c natD _ (fun _ => by with_reducible rfl) _ | exact kl_c intD _ (fun _ => by with_reducible rfl) _ | exact kl_c PyData.int _ (fun _ => by with_reducible rfl) _ | exact kl_c PyData.bool _ (fun _ => by with_reducible rfl) _ | exact kl_c Site.d _ (fun _ => by with_reducible rfl) _ | exact kl_c stD _ (fun _ => by with_reducible rfl) _ | exact kl_c rowD _ (fun _ => by with_reducible rfl) _ | exact kl_c ptD _ (fun _ => by with_reducible rfl) _ | exact rfl))
  | ((with_reducible apply cv_C); array_get_dec; (first | assumption | (simp only [List.length_range, List.length_map, List.length_zip, List.length_drop, List.length_take, List.length_reverse, List.length_append, List.length_cons, List.length_nil, big]; omega)); (intro _; exact rfl); (intro _ _ _; array_get_dec); (intro _ _ _ _; array_get_dec); (first | with_reducible exact (rfl : List.map fr _ = _) | with_reducible exact (rfl : List.map Nm.d _ = _) | with_reducible exact (rfl : List.map wkD _ = _) | with_reducible exact (rfl : List.map natD _ = _) | with_reducible exact (rfl : List.map intD _ = _) | with_reducible exact (rfl : List.map PyData.int _ = _) | with_reducible exact (rfl : List.map PyData.bool _ = _) | with_reducible exact (rfl : List.map Site.d _ = _) | with_reducible exact (rfl : List.map stD _ = _) | with_reducible exact (rfl : List.map rowD _ = _) | with_reducible exact (rfl : List.map ptD _ = _) | exact kl_c fr _ (fun _ => by with_reducible rfl) _ | exact kl_c Nm.d _ (fun _ => by with_reducible rfl) _ | exact kl_c wkD _ (fun _ => by with_reducible rfl) _ | exact kl_c natD _ (fun _ => by with_reducible rfl) _ | exact kl_c intD _ (fun _ => by with_reducible rfl) _ | exact kl_c PyData.int _ (fun _ => by with_reducible rfl) _ | exact kl_c PyData.bool _ (fun _ => by with_reducible rfl) _ | exact kl_c Site.d _ (fun _ => by with_reducible rfl) _ | exact kl_c stD _ (fun _ => by with_reducible rfl) _ | exact kl_c rowD _ (fun _ => by with_reducible rfl) _ | exact kl_c ptD _ (fun _ => by with_reducible rfl) _ | exact rfl))
  | ((with_reducible apply cv_Nm); array_get_dec; assumption; (first | assumption | (simp only [List.length_range, List.length_map, List.length_zip, List.length_drop, List.length_take, List.length_reverse, List.length_append, List.length_cons, List.length_nil, big]; omega)); (intro _; exact rfl); (intro _ _ _; array_get_dec); (first | with_reducible exact (rfl : List.map fr _ = _) | with_reducible exact (rfl : List.map Nm.d _ = _) | with_reducible exact (rfl : List.map wkD _ = _) | with_reducible exact (rfl : List.map natD _ = _) | with_reducible exact (rfl : List.map intD _ = _) | with_reducible exact (rfl : List.map PyData.int _ = _) | with_reducible exact (rfl : List.map PyData.bool _ = _) | with_reducible exact (rfl : List.map Site.d _ = _) | with_reducible exact (rfl : List.map stD _ = _) | with_reducible exact (rfl : List.map rowD _ = _) | with_reducible exact (rfl : List.map ptD _ = _) | exact kl_c fr _ (fun _ => by with_reducible rfl) _ | exact kl_c Nm.d _ (fun _ => by with_reducible rfl) _ | exact kl_c wkD _ (fun _ => by with_reducible rfl) _ | exact kl_c natD _ (fun _ => by with_reducible rfl) _ | exact kl_c intD _ (fun _ => by with_reducible rfl) _ | exact kl_c PyData.int _ (fun _ => by with_reducible rfl) _ | exact kl_c PyData.bool _ (fun _ => by with_reducible rfl) _ | exact kl_c Site.d _ (fun _ => by with_reducible rfl) _ | exact kl_c stD _ (fun _ => by with_reducible rfl) _ | exact kl_c rowD _ (fun _ => by with_reducible rfl) _ | exact kl_c ptD _ (fun _ => by with_reducible rfl) _ | exact rfl))
  | ((with_reducible apply cv_Cm); array_get_dec; assumption; (first | assumption | (simp only [List.length_range, List.length_map, List.length_zip, List.length_drop, List.length_take, List.length_reverse, List.length_append, List.length_cons, List.length_nil, big]; omega)); (intro _; exact rfl); (intro _ _ _; array_get_dec); (intro _ _ _ _; array_get_dec); (first | with_reducible exact (rfl : List.map fr _ = _) | with_reducible exact (rfl : List.map Nm.d _ = _) | with_reducible exact (rfl : List.map wkD _ = _) | with_reducible exact (rfl : List.map natD _ = _) | with_reducible exact (rfl : List.map intD _ = _) | with_reducible exact (rfl : List.map PyData.int _ = _) | with_reducible exact (rfl : List.map PyData.bool _ = _) | with_reducible exact (rfl : List.map Site.d _ = _) | with_reducible exact (rfl : List.map stD _ = _) | with_reducible exact (rfl : List.map rowD _ = _) | with_reducible exact (rfl : List.map ptD _ = _) | exact kl_c fr _ (fun _ => by with_reducible rfl) _ | exact kl_c Nm.d _ (fun _ => by with_reducible rfl) _ | exact kl_c wkD _ (fun _ => by with_reducible rfl) _ | exact kl_c natD _ (fun _ => by with_reducible rfl) _ | exact kl_c intD _ (fun _ => by with_reducible rfl) _ | exact kl_c PyData.int _ (fun _ => by with_reducible rfl) _ | exact kl_c PyData.bool _ (fun _ => by with_reducible rfl) _ | exact kl_c Site.d _ (fun _ => by with_reducible rfl) _ | exact kl_c stD _ (fun _ => by with_reducible rfl) _ | exact kl_c rowD _ (fun _ => by with_reducible rfl) _ | exact kl_c ptD _ (fun _ => by with_reducible rfl) _ | exact rfl))
  | ((with_reducible apply cv_Nk); array_get_dec; (first | assumption | (simp only [List.length_range, List.length_map, List.length_zip, List.length_drop, List.length_take, List.length_reverse, List.length_append, List.length_cons, List.length_nil, big]; omega)); (intro _; exact rfl); (intro _ _ _; array_get_dec); (first | with_reducible exact (rfl : List.map fr _ = _) | with_reducible exact (rfl : List.map Nm.d _ = _) | with_reducible exact (rfl : List.map wkD _ = _) | with_reducible exact (rfl : List.map natD _ = _) | with_reducible exact (rfl : List.map intD _ = _) | with_reducible exact (rfl : List.map PyData.int _ = _) | with_reducible exact (rfl : List.map PyData.bool _ = _) | with_reducible exact (rfl : List.map Site.d _ = _) | with_reducible exact (rfl : List.map stD _ = _) | with_reducible exact (rfl : List.map rowD _ = _) | with_reducible exact (rfl : List.map ptD _ = _) | exact kl_c fr _ (fun _ => by with_reducible rfl) _ | exact kl_c Nm.d _ (fun _ => by with_reducible rfl) _ | exact kl_c wkD _ (fun _ => by with_reducible rfl) _ | exact kl_c natD _ (fun _ => by with_reducible rfl) _ | exact kl_c intD _ (fun _ => by with_reducible rfl) _ | exact kl_c PyData.int _ (fun _ => by with_reducible rfl) _ | exact kl_c PyData.bool _ (fun _ => by with_reducible rfl) _ | exact kl_c Site.d _ (fun _ => by with_reducible rfl) _ | exact kl_c stD _ (fun _ => by with_reducible rfl) _ | exact kl_c rowD _ (fun _ => by with_reducible rfl) _ | exact kl_c ptD _ (fun _ => by with_reducible rfl) _ | exact rfl)))
local macro_rules | `(tactic| array_mem_dec) => `(tactic| first
  | with_reducible assumption
  | with_reducible exact b_addI
  | with_reducible exact b_subI
  | ((with_reducible apply b_mulI); assumption)
  | with_reducible exact site_p
  | with_reducible exact site_n
  | with_reducible exact site_o
  | with_reducible exact wk_pos
  | with_reducible exact wk_nm
  | with_reducible exact fr_num
  | with_reducible exact fr_den
  | with_reducible exact wd_w
  | with_reducible exact wd_p
  | with_reducible exact st_t
  | with_reducible exact st_s
  | with_reducible exact i2_0
  | with_reducible exact i2_1
  | with_reducible exact i3_0
  | with_reducible exact i3_1
  | with_reducible exact i3_2
  | with_reducible exact pt_0
  | with_reducible exact pt_1
  | with_reducible exact src_l
  | with_reducible exact src_t
  | ((with_reducible apply src_m); assumption)
  | with_reducible exact zip_lm
  | with_reducible exact zip_tm
  | with_reducible exact enum_lm
  | with_reducible exact len_lm
  | with_reducible exact len_tm
  | with_reducible exact bi_tup
  | with_reducible exact bi_tupT
  | with_reducible exact bi_lstT
  | with_reducible exact bi_lst
  | with_reducible exact bi_abs
  | with_reducible exact bi_max
  | with_reducible exact bi_min
  | with_reducible exact rv_m
  | with_reducible exact cmp_eq_int _ _ _
  | with_reducible exact cmp_ne_int _ _ _
  | with_reducible exact cmp_lt_int _ _ _
  | with_reducible exact cmp_le_int _ _ _
  | with_reducible exact cmp_gt_int _ _ _
  | with_reducible exact cmp_ge_int _ _ _
  | with_reducible exact eq_nil
  | with_reducible exact ne_nil
  | with_reducible exact eq_nilT
  | with_reducible exact ne_nilT
  | ((with_reducible apply eq_nilm); assumption; exact inferInstance)
  | ((with_reducible apply ne_nilm); assumption; exact inferInstance)
  | with_reducible exact eq_x
  | with_reducible exact ne_x
  | with_reducible exact eq_xl
  | with_reducible exact ne_xl
  | ((with_reducible apply ne_xm); assumption; exact inferInstance; exact inferInstance)
  | ((with_reducible apply ne_mx); assumption; exact inferInstance; exact inferInstance)
  | with_reducible exact mem_l
  | with_reducible exact mem_t
  | with_reducible exact nmem_l
  | with_reducible exact nmem_t
  | ((with_reducible apply mem_m); assumption; exact inferInstance; exact inferInstance)
  | ((with_reducible apply sl_from); exact rfl)
  | ((with_reducible apply sl_fromT); exact rfl)
  | ((with_reducible apply ix_first); assumption)
  | ((with_reducible apply ix_last); assumption)
  | ((with_reducible apply ix_k); (first | with_reducible exact rfl | exact nat_succ _ | exact nat_pred _ (by omega)); first | assumption | exact rfl)
  | ((with_reducible apply ix_kT); (first | with_reducible exact rfl | exact nat_succ _ | exact nat_pred _ (by omega)); first | assumption | exact rfl)
  | with_reducible exact frz_last
  | ((with_reducible apply frz_at); assumption)
  | ((with_reducible apply app_m); assumption; (first | assumption | (simp only [List.length_range, List.length_map, List.length_zip, List.length_drop, List.length_take, List.length_reverse, List.length_append, List.length_cons, List.length_nil, big]; omega)))
  | ((with_reducible apply seq_m); assumption)
  | with_reducible exact seq_l
  | with_reducible exact seq_t)
local macro_rules | `(tactic| infer_instance) => `(tactic| first
  | ((with_reducible apply s_asg); array_get_dec; (first | (simp only [evT, evTs, evPar, evPs, Option.bind_some, List.set_cons_zero, List.set_cons_succ]; with_reducible exact rfl) | (simp only [evT, evTs, evPar, evPs, stD, wkD, rowD, ptD, Site.d, Option.bind_some, List.set_cons_zero, List.set_cons_succ]; exact rfl)))
  | ((with_reducible apply s_retv); array_get_dec)
  | ((with_reducible apply s_par); array_get_dec; (first | (simp only [evT, evTs, evPar, evPs, Option.bind_some, List.set_cons_zero, List.set_cons_succ]; with_reducible exact rfl) | (simp only [evT, evTs, evPar, evPs, stD, wkD, rowD, ptD, Site.d, Option.bind_some, List.set_cons_zero, List.set_cons_succ]; exact rfl)))
  | ((with_reducible apply s_parC); array_get_dec; (first | (simp only [evT, evTs, evPar, evPs, Option.bind_some, List.set_cons_zero, List.set_cons_succ]; with_reducible exact rfl) | (simp only [evT, evTs, evPar, evPs, stD, wkD, rowD, ptD, Site.d, Option.bind_some, List.set_cons_zero, List.set_cons_succ]; exact rfl)))
  | ((with_reducible apply s_mthd); array_get_dec; (apply cell_at); assumption; array_get_dec; array_mem_dec)
  | ((with_reducible apply s_callv); array_get_dec; exact rfl; sizeOf_list_dec; exact rfl)
  | ((with_reducible apply s_ifr); array_get_dec)
  | ((with_reducible apply s_if); array_get_dec))
local macro_rules | `(tactic| bv_omega) => `(tactic| first | with_reducible assumption | (first | assumption | (simp only [List.length_range, List.length_map, List.length_zip, List.length_drop, List.length_take, List.length_reverse, List.length_append, List.length_cons, List.length_nil, big]; omega)) | omega | solve_by_elim)
local macro_rules | `(tactic| sizeOf_list_dec) => `(tactic| with_reducible assumption)
local macro_rules | `(tactic| array_mem_dec) => `(tactic| with_reducible exact len_sites)
local macro_rules | `(tactic| sizeOf_list_dec) => `(tactic| ((with_reducible apply speeds_of_run) <;> bv_omega))
local macro_rules | `(tactic| sizeOf_list_dec) => `(tactic| ((with_reducible apply plus_run) <;> bv_omega))
local macro_rules | `(tactic| sizeOf_list_dec) => `(tactic| ((with_reducible apply minus_run) <;> bv_omega))
local macro_rules | `(tactic| sizeOf_list_dec) => `(tactic| ((with_reducible apply times_run) <;> bv_omega))
local macro_rules | `(tactic| sizeOf_list_dec) => `(tactic| ((with_reducible apply less_run) <;> bv_omega))
local macro_rules | `(tactic| sizeOf_list_dec) => `(tactic| ((with_reducible apply ascending_run) <;> bv_omega))
local macro_rules | `(tactic| sizeOf_list_dec) => `(tactic| ((with_reducible apply speed_of_run) <;> bv_omega))
local macro_rules | `(tactic| sizeOf_list_dec) => `(tactic| ((with_reducible apply law_plus_run) <;> bv_omega))
local macro_rules | `(tactic| sizeOf_list_dec) => `(tactic| ((with_reducible apply law_minus_run) <;> bv_omega))
local macro_rules | `(tactic| sizeOf_list_dec) => `(tactic| ((with_reducible apply law_times_run) <;> bv_omega))
local macro_rules | `(tactic| sizeOf_list_dec) => `(tactic| ((with_reducible apply law_less_run) <;> bv_omega))
local macro_rules | `(tactic| sizeOf_list_dec) => `(tactic| ((with_reducible apply ordered_run) <;> bv_omega))
local macro_rules | `(tactic| sizeOf_list_dec) => `(tactic| ((with_reducible apply law_names_run) <;> bv_omega))
local macro_rules | `(tactic| sizeOf_list_dec) => `(tactic| ((with_reducible apply names_of_run) <;> bv_omega))
local macro_rules | `(tactic| sizeOf_list_dec) => `(tactic| ((with_reducible apply require_world_run) <;> bv_omega))
local macro_rules | `(tactic| sizeOf_list_dec) => `(tactic| ((with_reducible apply require_time_run) <;> bv_omega))
local macro_rules | `(tactic| sizeOf_list_dec) => `(tactic| ((with_reducible apply require_name_run) <;> bv_omega))

theorem law_speed_run {pl ps : List Rat} {q : Rat} (hp : ∀ x ∈ pl, sm x) (hq : sm q) (hd : ∀ x ∈ pl, sm (q - x) ∧ sm (x - q)) (hl : pl.length ≤ 1000) (M : Mem) : F_law_speed.run [.d (.list (pl.map fr)), .d (.list (ps.map fr)), .d (fr q)] M = some (.ret (.d (.int (lsp pl ps q))), M) := by
  refine run_dfR (env := [some _, some _, some _, none, none, none, none, none]) rfl ?_ rfl; dsimp only [t_law_speed]
  infer_instance
  infer_instance
  rw [show List.filter (fun x => decide (x < q)) pl = loOf pl q from rfl, show List.filter (fun x => decide (q < x)) pl = hiOf pl q from rfl]
  have hlo : ∀ x ∈ loOf pl q, x ∈ pl := fun x hx => (List.mem_filter.mp hx).1
  have hhi : ∀ x ∈ hiOf pl q, x ∈ pl := fun x hx => (List.mem_filter.mp hx).1
  generalize hL : loOf pl q = lo at hlo
  generalize hH : hiOf pl q = hi at hhi
  infer_instance
  · intro h
    infer_instance
    show finish _ _ = _
    unfold lsp
    rw [hL, hH, if_pos (by simpa using h)]
    exact fin_d
  intro h1
  infer_instance
  · intro h
    infer_instance
    show finish _ _ = _
    have e1 : lsp pl ps q = if lo = [] then 1 else -1 := by
      unfold lsp
      rw [hL, hH, if_neg (by simpa using h1), if_pos (by simpa using h)]
    rw [e1]
    have e : (if lo.isEmpty = true then Vl.d (.int 1) else .d (.int (-1))) = .d (.int (if lo = [] then 1 else -1)) := by
      cases lo <;> rfl
    rw [e]
    exact fin_d
  intro h2
  have h3 : lo ≠ [] ∧ hi ≠ [] := by simpa using h2
  obtain ⟨a, ha⟩ : ∃ a, lo.getLast? = some a := ⟨_, List.getLast?_eq_some_getLast h3.1⟩
  obtain ⟨b, hb⟩ : ∃ b, hi.head? = some b := ⟨_, List.head?_eq_some_head h3.2⟩
  have ha1 := hlo a (List.mem_of_getLast? ha)
  have hb1 := hhi b (List.mem_of_mem_head? hb)
  have ha2 := hp a ha1
  have hb2 := hp b hb1
  have ha3 := (hd a ha1).1
  have hb3 := (hd b hb1).2
  infer_instance
  infer_instance
  show finish _ _ = _
  have e1 : lsp pl ps q = if q - (some a).getD 0 < (some b).getD 0 - q then -1 else 1 := by
    unfold lsp
    rw [hL, hH, if_neg (by simpa using h1), if_neg (by simpa using h2), ha, hb]
  rw [e1]
  have e : (if decide (q - a < b - q) = true then Vl.d (.int (-1)) else .d (.int 1)) = .d (.int (if q - (some a).getD 0 < (some b).getD 0 - q then -1 else 1)) := by
    by_cases h : q - a < b - q
    · simp [h]
    · simp [h]
  rw [e]
  exact fin_d
local macro_rules | `(tactic| sizeOf_list_dec) => `(tactic| ((with_reducible apply law_speed_run) <;> bv_omega))

def lrD (r : Rat × List Rat × List Int) : D := .tuple [fr r.1, .list (r.2.1.map fr), .list (r.2.2.map .int)]
def lawL (w : Wd) (L : List (Rat × List Site)) : List (Rat × List Rat × List Int) := L.map fun x => (x.1, here w x.2, sps w x.2)
theorem lr_0 {r : Rat × List Rat × List Int} {M : Mem} : evIdx (.d (lrD r)) (.d (.int 0)) M = some (.d (fr r.1), M) := rfl
theorem lr_1 {r : Rat × List Rat × List Int} {M : Mem} : evIdx (.d (lrD r)) (.d (.int 1)) M = some (.d (.list (r.2.1.map fr)), M) := rfl
theorem lr_2 {r : Rat × List Rat × List Int} {M : Mem} : evIdx (.d (lrD r)) (.d (.int 2)) M = some (.d (.list (r.2.2.map .int)), M) := rfl
--ET lrD
--KL lrD
local macro_rules | `(tactic| array_mem_dec) => `(tactic| with_reducible exact lr_0)
local macro_rules | `(tactic| array_mem_dec) => `(tactic| with_reducible exact lr_1)
local macro_rules | `(tactic| array_mem_dec) => `(tactic| with_reducible exact lr_2)
theorem add_lm {α : Type} {f : α → D} {xs ys : List α} {M : Mem} (h : xs.length + ys.length ≤ big) : evBin .add (.d (.list (xs.map f))) (.d (.list (ys.map f))) M = some (.d (.list ((xs ++ ys).map f)), M) := by
  rw [b_addL (by rw [List.length_map, List.length_map]; exact h), List.map_append]
local macro_rules | `(tactic| array_mem_dec) => `(tactic| ((with_reducible apply add_lm) <;> bv_omega))
theorem app_lr {M : Mem} {i : Nat} {xs : List (Rat × List Rat × List Int)} {t : Rat} {hs : List Rat} {vs : List Int} (h : M[i]? = some (.lst (xs.map lrD))) (hl : xs.length < big) : evMt .append (.m i) [.d (.tuple [fr t, .list (hs.map fr), .list (vs.map .int)])] M = some (M.set i (.lst ((xs ++ [(t, hs, vs)]).map lrD))) := app_m (f := lrD) (x := (t, hs, vs)) h hl
local macro_rules | `(tactic| array_mem_dec) => `(tactic| ((with_reducible apply app_lr) <;> bv_omega))
section
variable {w : Wd} {ss : List Site} {n D : Nat} {t : Rat}
theorem pls_mem {x : Rat} (h : x ∈ plsOf ss) : ∃ i, i < ss.length ∧ pos ss i = x := mem_pos h
theorem gi_sm (g : GI n D t ss) : ∀ x ∈ plsOf ss, sm x := fun x hx => by
  obtain ⟨i, hi, rfl⟩ := pls_mem hx
  exact g.sz.one i hi
theorem gi_smd (g : GI n D t ss) : ∀ x ∈ plsOf ss, ∀ y ∈ plsOf ss, sm (x - y) := fun x hx y hy => by
  obtain ⟨i, hi, rfl⟩ := pls_mem hx
  obtain ⟨j, hj, rfl⟩ := pls_mem hy
  have a1 := g.lo i hi
  have a2 := g.hi i hi
  have a3 := g.lo j hj
  have a4 := g.hi j hj
  exact sm_B g.D0 g.d1 ((g.gr i hi).sub (g.gr j hj)) (by grind) (by grind)
theorem here_mem (h : SI w ss) : ∀ x ∈ here w ss, x ∈ plsOf ss := fun x hx => by
  obtain ⟨y, hy, rfl⟩ := List.mem_map.mp hx
  exact pos_mem (si_pos h hy).1
theorem ps_mem (h : SI w ss) : ∀ x ∈ w.ps, x ∈ plsOf ss := fun x hx => by
  obtain ⟨s, hs, e, _⟩ := (h.po x).mpr hx
  rw [← e]
  exact List.mem_map_of_mem hs
theorem here_sps (h : SI w ss) : (here w ss).map (fun q => lsp (plsOf ss) w.ps q) = sps w ss := by
  unfold here sps
  rw [List.map_map]
  refine List.map_congr_left fun x hx => ?_
  exact lsp_spd h (si_pos h hx).1
theorem here_len : (here w ss).length = w.ws.length := List.length_map ..
theorem sps_len : (sps w ss).length = w.ws.length := List.length_map ..
theorem sps_sm {x : Int} (h : x ∈ sps w ss) : sm (x : Rat) := by
  obtain ⟨y, _, rfl⟩ := List.mem_map.mp h
  rcases spd_cases ss (plc ss y.1) with e | e | e <;> rw [e] <;> exact ⟨by decide +kernel, by decide +kernel⟩
end
theorem sl_1 {α : Type} {f : α → D} {xs : List α} {M : Mem} : evSlc (.d (.list (xs.map f))) (some 1) none M = some (.d (.list ((xs.drop 1).map f)), M) := sl_from (k := 1) rfl
theorem sl_1T {α : Type} {f : α → D} {xs : List α} {M : Mem} : evSlc (.d (.tuple (xs.map f))) (some 1) none M = some (.d (.tuple ((xs.drop 1).map f)), M) := sl_fromT (k := 1) rfl
local macro_rules | `(tactic| array_mem_dec) => `(tactic| with_reducible exact sl_1)
local macro_rules | `(tactic| array_mem_dec) => `(tactic| with_reducible exact sl_1T)
theorem cellx {M : Mem} {i : Nat} {xs : List D} (h : M[i]? = some (.lst xs)) : i < M.length := (List.getElem?_eq_some_iff.mp h).1
theorem take_set {M : Mem} {n i : Nat} {c : Cl} (h : n ≤ i) : (M.set i c).take n = M.take n := by
  rw [List.take_set]
  exact List.set_eq_of_length_le (by rw [List.length_take]; omega)
theorem take_app {M : Mem} {n : Nat} {c : Cl} (h : n ≤ M.length) : (M ++ [c]).take n = M.take n := List.take_append_of_le_length h
theorem fin_tk {x : D} {M M' : Mem} (h : M'.take M.length = M) : finish M.length (.rt (.d x) M') = some (.ret (.d x), M) := by
  simp [h]
theorem waits_succ (ss : List Site) (i : Nat) : waitsS ss (i + 1) = if 0 < clo ss i then waitsS ss i ++ [wt ss i] else waitsS ss i := by
  unfold waitsS
  rw [List.range_succ, List.filter_append, List.map_append]
  by_cases h : 0 < clo ss i
  · rw [if_pos h]
    simp [h]
  · rw [if_neg h]
    simp [h]
theorem waits_len (ss : List Site) (i : Nat) : (waitsS ss i).length ≤ i := by
  unfold waitsS
  rw [List.length_map]
  have := List.length_filter_le (fun i => decide (0 < clo ss i)) (List.range i)
  rw [List.length_range] at this
  exact this
theorem here0 {w : Wd} (h : SI w (sites0 w)) : here w (sites0 w) = w.ws.map (·.2) := by
  unfold here
  refine List.map_congr_left fun x hx => ?_
  have h1 : x.2 ∈ asc (allP w) := mem_asc.mpr (List.mem_append_left _ (List.mem_map_of_mem hx))
  have h2 : (⟨x.2, (w.ws.filter fun y => decide (y.2 = x.2)).map (·.1), decide (x.2 ∈ w.ps)⟩ : Site) ∈ sites0 w := List.mem_map_of_mem (f := fun p => (⟨p, (w.ws.filter fun y => decide (y.2 = p)).map (·.1), decide (p ∈ w.ps)⟩ : Site)) h1
  exact ((si_pos h hx).2 _ h2 (List.mem_map_of_mem (List.mem_filter.mpr ⟨hx, by simp⟩))).symm
theorem WOk.dis {w : Wd} (h : WOk w) : w.ws.Pairwise fun x y => x.1 ≠ y.1 := h.asc.imp fun {a b} hab e => by
  rw [e] at hab
  exact List.lt_irrefl _ hab
theorem law_states_run {w : Wd} (hw : WOk w) (g : WG w) (M : Mem) : F_law_states.run [.d (wD w)] M = some (.ret (.d (.list ((lawL w (histL 12 0 (sites0 w))).map lrD))), M) := by
  have hw8 := hw.n8
  have hp4 := hw.p4
  have hbig : big = 1000000 := rfl
  refine run_dfR (env := [some _, none, none, none, none, none, none, none, none, none, none, none, none, none, none]) rfl ?_ rfl; dsimp only [t_law_states]
  infer_instance
  infer_instance
  refine s_whil (fun m env M' => ∃ D t ss pre e6 e7 e9 e10 e11 e12 e13, env = [some (.d (wD w)), some (.d (.list (w.ps.map fr))), some (.d (.list ((here w ss).map fr))), none, some (.m M.length), some (.d (fr t)), e6, e7, none, e9, e10, e11, e12, e13, none] ∧ GI m D t ss ∧ SI w ss ∧ pre ++ histL m t ss = histL 12 0 (sites0 w) ∧ M'[M.length]? = some (.lst ((lawL w pre).map lrD)) ∧ M'.take M.length = M ∧ pre.length + m ≤ 12) (m := 12) ?_ (fuel_lt ?_) ?_
  · rintro m env M' ⟨D, t, ss, pre, e6, e7, e9, e10, e11, e12, e13, rfl, gi, si, hpre, hcell, htk, hlen⟩
    refine .inr ⟨by simp, ?_⟩
    have hp1 := gi_sm gi
    have hp2 := gi_smd gi
    have hh := here_mem si
    have hps := ps_mem si
    have hsz := gi.sz
    have hsl : (plsOf ss).length ≤ 1000 := by rw [pls_len]; exact hsz.len
    have hs1 : ∀ q ∈ here w ss ++ w.ps, sm q := fun q hq => (List.mem_append.mp hq).elim (fun h => hp1 q (hh q h)) (fun h => hp1 q (hps q h))
    have hhl : (here w ss).length = w.ws.length := here_len
    have hs2 : (here w ss ++ w.ps).length ≤ 100000 := by rw [List.length_append]; omega
    have hs3 : (here w ss).length + w.ps.length ≤ big := by omega
    have hs4 : ∀ q ∈ here w ss, sm q := fun q h => hp1 q (hh q h)
    have hs5 : ∀ q ∈ here w ss, ∀ x ∈ plsOf ss, sm (q - x) ∧ sm (x - q) := fun q hq x hx => ⟨hp2 q (hh q hq) x hx, hp2 x hx q (hh q hq)⟩
    have hs6 : (here w ss).length ≤ big := by omega
    infer_instance
    rw [here_places si]
    infer_instance
    rw [here_sps si]
    have hlw : (lawL w pre).length < big := by unfold lawL; rw [List.length_map]; omega
    infer_instance
    have hc1 := get_set (d := .lst ((lawL w pre ++ [(t, here w ss, sps w ss)]).map lrD)) hcell
    have htk1 : (M'.set M.length (.lst ((lawL w pre ++ [(t, here w ss, sps w ss)]).map lrD))).take M.length = M := by rw [take_set (Nat.le_refl _)]; exact htk
    generalize M'.set M.length (.lst ((lawL w pre ++ [(t, here w ss, sps w ss)]).map lrD)) = M1 at hc1 htk1
    infer_instance
    have hc2 : (M1 ++ [Cl.lst []])[M1.length]? = some (.lst ((waitsS ss 0).map fr)) := get_new
    have hk : M.length < M1.length := cellx hc1
    have hc1 := get_app (d := Cl.lst []) hc1
    have htk2 : (M1 ++ [Cl.lst []]).take M.length = M := by rw [take_app (by omega)]; exact htk1
    generalize M1.length = k at hc2 hk
    generalize M1 ++ [Cl.lst []] = M2 at hc1 hc2 htk2
    have hwl : ∀ i, i ≤ ss.length → (waitsS ss i).length < big := fun i hi => by
      have := waits_len ss i
      have := hsz.len
      omega
    refine s_for (f := fun i => PyData.tuple [fr (pos ss i), fr (pos ss (i + 1))]) (xs := List.range (ss.length - 1)) (fun i env M3 => ∃ e10 e11 e12, env = [some (.d (wD w)), some (.d (.list (w.ps.map fr))), some (.d (.list ((here w ss).map fr))), none, some (.m M.length), some (.d (fr t)), some (.d (.list ((plsOf ss).map fr))), some (.d (.list ((sps w ss).map .int))), none, some (.m k), e10, e11, e12, e13, none] ∧ M3[k]? = some (.lst ((waitsS ss i).map fr)) ∧ M3[M.length]? = some (.lst ((lawL w pre ++ [(t, here w ss, sps w ss)]).map lrD)) ∧ M3.take M.length = M) ?_ ⟨_, _, _, rfl, hc2, hc1, htk2⟩ ?_ ?_
    · rw [show List.map (fun i => PyData.tuple [fr (pos ss i), fr (pos ss (i + 1))]) (List.range (ss.length - 1)) = ((plsOf ss).zip ((plsOf ss).drop 1)).map (fun p => PyData.tuple [fr p.1, fr p.2]) from by rw [zip_pls, List.map_map]; rfl]
      array_get_dec
    · rintro i hi env M3 ⟨f10, f11, f12, rfl, h1, h2, h3⟩
      rw [List.length_range] at hi
      rw [List.getElem_range]
      refine ⟨_, rfl, ?_⟩
      have i1 : i < ss.length := by omega
      have i2 : i + 1 < ss.length := by omega
      have m1 : pos ss i ∈ plsOf ss := pos_mem i1
      have m2 : pos ss (i + 1) ∈ plsOf ss := pos_mem i2
      have q1 := hp1 _ m1
      have q2 := hp1 _ m2
      have q3 : ∀ x ∈ plsOf ss, sm (pos ss i - x) ∧ sm (x - pos ss i) := fun x hx => ⟨hp2 _ m1 _ hx, hp2 _ hx _ m1⟩
      have q4 : ∀ x ∈ plsOf ss, sm (pos ss (i + 1) - x) ∧ sm (x - pos ss (i + 1)) := fun x hx => ⟨hp2 _ m2 _ hx, hp2 _ hx _ m2⟩
      have q5 := hp2 _ m2 _ m1
      infer_instance
      rw [lsp_spd si i1, lsp_spd si i2, show spd ss i - spd ss (i + 1) = clo ss i from rfl]
      infer_instance
      · intro h
        have h : 0 < clo ss i := of_decide_eq_true h
        have q6 : sm (1 / ((clo ss i : Int) : Rat)) := by
          rcases clo_cases h with e | e <;> rw [e] <;> exact ⟨by decide +kernel, by decide +kernel⟩
        have q7 := hwl i (by omega)
        infer_instance
        have e : (pos ss (i + 1) - pos ss i) * (1 / ((clo ss i : Int) : Rat)) = wt ss i := by
          unfold wt
          rw [Rat.div_def, Rat.div_def, Rat.one_mul]
        rw [e]
        refine s_end (s_end ⟨_, _, _, rfl, ?_, get_setn h2 (by omega), by rw [take_set (by omega)]; exact h3⟩)
        rw [get_set h1, waits_succ, if_pos h]
      · intro h
        have h : ¬ 0 < clo ss i := of_decide_eq_false h
        refine s_end ⟨_, _, _, rfl, ?_, h2, h3⟩
        rw [h1, waits_succ, if_neg h]
    · rintro env M3 ⟨f10, f11, f12, rfl, h1, h2, h3⟩
      rw [List.length_range] at h1
      have hsp : ∀ i ∈ sps w ss, sm (i : Rat) := fun i hi => sps_sm hi
      infer_instance
      · intro h
        have hc : cont ss = none := waits_nil.mp (by simpa using h)
        have hhist : histL m t ss = [(t, ss)] := by
          cases m with
          | zero => rfl
          | succ m =>
            unfold histL
            rw [hc]
        rw [hhist] at hpre
        infer_instance
        show finish _ _ = _
        rw [← hpre]
        have e : lawL w (pre ++ [(t, ss)]) = lawL w pre ++ [(t, here w ss, sps w ss)] := by unfold lawL; rw [List.map_append]; rfl
        rw [e]
        exact fin_tk (by rw [take_set (Nat.le_refl _)]; exact h3)
      · intro h
        cases hc : cont ss with
        | none => exact absurd (waits_nil.mpr hc) (by simpa using h)
        | some v =>
        obtain ⟨hm, hv0⟩ := sorted_of gi hc
        cases m with
        | zero =>
          have := gi.fine.2.2
          rw [hc] at this
          cases this
        | succ m =>
        obtain ⟨hmz, gi2⟩ := gi.next hc
        obtain ⟨si2, _⟩ := si_move si hm
        have hhd := waits_min hc
        have hws : ∀ q ∈ waitsS ss (ss.length - 1), sm q := fun q hq => by
          unfold waitsS at hq
          obtain ⟨j, hj, rfl⟩ := List.mem_map.mp hq
          obtain ⟨hj1, hj2⟩ := List.mem_filter.mp hj
          have := List.mem_range.mp hj1
          exact hsz.wt j (by omega) (of_decide_eq_true hj2)
        have hwl2 : (waitsS ss (ss.length - 1)).length ≤ 100000 := by
          have := waits_len ss (ss.length - 1)
          have := hsz.len
          omega
        have hsv := hmz.sw
        have hst := gi.smt
        have hhist : histL (m + 1) t ss = (t, ss) :: histL m (t + v) (moveS ss v) := by
          show (match cont ss with | none => _ | some w => _) = _
          rw [hc]
        rw [hhist] at hpre
        have hzl : ((here w ss).zip (sps w ss)).length ≤ big := by rw [List.length_zip]; omega
        have hz1 : ∀ p ∈ (here w ss).zip (sps w ss), sm p.1 ∧ sm ((p.2 : Int) : Rat) ∧ sm (v * ((p.2 : Int) : Rat)) := fun p hp => by
          have hp3 := List.of_mem_zip (a := p.1) (b := p.2) hp
          refine ⟨hs4 _ hp3.1, hsp _ hp3.2, ?_⟩
          obtain ⟨y, hy, e⟩ := List.mem_map.mp hp3.2
          rw [← e]
          exact hmz.ws _ (si_pos si hy).1
        have hz2 : ∀ p ∈ (here w ss).zip (sps w ss), sm p.1 := fun p hp => (hz1 p hp).1
        have hz3 : ∀ p ∈ (here w ss).zip (sps w ss), sm ((p.2 : Int) : Rat) := fun p hp => (hz1 p hp).2.1
        have hz4 : ∀ p ∈ (here w ss).zip (sps w ss), sm (v * ((p.2 : Int) : Rat)) := fun p hp => (hz1 p hp).2.2
        infer_instance
        infer_instance
        infer_instance
        rw [← here_move si hm]
        refine s_end ⟨m, Nat.lt_succ_self m, 2 * D, t + v, moveS ss v, pre ++ [(t, ss)], _, _, _, _, _, _, _, rfl, gi2, si2, ?_, ?_, by rw [take_set (by omega)]; exact h3, ?_⟩
        · rw [List.append_assoc]
          exact hpre
        · refine get_setn ?_ (by omega)
          rw [h2]
          unfold lawL
          rw [List.map_append (l₁ := pre)]
          rfl
        · rw [List.length_append, List.length_singleton]
          omega
  · have : (2 : Nat) ^ 10 ≤ 2 ^ 9000 := Nat.pow_le_pow_right (by decide) (by decide)
    omega
  · rw [← here0 (si0 hw.dis)]
    exact ⟨6, 0, sites0 w, [], _, _, _, _, _, _, _, rfl, gi0 g, si0 hw.dis, rfl, get_new, by rw [take_app (Nat.le_refl _), List.take_length], by simp⟩
end NW
set_option Elab.async false
set_option linter.all false
set_option maxRecDepth 100000
set_option maxHeartbeats 4000000
set_option exponentiation.threshold 100000
/-! The state at a time. -/
namespace NW
open PySem

section
variable {n D : Nat} {t : Rat} {ss : List Site} {w : Wd}
theorem hist_none {m : Nat} (h : cont ss = none) : histL m t ss = [(t, ss)] := by
  cases m with
  | zero => rfl
  | succ m =>
    unfold histL
    rw [h]
theorem hist_some {m : Nat} {v : Rat} (h : cont ss = some v) : histL (m + 1) t ss = (t, ss) :: histL m (t + v) (moveS ss v) := by
  show (match cont ss with | none => _ | some w => _) = _
  rw [h]
/-- induction along a history -/
theorem hist_ind {P : Nat → Rat → List Site → Prop} (h0 : ∀ n D t ss, GI n D t ss → cont ss = none → P n t ss) (h1 : ∀ n D t ss v, GI (n + 1) D t ss → cont ss = some v → GI n (2 * D) (t + v) (moveS ss v) → P n (t + v) (moveS ss v) → P (n + 1) t ss) : ∀ {n D : Nat} {t : Rat} {ss : List Site}, GI n D t ss → P n t ss
  | 0, D, t, ss, g => h0 0 D t ss g g.fine.2.2
  | n + 1, D, t, ss, g => by
    cases hc : cont ss with
    | none => exact h0 _ D t ss g hc
    | some v => exact h1 n D t ss v g hc (g.next hc).2 (hist_ind h0 h1 (g.next hc).2)
theorem hist_ne {n : Nat} : histL n t ss ≠ [] := by
  cases n with
  | zero => simp [histL]
  | succ n =>
    unfold histL
    split <;> simp
theorem hist_head {n : Nat} : (histL n t ss).head? = some (t, ss) := by
  cases n with
  | zero => rfl
  | succ n =>
    unfold histL
    split <;> rfl
theorem cont_pos (g : GI n D t ss) {v : Rat} (h : cont ss = some v) : 0 < v := (sorted_of g h).2
/-- the grid of all states -/
theorem hist_gi : ∀ {n D : Nat} {t : Rat} {ss : List Site}, GI n D t ss → ∀ x ∈ histL n t ss, t ≤ x.1 ∧ ∃ n' D', GI n' D' x.1 x.2 ∧ D' * 2 ^ n' = D * 2 ^ n ∧ n' ≤ n
  | 0, D, t, ss, g, x, hx => by
    have : x = (t, ss) := by simpa [histL] using hx
    subst this
    exact ⟨by grind, 0, D, g, rfl, Nat.le_refl _⟩
  | n + 1, D, t, ss, g, x, hx => by
    cases hc : cont ss with
    | none =>
      rw [hist_none hc] at hx
      have : x = (t, ss) := by simpa using hx
      subst this
      exact ⟨by grind, n + 1, D, g, rfl, Nat.le_refl _⟩
    | some v =>
      rw [hist_some hc] at hx
      have hv := cont_pos g hc
      rcases List.mem_cons.mp hx with rfl | hx
      · exact ⟨by grind, n + 1, D, g, rfl, Nat.le_refl _⟩
      · obtain ⟨a, n', D', b, c, d⟩ := hist_gi (g.next hc).2 x hx
        refine ⟨by grind, n', D', b, ?_, by omega⟩
        rw [c, Nat.pow_succ, Nat.mul_comm 2 D, Nat.mul_assoc, Nat.mul_comm 2]
theorem hist_si (g : GI n D t ss) (s : SI w ss) : ∀ x ∈ histL n t ss, SI w x.2 := fun x hx => (hist_all (P := fun _ ss => SI w ss) (fun _ _ _ _ _ g s hv => (si_move s (sorted_of g hv).1).1) g s x hx).1
/-- the last state not behind a time -/
theorem hist_at {q : Rat} : ∀ {n D : Nat} {t : Rat} {ss : List Site}, GI n D t ss → t ≤ q → ∃ r, ((histL n t ss).filter fun x => !decide (q < x.1)).getLast? = some r ∧ r ∈ histL n t ss ∧ r.1 ≤ q ∧ ∀ v, cont r.2 = some v → q < r.1 + v := by
  intro n D t ss g
  refine hist_ind (P := fun n t ss => t ≤ q → ∃ r, ((histL n t ss).filter fun x => !decide (q < x.1)).getLast? = some r ∧ r ∈ histL n t ss ∧ r.1 ≤ q ∧ ∀ v, cont r.2 = some v → q < r.1 + v) ?_ ?_ g
  · intro n D t ss g hc h
    rw [hist_none hc]
    refine ⟨(t, ss), ?_, by simp, h, fun v hv => by rw [hc] at hv; cases hv⟩
    have : ¬ q < t := by grind
    simp [this]
  · intro n D t ss v g hc g2 ih h
    rw [hist_some hc]
    have hq : (!decide (q < (t, ss).1)) = true := by
      have : ¬ q < t := by grind
      simp [this]
    rw [List.filter_cons_of_pos (p := fun x : Rat × List Site => !decide (q < x.1)) hq]
    by_cases hlt : q < t + v
    · refine ⟨(t, ss), ?_, by simp, h, fun u hu => by rw [hc] at hu; cases hu; exact hlt⟩
      have e : (histL n (t + v) (moveS ss v)).filter (fun x => !decide (q < x.1)) = [] := by
        rw [List.filter_eq_nil_iff]
        intro x hx
        have h5 := (hist_gi g2 x hx).1
        have h6 : q < x.1 := by grind
        rw [decide_eq_true h6]
        exact Bool.false_ne_true
      rw [e]
      rfl
    · obtain ⟨r, h1, h2, h3⟩ := ih (by grind)
      refine ⟨r, ?_, List.mem_cons_of_mem _ h2, h3⟩
      rw [List.getLast?_cons, h1]
      rfl
theorem GI.up (g : GI n D t ss) {k : Nat} (hk : 0 < k) (h : k * D * 2 ^ n < 2 ^ 300) : GI n (k * D) t ss :=
  ⟨g.asc, g.len, Nat.mul_pos hk g.D0, h, g.n1, fun i hi => (g.gr i hi).up k, g.lo, g.hi, g.gt.up k, g.t0, g.t1, g.tt⟩
theorem len_move {v : Rat} : (moveS ss v).length ≤ ss.length := by
  have := len_mg (shiftS ss v)
  rw [shift_len] at this
  exact this
/-- a move by any time before the next contact -/
theorem GI.to (g : GI n D t ss) {v : Rat} (hm : ∀ i, i + 1 < ss.length → qs ss v i ≤ qs ss v (i + 1)) (hg : Gr (2 * D) v) (h0 : 0 ≤ v) (h1 : v ≤ 100000000) (hD : 2 * D * 2 ^ n < 2 ^ 300) (ht : t + v + 2000000 * (n : Rat) ≤ 1000000000) : Mz ss v ∧ GI n (2 * D) (t + v) (moveS ss v) := by
  have hs := shift_sorted hm
  refine ⟨g.mz hg h0 h1, (mg_all hs).asc, by have := len_move (ss := ss) (v := v); have := g.len; omega, by have := g.D0; omega, hD, g.n1, fun j hj => ?_, fun j hj => ?_, fun j hj => ?_, (g.gt.up 2).add hg, by have := g.t0; grind, ht, ?_⟩
  · obtain ⟨k, hk, e⟩ := move_pos hs hj
    rw [e]
    exact ((g.gr k hk).up 2).add (hg.mul _)
  · obtain ⟨k, hk, e⟩ := move_pos hs hj
    have h2 := (qs_hull g.asc h0 hm hk).1
    have h3 := g.lo 0 (by omega)
    grind
  · obtain ⟨k, hk, e⟩ := move_pos hs hj
    have h2 := (qs_hull g.asc h0 hm hk).2
    have h3 := g.hi (ss.length - 1) (by omega)
    grind
  · unfold moveS
    rw [tot_mg, tot_shift]
    exact g.tt
/-- before the next contact -/
def Free (ss : List Site) (v : Rat) : Prop := ∀ u, cont ss = some u → v < u
theorem free_lt (ha : AscS ss) {v : Rat} (h0 : 0 ≤ v) (hf : Free ss v) {i : Nat} (hi : i + 1 < ss.length) : qs ss v i < qs ss v (i + 1) := by
  have hg := qs_gap ss v i
  have hp := asc_lt ha (Nat.lt_succ_self i) hi
  by_cases hc : 0 < clo ss i
  · cases hcc : cont ss with
    | none =>
      have := cont_none hcc hi
      omega
    | some u =>
      have h1 := hf u hcc
      have h2 := (cont_some hcc).2 i hi hc
      have h3 := wt_mul hc
      rcases clo_cases hc with e | e <;> rw [e] at hg h3 <;> simp at hg h3 <;> grind
  · have h3 : clo ss i = 0 ∨ clo ss i = -1 ∨ clo ss i = -2 := by
      have : -2 ≤ clo ss i := by
        unfold clo
        rcases spd_cases ss i with a | a | a <;> rcases spd_cases ss (i + 1) with b | b | b <;> rw [a, b] <;> decide
      omega
    rcases h3 with e | e | e <;> rw [e] at hg <;> simp at hg <;> grind
theorem free_le (ha : AscS ss) {v : Rat} (h0 : 0 ≤ v) (hf : Free ss v) : ∀ i, i + 1 < ss.length → qs ss v i ≤ qs ss v (i + 1) := fun i hi => by
  have := free_lt ha h0 hf hi
  grind
/-- sites that do not touch are not joined -/
theorem mg_id : ∀ {l : List Site}, l.Pairwise (fun a b => a.p < b.p) → mg l = l := by
  have key : ∀ (l acc : List Site), (acc ++ l).Pairwise (fun a b => a.p < b.p) → l.foldl stepG acc = acc ++ l := by
    intro l
    induction l with
    | nil => intro acc _; simp
    | cons s l ih =>
      intro acc h
      rw [List.foldl_cons]
      have e : stepG acc s = acc ++ [s] := by
        unfold stepG
        split
        · rename_i r hr
          have hr2 := List.mem_of_getLast? hr
          have h2 := (List.pairwise_append.mp h).2.2 r hr2 s List.mem_cons_self
          rw [if_neg (by grind)]
        · rfl
      rw [e, ih (acc ++ [s]) (by simpa using h)]
      simp
  intro l h
  exact key l [] (by simpa using h)
theorem free_shift (ha : AscS ss) {v : Rat} (h0 : 0 ≤ v) (hf : Free ss v) : moveS ss v = shiftS ss v := by
  unfold moveS
  refine mg_id ?_
  have h1 : ((shiftS ss v).map (·.p)).Pairwise (· < ·) := by
    rw [shift_p, List.pairwise_map, List.pairwise_iff_getElem]
    intro i j hi hj hij
    rw [List.length_range] at hi hj
    rw [List.getElem_range, List.getElem_range]
    have h2 := free_lt ha h0 hf (i := i) (by omega)
    have h3 := qs_mono (free_le ha h0 hf) (show i + 1 ≤ j by omega) hj
    grind
  exact List.pairwise_map.mp h1
theorem shift_pos {v : Rat} {i : Nat} (hi : i < ss.length) : pos (shiftS ss v) i = qs ss v i := by
  rw [pos_at (by rw [shift_len]; exact hi), shift_get]
theorem shift_post {v : Rat} {i : Nat} : isPost (shiftS ss v) i = isPost ss i := by
  by_cases hi : i < ss.length
  · rw [isPost_at (by rw [shift_len]; exact hi), isPost_at hi]
    simp only [shiftS, List.getElem_map, List.getElem_range]
    rw [sAt_at hi]
  · unfold isPost
    rw [List.getElem?_eq_none (by rw [shift_len]; omega), List.getElem?_eq_none (by omega)]
/-- speeds stay until the next contact -/
theorem free_spd (ha : AscS ss) {v : Rat} (h0 : 0 ≤ v) (hf : Free ss v) {i : Nat} (hi : i < ss.length) : spd (moveS ss v) i = spd ss i := by
  rw [free_shift ha h0 hf]
  have key : spd (shiftS ss v) i = if isPost ss i = true ∨ ss.length = 1 then 0 else if i = 0 then 1 else if i = ss.length - 1 then -1 else if pos (shiftS ss v) i - pos (shiftS ss v) (i - 1) < pos (shiftS ss v) (i + 1) - pos (shiftS ss v) i then -1 else 1 := by
    unfold spd
    rw [shift_post, shift_len]
  rw [key]
  have e2 : spd ss i = if isPost ss i = true ∨ ss.length = 1 then 0 else if i = 0 then 1 else if i = ss.length - 1 then -1 else if pos ss i - pos ss (i - 1) < pos ss (i + 1) - pos ss i then -1 else 1 := rfl
  by_cases h1 : isPost ss i = true ∨ ss.length = 1
  · rw [e2, if_pos h1, if_pos h1]
  by_cases h2 : i = 0
  · rw [e2, if_neg h1, if_neg h1, if_pos h2, if_pos h2]
  by_cases h3 : i = ss.length - 1
  · rw [e2, if_neg h1, if_neg h1, if_neg h2, if_neg h2, if_pos h3, if_pos h3]
  rw [e2, if_neg h1, if_neg h1, if_neg h2, if_neg h2, if_neg h3, if_neg h3]
  rw [if_neg h1, if_neg h2, if_neg h3] at e2
  have a1 : i - 1 + 1 = i := by omega
  have g1 := qs_gap ss v (i - 1)
  have g2 := qs_gap ss v i
  rw [a1] at g1
  rw [shift_pos hi, shift_pos (show i - 1 < ss.length by omega), shift_pos (show i + 1 < ss.length by omega), g1, g2]
  have c1 : clo ss (i - 1) = spd ss (i - 1) - spd ss i := by unfold clo; rw [a1]
  have c2 : clo ss i = spd ss i - spd ss (i + 1) := rfl
  rw [c1, c2]
  by_cases h4 : pos ss i - pos ss (i - 1) < pos ss (i + 1) - pos ss i
  · rw [if_pos h4] at e2
    rw [if_pos h4, if_pos]
    rw [e2]
    rcases spd_cases ss (i - 1) with a | a | a <;> rcases spd_cases ss (i + 1) with b | b | b <;> rw [a, b] <;> simp <;> grind
  · rw [if_neg h4] at e2
    rw [if_neg h4, if_neg]
    rw [e2]
    rcases spd_cases ss (i - 1) with a | a | a <;> rcases spd_cases ss (i + 1) with b | b | b <;> rw [a, b] <;> simp <;> grind
end
end NW

set_option Elab.async false
set_option linter.all false
set_option maxRecDepth 100000
set_option maxHeartbeats 4000000
set_option exponentiation.threshold 100000
/-! What is asked at a time. -/
namespace NW
open PySem
local macro_rules | `(tactic| array_get_dec) => `(tactic| first
  | with_reducible assumption
  | ((with_reducible apply ev_var); exact rfl)
  | with_reducible exact ev_int
  | with_reducible exact ev_neg1
  | with_reducible exact ev_none
  | with_reducible exact ev_bl
  | with_reducible exact ev_str
  | with_reducible exact ev_con
  | with_reducible exact ev_es0
  | ((with_reducible apply ev_es); array_get_dec; array_get_dec)
  | ((with_reducible apply ev_call); array_get_dec; exact rfl; sizeOf_list_dec; exact rfl)
  | ((with_reducible apply ts_of); array_get_dec)
  | ((with_reducible apply ev_pos); array_get_dec; array_get_dec; (first | with_reducible exact rfl | exact nat_succ _ | exact nat_pred _ (by omega)); first | assumption | omega)
  | ((with_reducible apply ev_idx); array_get_dec; array_get_dec; array_mem_dec)
  | ((with_reducible apply ev_bin); array_get_dec; array_get_dec; array_mem_dec)
  | ((with_reducible apply ev_cmp); array_get_dec; array_get_dec; array_mem_dec)
  | ((with_reducible apply ev_bi); array_get_dec; array_mem_dec)
  | with_reducible exact ev_ho
  | with_reducible exact ev_zo
  | with_reducible exact ev_73
  | ((with_reducible apply ev_io); array_get_dec)
  | ((with_reducible apply ev_oi); array_get_dec; assumption)
  | ((with_reducible apply ev_tup); array_get_dec; exact rfl; first | decide | simp [big])
  | ((with_reducible apply ev_lst); array_get_dec; exact rfl; first | decide | simp [big])
  | ((with_reducible apply ev_new); array_get_dec; exact rfl; first | decide | simp [big])
  | ((with_reducible apply ev_newL); array_get_dec; array_mem_dec)
  | ((with_reducible apply ev_not); array_get_dec)
  | ((with_reducible apply ev_andP); array_get_dec; intro _; array_get_dec)
  | ((with_reducible apply ev_orP); array_get_dec; intro _; array_get_dec)
  | ((with_reducible apply ev_ifeP); array_get_dec; (intro _; array_get_dec); intro _; array_get_dec)
  | ((with_reducible apply ev_isN); array_get_dec)
  | ((with_reducible apply ev_notN); array_get_dec)
  | ((with_reducible apply ev_negP); array_get_dec)
  | ((with_reducible apply ev_rev); array_get_dec; array_mem_dec)
  | ((with_reducible apply ev_frz); array_get_dec; array_mem_dec)
  | with_reducible exact ev_o0
  | ((with_reducible apply ev_o1); array_get_dec)
  | ((with_reducible apply ev_slc); array_get_dec; array_get_dec; array_get_dec; array_mem_dec)
  | ((with_reducible apply iv_seq); array_get_dec; array_mem_dec)
  | ((with_reducible apply iv_zip); array_get_dec; array_get_dec; array_mem_dec)
  | ((with_reducible apply iv_enum); array_get_dec; array_mem_dec)
  | ((with_reducible apply iv_rng1); array_get_dec; omega; omega)
  | ((with_reducible apply iv_rng2); array_get_dec; array_get_dec; omega; omega; omega; omega)
  | ((with_reducible apply cv_N); array_get_dec; (first | assumption | (simp only [List.length_range, List.length_map, List.length_zip, List.length_drop, List.length_take, List.length_reverse, List.length_append, List.length_cons, List.length_nil, big]; omega)); (intro _; exact rfl); (intro _ _ _; array_get_dec); (first | with_reducible exact (rfl : List.map fr _ = _) | with_reducible exact (rfl : List.map Nm.d _ = _) | with_reducible exact (rfl : List.map wkD _ = _) | with_reducible exact (rfl : List.map natD _ = _) | with_reducible exact (rfl : List.map intD _ = _) | with_reducible exact (rfl : List.map PyData.int _ = _) | with_reducible exact (rfl : List.map PyData.bool _ = _) | with_reducible exact (rfl : List.map Site.d _ = _) | with_reducible exact (rfl : List.map stD _ = _) | with_reducible exact (rfl : List.map rowD _ = _) | with_reducible exact (rfl : List.map ptD _ = _) | with_reducible exact (rfl : List.map lrD _ = _) | exact kl_c fr _ (fun _ => by with_reducible rfl) _ | exact kl_c Nm.d _ (fun _ => by with_reducible rfl) _ | exact kl_c wkD _ (fun _ => by with_reducible rfl) _ | exact kl_c natD _ (fun _ => by with_reducible rfl) _ | exact kl_c intD _ (fun _ => by with_reducible rfl) _ | exact kl_c PyData.int _ (fun _ => by with_reducible rfl) _ | exact kl_c PyData.bool _ (fun _ => by with_reducible rfl) _ | exact kl_c Site.d _ (fun _ => by with_reducible rfl) _ | exact kl_c stD _ (fun _ => by with_reducible rfl) _ | exact kl_c rowD _ (fun _ => by with_reducible rfl) _ | exact kl_c ptD _ (fun _ => by with_reducible rfl) _ | exact kl_c lrD _ (fun _ => by with_reducible rfl) _ | exact rfl))
  | ((with_reducible apply cv_C); array_get_dec; (first | assumption | (simp only [List.length_range, List.length_map, List.length_zip, List.length_drop, List.length_take, List.length_reverse, List.length_append, List.length_cons, List.length_nil, big]; omega)); (intro _; exact rfl); (intro _ _ _; array_get_dec); (intro _ _ _ _; array_get_dec); (first | with_reducible exact (rfl : List.map fr _ = _) | with_reducible exact (rfl : List.map Nm.d _ = _) | with_reducible exact (rfl : List.map wkD _ = _) | with_reducible exact (rfl : List.map natD _ = _) | with_reducible exact (rfl : List.map intD _ = _) | with_reducible exact (rfl : List.map PyData.int _ = _) | with_reducible exact (rfl : List.map PyData.bool _ = _) | with_reducible exact (rfl : List.map Site.d _ = _) | with_reducible exact (rfl : List.map stD _ = _) | with_reducible exact (rfl : List.map rowD _ = _) | with_reducible exact (rfl : List.map ptD _ = _) | with_reducible exact (rfl : List.map lrD _ = _) | exact kl_c fr _ (fun _ => by with_reducible rfl) _ | exact kl_c Nm.d _ (fun _ => by with_reducible rfl) _ | exact kl_c wkD _ (fun _ => by with_reducible rfl) _ | exact kl_c natD _ (fun _ => by with_reducible rfl) _ | exact kl_c intD _ (fun _ => by with_reducible rfl) _ | exact kl_c PyData.int _ (fun _ => by with_reducible rfl) _ | exact kl_c PyData.bool _ (fun _ => by with_reducible rfl) _ | exact kl_c Site.d _ (fun _ => by with_reducible rfl) _ | exact kl_c stD _ (fun _ => by with_reducible rfl) _ | exact kl_c rowD _ (fun _ => by with_reducible rfl) _ | exact kl_c ptD _ (fun _ => by with_reducible rfl) _ | exact kl_c lrD _ (fun _ => by with_reducible rfl) _ | exact rfl))
  | ((with_reducible apply cv_Nm); array_get_dec; assumption; (first | assumption | (simp only [List.length_range, List.length_map, List.length_zip, List.length_drop, List.length_take, List.length_reverse, List.length_append, List.length_cons, List.length_nil, big]; omega)); (intro _; exact rfl); (intro _ _ _; array_get_dec); (first | with_reducible exact (rfl : List.map fr _ = _) | with_reducible exact (rfl : List.map Nm.d _ = _) | with_reducible exact (rfl : List.map wkD _ = _) | with_reducible exact (rfl : List.map natD _ = _) | with_reducible exact (rfl : List.map intD _ = _) | with_reducible exact (rfl : List.map PyData.int _ = _) | with_reducible exact (rfl : List.map PyData.bool _ = _) | with_reducible exact (rfl : List.map Site.d _ = _) | with_reducible exact (rfl : List.map stD _ = _) | with_reducible exact (rfl : List.map rowD _ = _) | with_reducible exact (rfl : List.map ptD _ = _) | with_reducible exact (rfl : List.map lrD _ = _) | exact kl_c fr _ (fun _ => by with_reducible rfl) _ | exact kl_c Nm.d _ (fun _ => by with_reducible rfl) _ | exact kl_c wkD _ (fun _ => by with_reducible rfl) _ | exact kl_c natD _ (fun _ => by with_reducible rfl) _ | exact kl_c intD _ (fun _ => by with_reducible rfl) _ | exact kl_c PyData.int _ (fun _ => by with_reducible rfl) _ | exact kl_c PyData.bool _ (fun _ => by with_reducible rfl) _ | exact kl_c Site.d _ (fun _ => by with_reducible rfl) _ | exact kl_c stD _ (fun _ => by with_reducible rfl) _ | exact kl_c rowD _ (fun _ => by with_reducible rfl) _ | exact kl_c ptD _ (fun _ => by with_reducible rfl) _ | exact kl_c lrD _ (fun _ => by with_reducible rfl) _ | exact rfl))
  | ((with_reducible apply cv_Cm); array_get_dec; assumption; (first | assumption | (simp only [List.length_range, List.length_map, List.length_zip, List.length_drop, List.length_take, List.length_reverse, List.length_append, List.length_cons, List.length_nil, big]; omega)); (intro _; exact rfl); (intro _ _ _; array_get_dec); (intro _ _ _ _; array_get_dec); (first | with_reducible exact (rfl : List.map fr _ = _) | with_reducible exact (rfl : List.map Nm.d _ = _) | with_reducible exact (rfl : List.map wkD _ = _) | with_reducible exact (rfl : List.map natD _ = _) | with_reducible exact (rfl : List.map intD _ = _) | with_reducible exact (rfl : List.map PyData.int _ = _) | with_reducible exact (rfl : List.map PyData.bool _ = _) | with_reducible exact (rfl : List.map Site.d _ = _) | with_reducible exact (rfl : List.map stD _ = _) | with_reducible exact (rfl : List.map rowD _ = _) | with_reducible exact (rfl : List.map ptD _ = _) | with_reducible exact (rfl : List.map lrD _ = _) | exact kl_c fr _ (fun _ => by with_reducible rfl) _ | exact kl_c Nm.d _ (fun _ => by with_reducible rfl) _ | exact kl_c wkD _ (fun _ => by with_reducible rfl) _ | exact kl_c natD _ (fun _ => by with_reducible rfl) _ | exact kl_c intD _ (fun _ => by with_reducible rfl) _ | exact kl_c PyData.int _ (fun _ => by with_reducible rfl) _ | exact kl_c PyData.bool _ (fun _ => by with_reducible rfl) _ | exact kl_c Site.d _ (fun _ => by with_reducible rfl) _ | exact kl_c stD _ (fun _ => by with_reducible rfl) _ | exact kl_c rowD _ (fun _ => by with_reducible rfl) _ | exact kl_c ptD _ (fun _ => by with_reducible rfl) _ | exact kl_c lrD _ (fun _ => by with_reducible rfl) _ | exact rfl))
  | ((with_reducible apply cv_Nk); array_get_dec; (first | assumption | (simp only [List.length_range, List.length_map, List.length_zip, List.length_drop, List.length_take, List.length_reverse, List.length_append, List.length_cons, List.length_nil, big]; omega)); (intro _; exact rfl); (intro _ _ _; array_get_dec); (first | with_reducible exact (rfl : List.map fr _ = _) | with_reducible exact (rfl : List.map Nm.d _ = _) | with_reducible exact (rfl : List.map wkD _ = _) | with_reducible exact (rfl : List.map natD _ = _) | with_reducible exact (rfl : List.map intD _ = _) | with_reducible exact (rfl : List.map PyData.int _ = _) | with_reducible exact (rfl : List.map PyData.bool _ = _) | with_reducible exact (rfl : List.map Site.d _ = _) | with_reducible exact (rfl : List.map stD _ = _) | with_reducible exact (rfl : List.map rowD _ = _) | with_reducible exact (rfl : List.map ptD _ = _) | with_reducible exact (rfl : List.map lrD _ = _) | exact kl_c fr _ (fun _ => by with_reducible rfl) _ | exact kl_c Nm.d _ (fun _ => by with_reducible rfl) _ | exact kl_c wkD _ (fun _ => by with_reducible rfl) _ | exact kl_c natD _ (fun _ => by with_reducible rfl) _ | exact kl_c intD _ (fun _ => by with_reducible rfl) _ | exact kl_c PyData.int _ (fun _ => by with_reducible rfl) _ | exact kl_c PyData.bool _ (fun _ => by with_reducible rfl) _ | exact kl_c Site.d _ (fun _ => by with_reducible rfl) _ | exact kl_c stD _ (fun _ => by with_reducible rfl) _ | exact kl_c rowD _ (fun _ => by with_reducible rfl) _ | exact kl_c ptD _ (fun _ => by with_reducible rfl) _ | exact kl_c lrD _ (fun _ => by with_reducible rfl) _ | exact rfl)))
local macro_rules | `(tactic| array_mem_dec) => `(tactic| first
  | with_reducible assumption
  | with_reducible exact b_addI
  | with_reducible exact b_subI
  | ((with_reducible apply b_mulI); assumption)
  | with_reducible exact site_p
  | with_reducible exact site_n
  | with_reducible exact site_o
  | with_reducible exact wk_pos
  | with_reducible exact wk_nm
  | with_reducible exact fr_num
  | with_reducible exact fr_den
  | with_reducible exact wd_w
  | with_reducible exact wd_p
  | with_reducible exact st_t
  | with_reducible exact st_s
  | with_reducible exact i2_0
  | with_reducible exact i2_1
  | with_reducible exact i3_0
  | with_reducible exact i3_1
  | with_reducible exact i3_2
  | with_reducible exact pt_0
  | with_reducible exact pt_1
  | with_reducible exact src_l
  | with_reducible exact src_t
  | ((with_reducible apply src_m); assumption)
  | with_reducible exact zip_lm
  | with_reducible exact zip_tm
  | with_reducible exact enum_lm
  | with_reducible exact len_lm
  | with_reducible exact len_tm
  | with_reducible exact bi_tup
  | with_reducible exact bi_tupT
  | with_reducible exact bi_lstT
  | with_reducible exact bi_lst
  | with_reducible exact bi_abs
  | with_reducible exact bi_max
  | with_reducible exact bi_min
  | with_reducible exact rv_m
  | with_reducible exact cmp_eq_int _ _ _
  | with_reducible exact cmp_ne_int _ _ _
  | with_reducible exact cmp_lt_int _ _ _
  | with_reducible exact cmp_le_int _ _ _
  | with_reducible exact cmp_gt_int _ _ _
  | with_reducible exact cmp_ge_int _ _ _
  | with_reducible exact eq_nil
  | with_reducible exact ne_nil
  | with_reducible exact eq_nilT
  | with_reducible exact ne_nilT
  | ((with_reducible apply eq_nilm); assumption; exact inferInstance)
  | ((with_reducible apply ne_nilm); assumption; exact inferInstance)
  | with_reducible exact eq_x
  | with_reducible exact ne_x
  | with_reducible exact eq_xl
  | with_reducible exact ne_xl
  | ((with_reducible apply ne_xm); assumption; exact inferInstance; exact inferInstance)
  | ((with_reducible apply ne_mx); assumption; exact inferInstance; exact inferInstance)
  | with_reducible exact mem_l
  | with_reducible exact mem_t
  | with_reducible exact nmem_l
  | with_reducible exact nmem_t
  | ((with_reducible apply mem_m); assumption; exact inferInstance; exact inferInstance)
  | ((with_reducible apply sl_from); exact rfl)
  | ((with_reducible apply sl_fromT); exact rfl)
  | ((with_reducible apply ix_first); assumption)
  | ((with_reducible apply ix_last); assumption)
  | ((with_reducible apply ix_k); (first | with_reducible exact rfl | exact nat_succ _ | exact nat_pred _ (by omega)); first | assumption | exact rfl)
  | ((with_reducible apply ix_kT); (first | with_reducible exact rfl | exact nat_succ _ | exact nat_pred _ (by omega)); first | assumption | exact rfl)
  | with_reducible exact frz_last
  | ((with_reducible apply frz_at); assumption)
  | ((with_reducible apply app_m); assumption; (first | assumption | (simp only [List.length_range, List.length_map, List.length_zip, List.length_drop, List.length_take, List.length_reverse, List.length_append, List.length_cons, List.length_nil, big]; omega)))
  | ((with_reducible apply seq_m); assumption)
  | with_reducible exact seq_l
  | with_reducible exact seq_t)
local macro_rules | `(tactic| infer_instance) => `(tactic| first
  | ((with_reducible apply s_asg); array_get_dec; (first | (simp only [evT, evTs, evPar, evPs, Option.bind_some, List.set_cons_zero, List.set_cons_succ]; with_reducible exact rfl) | (simp only [evT, evTs, evPar, evPs, stD, wkD, rowD, ptD, Site.d, lrD, Option.bind_some, List.set_cons_zero, List.set_cons_succ]; exact rfl)))
  | ((with_reducible apply s_retv); array_get_dec)
  | ((with_reducible apply s_par); array_get_dec; (first | (simp only [evT, evTs, evPar, evPs, Option.bind_some, List.set_cons_zero, List.set_cons_succ]; with_reducible exact rfl) | (simp only [evT, evTs, evPar, evPs, stD, wkD, rowD, ptD, Site.d, lrD, Option.bind_some, List.set_cons_zero, List.set_cons_succ]; exact rfl)))
  | ((with_reducible apply s_parC); array_get_dec; (first | (simp only [evT, evTs, evPar, evPs, Option.bind_some, List.set_cons_zero, List.set_cons_succ]; with_reducible exact rfl) | (simp only [evT, evTs, evPar, evPs, stD, wkD, rowD, ptD, Site.d, lrD, Option.bind_some, List.set_cons_zero, List.set_cons_succ]; exact rfl)))
  | ((with_reducible apply s_mthd); array_get_dec; (apply cell_at); assumption; array_get_dec; array_mem_dec)
  | ((with_reducible apply s_callv); array_get_dec; exact rfl; sizeOf_list_dec; exact rfl)
  | ((with_reducible apply s_ifr); array_get_dec)
  | ((with_reducible apply s_if); array_get_dec))
local macro_rules | `(tactic| bv_omega) => `(tactic| first | with_reducible assumption | (first | assumption | (simp only [List.length_range, List.length_map, List.length_zip, List.length_drop, List.length_take, List.length_reverse, List.length_append, List.length_cons, List.length_nil, big]; omega)) | omega | solve_by_elim)
local macro_rules | `(tactic| sizeOf_list_dec) => `(tactic| with_reducible assumption)
local macro_rules | `(tactic| array_mem_dec) => `(tactic| with_reducible exact len_sites)
local macro_rules | `(tactic| sizeOf_list_dec) => `(tactic| ((with_reducible apply speeds_of_run) <;> bv_omega))
local macro_rules | `(tactic| sizeOf_list_dec) => `(tactic| ((with_reducible apply plus_run) <;> bv_omega))
local macro_rules | `(tactic| sizeOf_list_dec) => `(tactic| ((with_reducible apply minus_run) <;> bv_omega))
local macro_rules | `(tactic| sizeOf_list_dec) => `(tactic| ((with_reducible apply times_run) <;> bv_omega))
local macro_rules | `(tactic| sizeOf_list_dec) => `(tactic| ((with_reducible apply less_run) <;> bv_omega))
local macro_rules | `(tactic| sizeOf_list_dec) => `(tactic| ((with_reducible apply ascending_run) <;> bv_omega))
local macro_rules | `(tactic| sizeOf_list_dec) => `(tactic| ((with_reducible apply speed_of_run) <;> bv_omega))
local macro_rules | `(tactic| sizeOf_list_dec) => `(tactic| ((with_reducible apply law_plus_run) <;> bv_omega))
local macro_rules | `(tactic| sizeOf_list_dec) => `(tactic| ((with_reducible apply law_minus_run) <;> bv_omega))
local macro_rules | `(tactic| sizeOf_list_dec) => `(tactic| ((with_reducible apply law_times_run) <;> bv_omega))
local macro_rules | `(tactic| sizeOf_list_dec) => `(tactic| ((with_reducible apply law_less_run) <;> bv_omega))
local macro_rules | `(tactic| sizeOf_list_dec) => `(tactic| ((with_reducible apply ordered_run) <;> bv_omega))
local macro_rules | `(tactic| sizeOf_list_dec) => `(tactic| ((with_reducible apply law_names_run) <;> bv_omega))
local macro_rules | `(tactic| sizeOf_list_dec) => `(tactic| ((with_reducible apply names_of_run) <;> bv_omega))
local macro_rules | `(tactic| sizeOf_list_dec) => `(tactic| ((with_reducible apply require_world_run) <;> bv_omega))
local macro_rules | `(tactic| sizeOf_list_dec) => `(tactic| ((with_reducible apply require_time_run) <;> bv_omega))
local macro_rules | `(tactic| sizeOf_list_dec) => `(tactic| ((with_reducible apply require_name_run) <;> bv_omega))
local macro_rules | `(tactic| sizeOf_list_dec) => `(tactic| ((with_reducible apply law_speed_run) <;> bv_omega))
local macro_rules | `(tactic| array_mem_dec) => `(tactic| with_reducible exact lr_0)
local macro_rules | `(tactic| array_mem_dec) => `(tactic| with_reducible exact lr_1)
local macro_rules | `(tactic| array_mem_dec) => `(tactic| with_reducible exact lr_2)
local macro_rules | `(tactic| array_mem_dec) => `(tactic| ((with_reducible apply add_lm) <;> bv_omega))
local macro_rules | `(tactic| array_mem_dec) => `(tactic| ((with_reducible apply app_lr) <;> bv_omega))
local macro_rules | `(tactic| array_mem_dec) => `(tactic| with_reducible exact sl_1)
local macro_rules | `(tactic| array_mem_dec) => `(tactic| with_reducible exact sl_1T)

abbrev HL (w : Wd) : List (Rat × List Site) := histL 12 0 (sites0 w)
/-- the state ss at the time q, out of the last row r of the history -/
structure At (w : Wd) (q : Rat) (r : Rat × List Site) (ss : List Site) : Prop where
  rin : r ∈ HL w
  flt : ((HL w).filter fun x => !decide (q < x.1)).getLast? = some r
  le : r.1 ≤ q
  free : Free r.2 (q - r.1)
  sir : SI w r.2
  gir : ∃ n D, GI n D r.1 r.2
  gi : ∃ n D, GI n D q ss
  si : SI w ss
  eq : ss = if r.1 = q then r.2 else moveS r.2 (q - r.1)
  run : ∀ M, F_sites_at.run [.d (.list ((HL w).map stD)), .d (fr q)] M = some (.ret (.d (sitesD ss)), M)
  smq : sm q
  q0 : 0 ≤ q
  smr : sm r.1
  smd : sm (q - r.1)
  ws : ∀ j, j < r.2.length → sm ((q - r.1) * ((spd r.2 j : Int) : Rat))
theorem hl_gi {w : Wd} (g : WG w) : ∀ x ∈ HL w, ∃ n D, GI n D x.1 x.2 ∧ D * 2 ^ n = 24576 ∧ n ≤ 12 := fun x hx => by
  obtain ⟨_, n, D, h1, h2, h3⟩ := hist_gi (gi0 g) x hx
  exact ⟨n, D, h1, h2, h3⟩
theorem hl_gr {w : Wd} (g : WG w) : ∀ x ∈ HL w, Gr 24576 x.1 ∧ 0 ≤ x.1 ∧ x.1 ≤ 1000000000 ∧ ∃ D, D ≤ 24576 ∧ 0 < D ∧ Gr D x.1 := fun x hx => by
  obtain ⟨n, D, h1, h2, h3⟩ := hl_gi g x hx
  have e : 24576 = 2 ^ n * D := by rw [Nat.mul_comm]; exact h2.symm
  refine ⟨by rw [e]; exact h1.gt.up _, h1.t0, ?_, D, ?_, h1.D0, h1.gt⟩
  · have := h1.t1
    have h2 : (0 : Rat) ≤ (n : Rat) := Rat.natCast_nonneg
    grind
  · rw [e]
    exact Nat.le_mul_of_pos_left D (Nat.two_pow_pos n)
theorem at_mk {w : Wd} (hw : WOk w) (g : WG w) {E : Nat} {q : Rat} (hE0 : 0 < E) (hE : E < 2 ^ 200) (hq : Gr E q) (q0 : 0 ≤ q) (q1 : q ≤ 100000000) : ∃ r ss, At w q r ss := by
  obtain ⟨r, h1, h2, h3, h4⟩ := hist_at (q := q) (gi0 g) q0
  obtain ⟨n, D, h5, h6, h7⟩ := hl_gi g r h2
  have hb : E * D * 2 ^ n * 2 < 2 ^ 300 := by
    rw [Nat.mul_assoc E, h6]
    have : (2 : Nat) ^ 200 * 49152 < 2 ^ 300 := by decide +kernel
    omega
  have g1 : GI n (E * D) r.1 r.2 := h5.up hE0 (by omega)
  have hf : Free r.2 (q - r.1) := fun u hu => by
    have := h4 u hu
    grind
  have hsi := hist_si (gi0 g) (si0 hw.dis) r h2
  have hv0 : 0 ≤ q - r.1 := by grind
  have hm := free_le h5.asc hv0 hf
  have gq : Gr (2 * (E * D)) q := by
    have := hq.up (2 * D)
    rw [show 2 * D * E = 2 * (E * D) by rw [Nat.mul_assoc, Nat.mul_comm D]] at this
    exact this
  have gd : Gr (2 * (E * D)) (q - r.1) := gq.sub (g1.gt.up 2)
  have hn : ((n : Nat) : Rat) ≤ 12 := by
    have := Rat.natCast_le_natCast.mpr h7
    exact this
  have hr0 := h5.t0
  have h8 : 2 * (E * D) * 2 ^ n < 2 ^ 300 := by
    rw [Nat.mul_assoc 2, Nat.mul_comm 2]
    exact hb
  obtain ⟨mz, g2⟩ := g1.to hm gd hv0 (by grind) h8 (by grind)
  have e1 : r.1 + (q - r.1) = q := by grind
  rw [e1] at g2
  have sq : sm q := sm_B (D := 2 * (E * D)) g2.D0 g2.d1 gq (by grind) (by grind)
  have hL : (HL w).length ≤ 10000 := Nat.le_trans (hist_len (n := 12) (t := 0) (ss := sites0 w)) (by decide)
  have hsm : ∀ x ∈ HL w, sm x.1 := fun x hx => by
    obtain ⟨_, _, a, _, _⟩ := hl_gi g x hx
    exact a.smt
  refine ⟨r, if r.1 = q then r.2 else moveS r.2 (q - r.1), h2, h1, h3, hf, hsi, ⟨n, D, h5⟩, ?_, ?_, rfl, sites_at_run hL hsm sq h1 (fun _ => mz), sq, q0, h5.smt, mz.sw, mz.ws⟩
  · split
    · rename_i e
      exact ⟨n, D, e ▸ h5⟩
    · exact ⟨n, _, g2⟩
  · split
    · exact hsi
    · exact (si_move hsi hm).1
section
variable {w : Wd} {q : Rat} {r : Rat × List Site} {ss : List Site}
theorem At.sz (a : At w q r ss) : Sz ss := by
  obtain ⟨n, D, g⟩ := a.gi
  exact g.sz
theorem At.all (a : At w q r ss) : AllIn w ss := a.si.one
/-- a state at rest in a move of no time -/
theorem At.mv (a : At w q r ss) : ss.length = r.2.length ∧ (∀ i, i < r.2.length → pos ss i = pos r.2 i + (q - r.1) * ((spd r.2 i : Int) : Rat)) ∧ (∀ i, i < r.2.length → spd ss i = spd r.2 i) ∧ ∀ n, plc ss n = plc r.2 n := by
  have e := a.eq
  by_cases h : r.1 = q
  · rw [if_pos h] at e
    subst e
    refine ⟨rfl, fun i hi => ?_, fun i hi => rfl, fun n => rfl⟩
    rw [h]
    grind
  · rw [if_neg h] at e
    have hv0 : 0 ≤ q - r.1 := by have := a.le; grind
    have hasc := a.sir.asc
    have e2 := free_shift hasc hv0 a.free
    refine ⟨by rw [e, e2, shift_len], fun i hi => by rw [e, e2, shift_pos hi]; rfl, fun i hi => by rw [e]; exact free_spd hasc hv0 a.free hi, fun n => ?_⟩
    rw [e, e2]
    unfold plc placeOf
    rw [shift_len]
    congr 2
    refine List.filter_congr fun i hi => ?_
    have hi := List.mem_range.mp hi
    congr 1
    rw [sAt_at hi, sAt_at (by rw [shift_len]; exact hi)]
    simp only [shiftS, List.getElem_map, List.getElem_range]
    rw [sAt_at hi]
theorem At.here (a : At w q r ss) : here w ss = ((here w r.2).zip (sps w r.2)).map fun p => p.1 + (q - r.1) * ((p.2 : Int) : Rat) := by
  unfold NW.here sps
  rw [List.zip_map', List.map_map]
  refine List.map_congr_left fun x hx => ?_
  obtain ⟨_, h2, _, h4⟩ := a.mv
  rw [h4, h2 _ (si_pos a.sir hx).1]
  rfl
theorem At.sps (a : At w q r ss) : sps w ss = sps w r.2 := by
  unfold NW.sps
  refine List.map_congr_left fun x hx => ?_
  obtain ⟨_, _, h3, h4⟩ := a.mv
  rw [h4, h3 _ (si_pos a.sir hx).1]
theorem law_at : ((lawL w (HL w)).filter fun x => !decide (q < x.1)) = ((HL w).filter fun x => !decide (q < x.1)).map fun x => (x.1, here w x.2, sps w x.2) := by
  unfold lawL
  rw [List.filter_map]
  rfl
end
theorem lw_3 {w : Wd} {L : List (Rat × List Site)} {x : Rat × List Rat × List Int} (h : x ∈ lawL w L) : ∃ y ∈ L, x = (y.1, here w y.2, sps w y.2) := by
  obtain ⟨y, hy, rfl⟩ := List.mem_map.mp h
  exact ⟨y, hy, rfl⟩
theorem law_len {w : Wd} : (lawL w (HL w)).length ≤ 13 := by
  unfold lawL
  rw [List.length_map]
  exact hist_len
/-- the laws' places at a time -/
theorem law_places_run {w : Wd} {q : Rat} {r : Rat × List Site} {ss : List Site} (hw : WOk w) (g : WG w) (a : At w q r ss) (M : Mem) : F_law_places.run [.d (.list ((lawL w (HL w)).map lrD)), .d (fr q)] M = some (.ret (.d (.list ((here w ss).map fr))), M) := by
  have hl := law_len (w := w)
  have h8 := hw.n8
  have hb : big = 1000000 := rfl
  have hlb : (lawL w (HL w)).length ≤ big := by omega
  have s1 := a.smq
  have s2 := a.smr
  have s3 := a.smd
  have s4 : ∀ x ∈ lawL w (HL w), sm x.1 := fun x hx => by
    obtain ⟨y, hy, rfl⟩ := lw_3 hx
    obtain ⟨_, _, a, _, _⟩ := hl_gi g y hy
    exact a.smt
  have hlast : ((lawL w (HL w)).filter fun x => !decide (q < x.1)).getLast? = some (r.1, here w r.2, sps w r.2) := by
    rw [law_at, List.getLast?_map, a.flt]
    rfl
  have hil := fun f : Rat × List Rat × List Int → PyData => ix_last (f := f) (M := M) hlast
  have hzl : ((here w r.2).zip (sps w r.2)).length ≤ big := by rw [List.length_zip, here_len]; omega
  obtain ⟨n, D, gr⟩ := a.gir
  have z1 : ∀ p ∈ (here w r.2).zip (sps w r.2), sm p.1 := fun p hp => gi_sm gr _ (here_mem a.sir _ (List.of_mem_zip (a := p.1) (b := p.2) hp).1)
  have z2 : ∀ p ∈ (here w r.2).zip (sps w r.2), sm ((p.2 : Int) : Rat) := fun p hp => sps_sm (List.of_mem_zip (a := p.1) (b := p.2) hp).2
  have z3 : ∀ p ∈ (here w r.2).zip (sps w r.2), sm ((q - r.1) * ((p.2 : Int) : Rat)) := fun p hp => by
    obtain ⟨y, hy, e⟩ := List.mem_map.mp (List.of_mem_zip (a := p.1) (b := p.2) hp).2
    rw [← e]
    exact a.ws _ (si_pos a.sir hy).1
  refine run_dfR (env := [some _, some _, none, none, none, none, none, none, none]) rfl ?_ rfl; dsimp only [t_law_places]
  apply s_asg
  · apply ev_idx
    · array_get_dec
    · array_get_dec
    · exact hil _
  · (first | (simp only [evT, evTs, evPar, evPs, Option.bind_some, List.set_cons_zero, List.set_cons_succ]; with_reducible exact rfl) | (simp only [evT, evTs, evPar, evPs, stD, wkD, rowD, ptD, Site.d, lrD, Option.bind_some, List.set_cons_zero, List.set_cons_succ]; exact rfl))
  infer_instance
  infer_instance
  rw [← a.here]
  exact fin_d
local macro_rules | `(tactic| sizeOf_list_dec) => `(tactic| ((with_reducible apply law_places_run) <;> bv_omega))
theorem hist_t : ∀ {n D : Nat} {t : Rat} {ss : List Site}, GI n D t ss → ∀ x ∈ histL n t ss, x.1 ≤ t + 2000000 * (n : Rat)
  | 0, D, t, ss, g, x, hx => by
    have : x = (t, ss) := by simpa [histL] using hx
    subst this
    have : ((0 : Nat) : Rat) = 0 := rfl
    grind
  | n + 1, D, t, ss, g, x, hx => by
    have h0 : (0 : Rat) ≤ (n : Rat) := Rat.natCast_nonneg
    have h1 : ((n + 1 : Nat) : Rat) = (n : Rat) + 1 := by rw [Rat.natCast_add]; rfl
    rw [h1]
    cases hc : cont ss with
    | none =>
      rw [hist_none hc] at hx
      have : x = (t, ss) := by simpa using hx
      subst this
      grind
    | some v =>
      rw [hist_some hc] at hx
      obtain ⟨⟨i, hi, h2, h3⟩, _⟩ := cont_some hc
      have h4 := (wt_bd g hi h2).2
      rw [← h3] at h4
      rcases List.mem_cons.mp hx with rfl | hx
      · grind
      · have := hist_t (g.next hc).2 x hx
        grind
theorem hl_tm {w : Wd} (g : WG w) : ∀ x ∈ HL w, Gr 24576 x.1 ∧ 0 ≤ x.1 ∧ x.1 ≤ 24000000 := fun x hx => by
  obtain ⟨h1, h2, _⟩ := hl_gr g x hx
  refine ⟨h1, h2, ?_⟩
  have := hist_t (gi0 g) x hx
  have e : ((12 : Nat) : Rat) = 12 := rfl
  rw [e] at this
  grind
/-- a time on the laws' grid -/
def TmOk (q : Rat) : Prop := Gr 82575360 q ∧ 0 ≤ q ∧ q ≤ 50000000
theorem grid_lt : (82575360 : Nat) < 2 ^ 200 ∧ (82575360 : Nat) < 2 ^ 301 := by
  have h : (2 : Nat) ^ 30 ≤ 2 ^ 200 := Nat.pow_le_pow_right (by decide) (by decide)
  have h2 : (2 : Nat) ^ 30 ≤ 2 ^ 301 := Nat.pow_le_pow_right (by decide) (by decide)
  omega
theorem TmOk.sm {q : Rat} (h : TmOk q) : sm q := sm_B (D := 82575360) (by decide) grid_lt.2 h.1 (by have := h.2.1; grind) (by have := h.2.2; grind)
theorem TmOk.at {w : Wd} {q : Rat} (hw : WOk w) (g : WG w) (h : TmOk q) : ∃ r ss, At w q r ss := at_mk hw g (by decide) grid_lt.1 h.1 h.2.1 (by have := h.2.2; grind)
def tsL (w : Wd) : List Rat := (HL w).map (·.1)
theorem tsL_ok {w : Wd} (g : WG w) : ∀ q ∈ tsL w, Gr 24576 q ∧ 0 ≤ q ∧ q ≤ 24000000 := fun q hq => by
  obtain ⟨x, hx, rfl⟩ := List.mem_map.mp hq
  exact hl_tm g x hx
theorem tsL_tm {w : Wd} (g : WG w) : ∀ q ∈ tsL w, TmOk q := fun q hq => by
  obtain ⟨h1, h2, h3⟩ := tsL_ok g q hq
  exact ⟨h1.up 3360, h2, by grind⟩
def midS (ts : List Rat) : List Rat := (ts.zip (ts.drop 1)).map fun p => (p.1 + p.2) * (1 / 2)
def timesOf (w : Wd) : List Rat := asc (tsL w ++ midS (tsL w) ++ [((tsL w).getLast?.getD 0) + 7 / 3])
theorem mid_tm {w : Wd} (g : WG w) : ∀ p ∈ (tsL w).zip ((tsL w).drop 1), TmOk p.1 ∧ TmOk p.2 ∧ TmOk (p.1 + p.2) ∧ TmOk ((p.1 + p.2) * (1 / 2)) := fun p hp => by
  have h := List.of_mem_zip (a := p.1) (b := p.2) hp
  have a := tsL_ok g _ h.1
  have b := tsL_ok g _ (List.mem_of_mem_drop h.2)
  refine ⟨tsL_tm g _ h.1, tsL_tm g _ (List.mem_of_mem_drop h.2), ⟨(a.1.add b.1).up 3360, by grind, by grind⟩, ⟨?_, by grind, by grind⟩⟩
  have := ((a.1.add b.1).half).up 1680
  rw [show (p.1 + p.2) * (1 / 2) = (p.1 + p.2) / 2 by grind]
  exact this
theorem last_tm {w : Wd} (g : WG w) : ∃ z, (HL w).getLast? = some z ∧ (tsL w).getLast? = some z.1 ∧ TmOk z.1 ∧ TmOk (z.1 + 7 / 3) := by
  obtain ⟨z, hz⟩ : ∃ z, (HL w).getLast? = some z := ⟨_, List.getLast?_eq_some_getLast hist_ne⟩
  have h := hl_tm g z (List.mem_of_getLast? hz)
  refine ⟨z, hz, by unfold tsL; rw [List.getLast?_map, hz]; rfl, ⟨h.1.up 3360, h.2.1, by grind⟩, ⟨?_, by grind, by grind⟩⟩
  refine (h.1.up 3360).add ⟨7 * 27525120, by decide +kernel⟩
theorem timesOf_ok {w : Wd} (g : WG w) : ∀ q ∈ timesOf w, TmOk q := fun q hq => by
  unfold timesOf at hq
  rcases List.mem_append.mp (mem_asc.mp hq) with h | h
  · rcases List.mem_append.mp h with h | h
    · exact tsL_tm g q h
    · obtain ⟨p, hp, rfl⟩ := List.mem_map.mp h
      exact (mid_tm g p hp).2.2.2
  · obtain ⟨z, _, h2, _, h4⟩ := last_tm g
    rw [h2] at h
    have : q = z.1 + 7 / 3 := by simpa using h
    rw [this]
    exact h4
theorem add_l1 {α : Type} {f : α → D} {xs : List α} {x : α} {M : Mem} (h : xs.length < big) : evBin .add (.d (.list (xs.map f))) (.d (.list [f x])) M = some (.d (.list ((xs ++ [x]).map f)), M) := by
  rw [b_addL (by rw [List.length_map]; exact h), List.map_append]
  rfl
local macro_rules | `(tactic| array_mem_dec) => `(tactic| ((with_reducible apply add_l1) <;> bv_omega))
theorem tsL_len {w : Wd} : (tsL w).length ≤ 13 := by
  unfold tsL
  rw [List.length_map]
  exact hist_len
theorem half_sm : sm (1 / 2) := ⟨by decide +kernel, by decide +kernel⟩
theorem t73_sm : sm (7 / 3) := ⟨by decide +kernel, by decide +kernel⟩
theorem law_times_of_run {w : Wd} (hw : WOk w) (g : WG w) (M : Mem) : F_law_times_of.run [.d (.list ((lawL w (HL w)).map lrD))] M = some (.ret (.d (.list ((timesOf w).map fr))), M) := by
  have hl := law_len (w := w)
  have hb : big = 1000000 := rfl
  have hlb : (lawL w (HL w)).length ≤ big := by omega
  have e1 : (lawL w (HL w)).map (fun x => x.1) = tsL w := by
    unfold lawL tsL
    rw [List.map_map]
    rfl
  have htl := tsL_len (w := w)
  have z1 : ∀ p ∈ (tsL w).zip ((tsL w).drop 1), sm p.1 := fun p hp => (mid_tm g p hp).1.sm
  have z2 : ∀ p ∈ (tsL w).zip ((tsL w).drop 1), sm p.2 := fun p hp => (mid_tm g p hp).2.1.sm
  have z3 : ∀ p ∈ (tsL w).zip ((tsL w).drop 1), sm (p.1 + p.2) := fun p hp => (mid_tm g p hp).2.2.1.sm
  have hh := half_sm
  have h73 := t73_sm
  obtain ⟨z, hz, ht, hz1, hz2⟩ := last_tm g
  have s1 := hz1.sm
  refine run_dfR (env := [some _, none, none, none, none]) rfl ?_ rfl; dsimp only [t_law_times_of]
  infer_instance
  rw [e1]
  refine s_for (f := fun p : Rat × Rat => PyData.tuple [fr p.1, fr p.2]) (xs := (tsL w).zip ((tsL w).drop 1)) (fun i env M' => M' = M ∧ ∃ e3 e4, env = [some (.d (.list ((lawL w (HL w)).map lrD))), some (.d (.list ((tsL w ++ (midS (tsL w)).take i).map fr))), none, e3, e4]) ?_ ⟨rfl, _, _, by rw [List.take_zero, List.append_nil]⟩ ?_ ?_
  · array_get_dec
  · rintro i hi env M' ⟨rfl, e3, e4, rfl⟩
    refine ⟨_, rfl, ?_⟩
    have hx := List.getElem_mem hi
    have hnx : (midS (tsL w)).take (i + 1) = (midS (tsL w)).take i ++ [(((tsL w).zip ((tsL w).drop 1))[i].1 + ((tsL w).zip ((tsL w).drop 1))[i].2) * (1 / 2)] := by
      rw [List.take_succ_eq_append_getElem (by unfold midS; rw [List.length_map]; exact hi)]
      unfold midS
      rw [List.getElem_map]
    rw [hnx, ← List.append_assoc]
    have hlen : (tsL w ++ (midS (tsL w)).take i).length < big := by
      rw [List.length_append, List.length_take]
      have : (midS (tsL w)).length ≤ 13 := by unfold midS; rw [List.length_map, List.length_zip]; omega
      omega
    generalize (midS (tsL w)).take i = ms at hlen
    generalize ((tsL w).zip ((tsL w).drop 1))[i] = p at hx
    have a1 := z1 p hx
    have a2 := z2 p hx
    have a3 := z3 p hx
    infer_instance
    exact s_end ⟨rfl, _, _, rfl⟩
  · rintro env M' ⟨rfl, e3, e4, rfl⟩
    have hml : (midS (tsL w)).length = ((tsL w).zip ((tsL w).drop 1)).length := by unfold midS; rw [List.length_map]
    rw [← hml, List.take_length]
    have hml2 : (midS (tsL w)).length ≤ 13 := by rw [hml, List.length_zip]; omega
    have hlast : (lawL w (HL w)).getLast? = some (z.1, here w z.2, sps w z.2) := by
      unfold lawL
      rw [List.getLast?_map, hz]
      rfl
    have hl1 : (tsL w ++ midS (tsL w)).length < big := by rw [List.length_append]; omega
    have hl2 : (tsL w ++ midS (tsL w) ++ [z.1 + 7 / 3]).length ≤ 100000 := by rw [List.length_append, List.length_append, List.length_singleton]; omega
    have hs : ∀ q ∈ tsL w ++ midS (tsL w) ++ [z.1 + 7 / 3], sm q := fun q hq => by
      have := timesOf_ok g q (by unfold timesOf; rw [ht]; exact mem_asc.mpr hq)
      exact this.sm
    infer_instance
    show finish _ _ = _
    unfold timesOf
    rw [ht]
    exact fin_d
local macro_rules | `(tactic| sizeOf_list_dec) => `(tactic| ((with_reducible apply law_times_of_run) <;> bv_omega))
end NW

set_option Elab.async false
set_option linter.all false
set_option maxRecDepth 100000
set_option maxHeartbeats 4000000
set_option exponentiation.threshold 100000
/-! Gaps and their rates. -/
namespace NW
open PySem
local macro_rules | `(tactic| array_get_dec) => `(tactic| first
  | with_reducible assumption
  | ((with_reducible apply ev_var); exact rfl)
  | with_reducible exact ev_int
  | with_reducible exact ev_neg1
  | with_reducible exact ev_none
  | with_reducible exact ev_bl
  | with_reducible exact ev_str
  | with_reducible exact ev_con
  | with_reducible exact ev_es0
  | ((with_reducible apply ev_es); array_get_dec; array_get_dec)
  | ((with_reducible apply ev_call); array_get_dec; exact rfl; sizeOf_list_dec; exact rfl)
  | ((with_reducible apply ts_of); array_get_dec)
  | ((with_reducible apply ev_pos); array_get_dec; array_get_dec; (first | with_reducible exact rfl | exact nat_succ _ | exact nat_pred _ (by omega)); first | assumption | omega)
  | ((with_reducible apply ev_idx); array_get_dec; array_get_dec; array_mem_dec)
  | ((with_reducible apply ev_bin); array_get_dec; array_get_dec; array_mem_dec)
  | ((with_reducible apply ev_cmp); array_get_dec; array_get_dec; array_mem_dec)
  | ((with_reducible apply ev_bi); array_get_dec; array_mem_dec)
  | with_reducible exact ev_ho
  | with_reducible exact ev_zo
  | with_reducible exact ev_73
  | ((with_reducible apply ev_io); array_get_dec)
  | ((with_reducible apply ev_oi); array_get_dec; assumption)
  | ((with_reducible apply ev_tup); array_get_dec; exact rfl; first | decide | simp [big])
  | ((with_reducible apply ev_lst); array_get_dec; exact rfl; first | decide | simp [big])
  | ((with_reducible apply ev_new); array_get_dec; exact rfl; first | decide | simp [big])
  | ((with_reducible apply ev_newL); array_get_dec; array_mem_dec)
  | ((with_reducible apply ev_not); array_get_dec)
  | ((with_reducible apply ev_andP); array_get_dec; intro _; array_get_dec)
  | ((with_reducible apply ev_orP); array_get_dec; intro _; array_get_dec)
  | ((with_reducible apply ev_ifeP); array_get_dec; (intro _; array_get_dec); intro _; array_get_dec)
  | ((with_reducible apply ev_isN); array_get_dec)
  | ((with_reducible apply ev_notN); array_get_dec)
  | ((with_reducible apply ev_negP); array_get_dec)
  | ((with_reducible apply ev_rev); array_get_dec; array_mem_dec)
  | ((with_reducible apply ev_frz); array_get_dec; array_mem_dec)
  | with_reducible exact ev_o0
  | ((with_reducible apply ev_o1); array_get_dec)
  | ((with_reducible apply ev_slc); array_get_dec; array_get_dec; array_get_dec; array_mem_dec)
  | ((with_reducible apply iv_seq); array_get_dec; array_mem_dec)
  | ((with_reducible apply iv_zip); array_get_dec; array_get_dec; array_mem_dec)
  | ((with_reducible apply iv_enum); array_get_dec; array_mem_dec)
  | ((with_reducible apply iv_rng1); array_get_dec; omega; omega)
  | ((with_reducible apply iv_rng2); array_get_dec; array_get_dec; omega; omega; omega; omega)
  | ((with_reducible apply cv_N); array_get_dec; (first | assumption | (simp only [List.length_range, List.length_map, List.length_zip, List.length_drop, List.length_take, List.length_reverse, List.length_append, List.length_cons, List.length_nil, big]; omega)); (intro _; exact rfl); (intro _ _ _; array_get_dec); (first | with_reducible exact (rfl : List.map fr _ = _) | with_reducible exact (rfl : List.map Nm.d _ = _) | with_reducible exact (rfl : List.map wkD _ = _) | with_reducible exact (rfl : List.map natD _ = _) | with_reducible exact (rfl : List.map intD _ = _) | with_reducible exact (rfl : List.map PyData.int _ = _) | with_reducible exact (rfl : List.map PyData.bool _ = _) | with_reducible exact (rfl : List.map Site.d _ = _) | with_reducible exact (rfl : List.map stD _ = _) | with_reducible exact (rfl : List.map rowD _ = _) | with_reducible exact (rfl : List.map ptD _ = _) | with_reducible exact (rfl : List.map lrD _ = _) | exact kl_c fr _ (fun _ => by with_reducible rfl) _ | exact kl_c Nm.d _ (fun _ => by with_reducible rfl) _ | exact kl_c wkD _ (fun _ => by with_reducible rfl) _ | exact kl_c natD _ (fun _ => by with_reducible rfl) _ | exact kl_c intD _ (fun _ => by with_reducible rfl) _ | exact kl_c PyData.int _ (fun _ => by with_reducible rfl) _ | exact kl_c PyData.bool _ (fun _ => by with_reducible rfl) _ | exact kl_c Site.d _ (fun _ => by with_reducible rfl) _ | exact kl_c stD _ (fun _ => by with_reducible rfl) _ | exact kl_c rowD _ (fun _ => by with_reducible rfl) _ | exact kl_c ptD _ (fun _ => by with_reducible rfl) _ | exact kl_c lrD _ (fun _ => by with_reducible rfl) _ | exact rfl))
  | ((with_reducible apply cv_C); array_get_dec; (first | assumption | (simp only [List.length_range, List.length_map, List.length_zip, List.length_drop, List.length_take, List.length_reverse, List.length_append, List.length_cons, List.length_nil, big]; omega)); (intro _; exact rfl); (intro _ _ _; array_get_dec); (intro _ _ _ _; array_get_dec); (first | with_reducible exact (rfl : List.map fr _ = _) | with_reducible exact (rfl : List.map Nm.d _ = _) | with_reducible exact (rfl : List.map wkD _ = _) | with_reducible exact (rfl : List.map natD _ = _) | with_reducible exact (rfl : List.map intD _ = _) | with_reducible exact (rfl : List.map PyData.int _ = _) | with_reducible exact (rfl : List.map PyData.bool _ = _) | with_reducible exact (rfl : List.map Site.d _ = _) | with_reducible exact (rfl : List.map stD _ = _) | with_reducible exact (rfl : List.map rowD _ = _) | with_reducible exact (rfl : List.map ptD _ = _) | with_reducible exact (rfl : List.map lrD _ = _) | exact kl_c fr _ (fun _ => by with_reducible rfl) _ | exact kl_c Nm.d _ (fun _ => by with_reducible rfl) _ | exact kl_c wkD _ (fun _ => by with_reducible rfl) _ | exact kl_c natD _ (fun _ => by with_reducible rfl) _ | exact kl_c intD _ (fun _ => by with_reducible rfl) _ | exact kl_c PyData.int _ (fun _ => by with_reducible rfl) _ | exact kl_c PyData.bool _ (fun _ => by with_reducible rfl) _ | exact kl_c Site.d _ (fun _ => by with_reducible rfl) _ | exact kl_c stD _ (fun _ => by with_reducible rfl) _ | exact kl_c rowD _ (fun _ => by with_reducible rfl) _ | exact kl_c ptD _ (fun _ => by with_reducible rfl) _ | exact kl_c lrD _ (fun _ => by with_reducible rfl) _ | exact rfl))
  | ((with_reducible apply cv_Nm); array_get_dec; assumption; (first | assumption | (simp only [List.length_range, List.length_map, List.length_zip, List.length_drop, List.length_take, List.length_reverse, List.length_append, List.length_cons, List.length_nil, big]; omega)); (intro _; exact rfl); (intro _ _ _; array_get_dec); (first | with_reducible exact (rfl : List.map fr _ = _) | with_reducible exact (rfl : List.map Nm.d _ = _) | with_reducible exact (rfl : List.map wkD _ = _) | with_reducible exact (rfl : List.map natD _ = _) | with_reducible exact (rfl : List.map intD _ = _) | with_reducible exact (rfl : List.map PyData.int _ = _) | with_reducible exact (rfl : List.map PyData.bool _ = _) | with_reducible exact (rfl : List.map Site.d _ = _) | with_reducible exact (rfl : List.map stD _ = _) | with_reducible exact (rfl : List.map rowD _ = _) | with_reducible exact (rfl : List.map ptD _ = _) | with_reducible exact (rfl : List.map lrD _ = _) | exact kl_c fr _ (fun _ => by with_reducible rfl) _ | exact kl_c Nm.d _ (fun _ => by with_reducible rfl) _ | exact kl_c wkD _ (fun _ => by with_reducible rfl) _ | exact kl_c natD _ (fun _ => by with_reducible rfl) _ | exact kl_c intD _ (fun _ => by with_reducible rfl) _ | exact kl_c PyData.int _ (fun _ => by with_reducible rfl) _ | exact kl_c PyData.bool _ (fun _ => by with_reducible rfl) _ | exact kl_c Site.d _ (fun _ => by with_reducible rfl) _ | exact kl_c stD _ (fun _ => by with_reducible rfl) _ | exact kl_c rowD _ (fun _ => by with_reducible rfl) _ | exact kl_c ptD _ (fun _ => by with_reducible rfl) _ | exact kl_c lrD _ (fun _ => by with_reducible rfl) _ | exact rfl))
  | ((with_reducible apply cv_Cm); array_get_dec; assumption; (first | assumption | (simp only [List.length_range, List.length_map, List.length_zip, List.length_drop, List.length_take, List.length_reverse, List.length_append, List.length_cons, List.length_nil, big]; omega)); (intro _; exact rfl); (intro _ _ _; array_get_dec); (intro _ _ _ _; array_get_dec); (first | with_reducible exact (rfl : List.map fr _ = _) | with_reducible exact (rfl : List.map Nm.d _ = _) | with_reducible exact (rfl : List.map wkD _ = _) | with_reducible exact (rfl : List.map natD _ = _) | with_reducible exact (rfl : List.map intD _ = _) | with_reducible exact (rfl : List.map PyData.int _ = _) | with_reducible exact (rfl : List.map PyData.bool _ = _) | with_reducible exact (rfl : List.map Site.d _ = _) | with_reducible exact (rfl : List.map stD _ = _) | with_reducible exact (rfl : List.map rowD _ = _) | with_reducible exact (rfl : List.map ptD _ = _) | with_reducible exact (rfl : List.map lrD _ = _) | exact kl_c fr _ (fun _ => by with_reducible rfl) _ | exact kl_c Nm.d _ (fun _ => by with_reducible rfl) _ | exact kl_c wkD _ (fun _ => by with_reducible rfl) _ | exact kl_c natD _ (fun _ => by with_reducible rfl) _ | exact kl_c intD _ (fun _ => by with_reducible rfl) _ | exact kl_c PyData.int _ (fun _ => by with_reducible rfl) _ | exact kl_c PyData.bool _ (fun _ => by with_reducible rfl) _ | exact kl_c Site.d _ (fun _ => by with_reducible rfl) _ | exact kl_c stD _ (fun _ => by with_reducible rfl) _ | exact kl_c rowD _ (fun _ => by with_reducible rfl) _ | exact kl_c ptD _ (fun _ => by with_reducible rfl) _ | exact kl_c lrD _ (fun _ => by with_reducible rfl) _ | exact rfl))
  | ((with_reducible apply cv_Nk); array_get_dec; (first | assumption | (simp only [List.length_range, List.length_map, List.length_zip, List.length_drop, List.length_take, List.length_reverse, List.length_append, List.length_cons, List.length_nil, big]; omega)); (intro _; exact rfl); (intro _ _ _; array_get_dec); (first | with_reducible exact (rfl : List.map fr _ = _) | with_reducible exact (rfl : List.map Nm.d _ = _) | with_reducible exact (rfl : List.map wkD _ = _) | with_reducible exact (rfl : List.map natD _ = _) | with_reducible exact (rfl : List.map intD _ = _) | with_reducible exact (rfl : List.map PyData.int _ = _) | with_reducible exact (rfl : List.map PyData.bool _ = _) | with_reducible exact (rfl : List.map Site.d _ = _) | with_reducible exact (rfl : List.map stD _ = _) | with_reducible exact (rfl : List.map rowD _ = _) | with_reducible exact (rfl : List.map ptD _ = _) | with_reducible exact (rfl : List.map lrD _ = _) | exact kl_c fr _ (fun _ => by with_reducible rfl) _ | exact kl_c Nm.d _ (fun _ => by with_reducible rfl) _ | exact kl_c wkD _ (fun _ => by with_reducible rfl) _ | exact kl_c natD _ (fun _ => by with_reducible rfl) _ | exact kl_c intD _ (fun _ => by with_reducible rfl) _ | exact kl_c PyData.int _ (fun _ => by with_reducible rfl) _ | exact kl_c PyData.bool _ (fun _ => by with_reducible rfl) _ | exact kl_c Site.d _ (fun _ => by with_reducible rfl) _ | exact kl_c stD _ (fun _ => by with_reducible rfl) _ | exact kl_c rowD _ (fun _ => by with_reducible rfl) _ | exact kl_c ptD _ (fun _ => by with_reducible rfl) _ | exact kl_c lrD _ (fun _ => by with_reducible rfl) _ | exact rfl)))
local macro_rules | `(tactic| array_mem_dec) => `(tactic| first
  | with_reducible assumption
  | with_reducible exact b_addI
  | with_reducible exact b_subI
  | ((with_reducible apply b_mulI); assumption)
  | with_reducible exact site_p
  | with_reducible exact site_n
  | with_reducible exact site_o
  | with_reducible exact wk_pos
  | with_reducible exact wk_nm
  | with_reducible exact fr_num
  | with_reducible exact fr_den
  | with_reducible exact wd_w
  | with_reducible exact wd_p
  | with_reducible exact st_t
  | with_reducible exact st_s
  | with_reducible exact i2_0
  | with_reducible exact i2_1
  | with_reducible exact i3_0
  | with_reducible exact i3_1
  | with_reducible exact i3_2
  | with_reducible exact pt_0
  | with_reducible exact pt_1
  | with_reducible exact src_l
  | with_reducible exact src_t
  | ((with_reducible apply src_m); assumption)
  | with_reducible exact zip_lm
  | with_reducible exact zip_tm
  | with_reducible exact enum_lm
  | with_reducible exact len_lm
  | with_reducible exact len_tm
  | with_reducible exact bi_tup
  | with_reducible exact bi_tupT
  | with_reducible exact bi_lstT
  | with_reducible exact bi_lst
  | with_reducible exact bi_abs
  | with_reducible exact bi_max
  | with_reducible exact bi_min
  | with_reducible exact rv_m
  | with_reducible exact cmp_eq_int _ _ _
  | with_reducible exact cmp_ne_int _ _ _
  | with_reducible exact cmp_lt_int _ _ _
  | with_reducible exact cmp_le_int _ _ _
  | with_reducible exact cmp_gt_int _ _ _
  | with_reducible exact cmp_ge_int _ _ _
  | with_reducible exact eq_nil
  | with_reducible exact ne_nil
  | with_reducible exact eq_nilT
  | with_reducible exact ne_nilT
  | ((with_reducible apply eq_nilm); assumption; exact inferInstance)
  | ((with_reducible apply ne_nilm); assumption; exact inferInstance)
  | with_reducible exact eq_x
  | with_reducible exact ne_x
  | with_reducible exact eq_xl
  | with_reducible exact ne_xl
  | ((with_reducible apply ne_xm); assumption; exact inferInstance; exact inferInstance)
  | ((with_reducible apply ne_mx); assumption; exact inferInstance; exact inferInstance)
  | with_reducible exact mem_l
  | with_reducible exact mem_t
  | with_reducible exact nmem_l
  | with_reducible exact nmem_t
  | ((with_reducible apply mem_m); assumption; exact inferInstance; exact inferInstance)
  | ((with_reducible apply sl_from); exact rfl)
  | ((with_reducible apply sl_fromT); exact rfl)
  | ((with_reducible apply ix_first); assumption)
  | ((with_reducible apply ix_last); assumption)
  | ((with_reducible apply ix_k); (first | with_reducible exact rfl | exact nat_succ _ | exact nat_pred _ (by omega)); first | assumption | exact rfl)
  | ((with_reducible apply ix_kT); (first | with_reducible exact rfl | exact nat_succ _ | exact nat_pred _ (by omega)); first | assumption | exact rfl)
  | with_reducible exact frz_last
  | ((with_reducible apply frz_at); assumption)
  | ((with_reducible apply app_m); assumption; (first | assumption | (simp only [List.length_range, List.length_map, List.length_zip, List.length_drop, List.length_take, List.length_reverse, List.length_append, List.length_cons, List.length_nil, big]; omega)))
  | ((with_reducible apply seq_m); assumption)
  | with_reducible exact seq_l
  | with_reducible exact seq_t)
local macro_rules | `(tactic| infer_instance) => `(tactic| first
  | ((with_reducible apply s_asg); array_get_dec; (first | (simp only [evT, evTs, evPar, evPs, Option.bind_some, List.set_cons_zero, List.set_cons_succ]; with_reducible exact rfl) | (simp only [evT, evTs, evPar, evPs, stD, wkD, rowD, ptD, Site.d, lrD, Option.bind_some, List.set_cons_zero, List.set_cons_succ]; exact rfl)))
  | ((with_reducible apply s_retv); array_get_dec)
  | ((with_reducible apply s_par); array_get_dec; (first | (simp only [evT, evTs, evPar, evPs, Option.bind_some, List.set_cons_zero, List.set_cons_succ]; with_reducible exact rfl) | (simp only [evT, evTs, evPar, evPs, stD, wkD, rowD, ptD, Site.d, lrD, Option.bind_some, List.set_cons_zero, List.set_cons_succ]; exact rfl)))
  | ((with_reducible apply s_parC); array_get_dec; (first | (simp only [evT, evTs, evPar, evPs, Option.bind_some, List.set_cons_zero, List.set_cons_succ]; with_reducible exact rfl) | (simp only [evT, evTs, evPar, evPs, stD, wkD, rowD, ptD, Site.d, lrD, Option.bind_some, List.set_cons_zero, List.set_cons_succ]; exact rfl)))
  | ((with_reducible apply s_mthd); array_get_dec; (apply cell_at); assumption; array_get_dec; array_mem_dec)
  | ((with_reducible apply s_callv); array_get_dec; exact rfl; sizeOf_list_dec; exact rfl)
  | ((with_reducible apply s_ifr); array_get_dec)
  | ((with_reducible apply s_if); array_get_dec))
local macro_rules | `(tactic| bv_omega) => `(tactic| first | with_reducible assumption | (first | assumption | (simp only [List.length_range, List.length_map, List.length_zip, List.length_drop, List.length_take, List.length_reverse, List.length_append, List.length_cons, List.length_nil, big]; omega)) | omega | solve_by_elim)
local macro_rules | `(tactic| sizeOf_list_dec) => `(tactic| with_reducible assumption)
local macro_rules | `(tactic| array_mem_dec) => `(tactic| with_reducible exact len_sites)
local macro_rules | `(tactic| sizeOf_list_dec) => `(tactic| ((with_reducible apply speeds_of_run) <;> bv_omega))
local macro_rules | `(tactic| sizeOf_list_dec) => `(tactic| ((with_reducible apply plus_run) <;> bv_omega))
local macro_rules | `(tactic| sizeOf_list_dec) => `(tactic| ((with_reducible apply minus_run) <;> bv_omega))
local macro_rules | `(tactic| sizeOf_list_dec) => `(tactic| ((with_reducible apply times_run) <;> bv_omega))
local macro_rules | `(tactic| sizeOf_list_dec) => `(tactic| ((with_reducible apply less_run) <;> bv_omega))
local macro_rules | `(tactic| sizeOf_list_dec) => `(tactic| ((with_reducible apply ascending_run) <;> bv_omega))
local macro_rules | `(tactic| sizeOf_list_dec) => `(tactic| ((with_reducible apply speed_of_run) <;> bv_omega))
local macro_rules | `(tactic| sizeOf_list_dec) => `(tactic| ((with_reducible apply law_plus_run) <;> bv_omega))
local macro_rules | `(tactic| sizeOf_list_dec) => `(tactic| ((with_reducible apply law_minus_run) <;> bv_omega))
local macro_rules | `(tactic| sizeOf_list_dec) => `(tactic| ((with_reducible apply law_times_run) <;> bv_omega))
local macro_rules | `(tactic| sizeOf_list_dec) => `(tactic| ((with_reducible apply law_less_run) <;> bv_omega))
local macro_rules | `(tactic| sizeOf_list_dec) => `(tactic| ((with_reducible apply ordered_run) <;> bv_omega))
local macro_rules | `(tactic| sizeOf_list_dec) => `(tactic| ((with_reducible apply law_names_run) <;> bv_omega))
local macro_rules | `(tactic| sizeOf_list_dec) => `(tactic| ((with_reducible apply names_of_run) <;> bv_omega))
local macro_rules | `(tactic| sizeOf_list_dec) => `(tactic| ((with_reducible apply require_world_run) <;> bv_omega))
local macro_rules | `(tactic| sizeOf_list_dec) => `(tactic| ((with_reducible apply require_time_run) <;> bv_omega))
local macro_rules | `(tactic| sizeOf_list_dec) => `(tactic| ((with_reducible apply require_name_run) <;> bv_omega))
local macro_rules | `(tactic| sizeOf_list_dec) => `(tactic| ((with_reducible apply law_speed_run) <;> bv_omega))
local macro_rules | `(tactic| array_mem_dec) => `(tactic| with_reducible exact lr_0)
local macro_rules | `(tactic| array_mem_dec) => `(tactic| with_reducible exact lr_1)
local macro_rules | `(tactic| array_mem_dec) => `(tactic| with_reducible exact lr_2)
local macro_rules | `(tactic| array_mem_dec) => `(tactic| ((with_reducible apply add_lm) <;> bv_omega))
local macro_rules | `(tactic| array_mem_dec) => `(tactic| ((with_reducible apply app_lr) <;> bv_omega))
local macro_rules | `(tactic| array_mem_dec) => `(tactic| with_reducible exact sl_1)
local macro_rules | `(tactic| array_mem_dec) => `(tactic| with_reducible exact sl_1T)
local macro_rules | `(tactic| sizeOf_list_dec) => `(tactic| ((with_reducible apply law_places_run) <;> bv_omega))
local macro_rules | `(tactic| array_mem_dec) => `(tactic| ((with_reducible apply add_l1) <;> bv_omega))
local macro_rules | `(tactic| sizeOf_list_dec) => `(tactic| ((with_reducible apply law_times_of_run) <;> bv_omega))

def gpD (x : Rat × Int) : D := .tuple [fr x.1, .int x.2]
theorem gp_0 {x : Rat × Int} {M : Mem} : evIdx (.d (gpD x)) (.d (.int 0)) M = some (.d (fr x.1), M) := rfl
theorem gp_1 {x : Rat × Int} {M : Mem} : evIdx (.d (gpD x)) (.d (.int 1)) M = some (.d (.int x.2), M) := rfl
local macro_rules | `(tactic| array_mem_dec) => `(tactic| with_reducible exact gp_0)
local macro_rules | `(tactic| array_mem_dec) => `(tactic| with_reducible exact gp_1)
--ET gpD
--KL gpD
theorem app_gp {M : Mem} {i : Nat} {xs : List (Rat × Int)} {q : Rat} {k : Int} (h : M[i]? = some (.lst (xs.map gpD))) (hl : xs.length < big) : evMt .append (.m i) [.d (.tuple [fr q, .int k])] M = some (M.set i (.lst ((xs ++ [(q, k)]).map gpD))) := app_m (f := gpD) (x := (q, k)) h hl
local macro_rules | `(tactic| array_mem_dec) => `(tactic| ((with_reducible apply app_gp) <;> bv_omega))
theorem kl_gp {α : Type} (a : α → Rat) (b : α → Int) (xs : List α) : xs.map (fun x => PyData.tuple [fr (a x), .int (b x)]) = (xs.map fun x => (a x, b x)).map gpD := by
  rw [List.map_map]
  rfl
instance : Flt gpD := ⟨fun n a => by
  have e : flatD (n + 8) (gpD a) = (flatD (n + 7) (fr a.1) && (flatD (n + 7) (.int a.2) && true)) := rfl
  rw [e, flat_fr]
  rfl⟩
instance : Eqv gpD := ⟨fun a b => by
  unfold gpD
  simp only [PyData.eqv, PyData.eqvAll, Bool.and_true]
  rw [eqv_fr, Bool.eq_iff_iff]
  simp only [Bool.and_eq_true, decide_eq_true_eq, beq_iff_eq]
  exact ⟨fun h => Prod.ext h.1 h.2, fun h => by rw [h]; exact ⟨rfl, rfl⟩⟩⟩
def gapQ (ss : List Site) (i : Nat) : Rat := pos ss (i + 1) - pos ss i
def rtI (ss : List Site) (i : Nat) : Int := spd ss (i + 1) - spd ss i
def gapsL (ss : List Site) : List (Rat × Int) := (List.range (ss.length - 1)).map fun i => (gapQ ss i, rtI ss i)
theorem gaps_at_run {w : Wd} {q : Rat} {r : Rat × List Site} {ss : List Site} (hw : WOk w) (g : WG w) (a : At w q r ss) (M : Mem) : F_gaps_at.run [.d (wD w), .d (fr q)] M = some (.ret (.d (.list ((gapsL ss).map gpD))), M) := by
  have hs := a.sz
  have hq := a.smq
  have h0 := a.q0
  have hhist := fun M => hist_ok g hw.z M
  have hsi := fun M => a.run M
  have hsp := fun M => speeds_of_run hs M
  have hl := hs.len
  refine run_dfR (env := [some _, some _, none, none, none, none]) rfl ?_ rfl; dsimp only [t_gaps_at]
  infer_instance
  infer_instance
  apply s_asg
  · exact ev_call (k := 3) (F := F_sites_at) (ev_es2 (ev_call (k := 2) (F := F_history) (ev_es1 (ev_var rfl)) rfl (hhist _) rfl) (ev_var rfl)) rfl (hsi _) rfl
  · (first | (simp only [evT, evTs, evPar, evPs, Option.bind_some, List.set_cons_zero, List.set_cons_succ]; with_reducible exact rfl) | (simp only [evT, evTs, evPar, evPs, stD, wkD, rowD, ptD, Site.d, lrD, Option.bind_some, List.set_cons_zero, List.set_cons_succ]; exact rfl))
  infer_instance
  refine s_for (f := natD) (xs := List.range (ss.length - 1)) (fun i env M' => ∃ e5, env = [some (.d (wD w)), some (.d (fr q)), some (.d (sitesD ss)), some (.d (.list ((spds ss).map .int))), some (.m M.length), e5] ∧ M' = M ++ [.lst (((gapsL ss).take i).map gpD)]) ?_ ⟨_, rfl, rfl⟩ ?_ ?_
  · refine rng1_ev (k := (ss.length : Int) - 1) ?_ (by omega) (by omega) (by omega)
    array_get_dec
  · rintro i hi env M' ⟨e5, rfl, rfl⟩
    rw [List.length_range] at hi
    rw [List.getElem_range]
    refine ⟨_, rfl, ?_⟩
    simp only [natD]
    have h1 : i < ss.length := by omega
    have h2 : i + 1 < ss.length := by omega
    have hnx : (gapsL ss).take (i + 1) = (gapsL ss).take i ++ [(gapQ ss i, rtI ss i)] := by
      rw [List.take_succ_eq_append_getElem (by unfold gapsL; rw [List.length_map, List.length_range]; exact hi)]
      unfold gapsL
      rw [List.getElem_map, List.getElem_range]
    rw [hnx]
    have hgl : ((gapsL ss).take i).length < big := by
      rw [List.length_take]
      have : big = 1000000 := rfl
      omega
    generalize (gapsL ss).take i = rows at hgl ⊢
    have hm : (M ++ [Cl.lst (rows.map gpD)])[M.length]? = some (.lst (rows.map gpD)) := get_new
    have g1 := sp_get h1
    have g2 := sp_get h2
    have p1 := hs.one _ h1
    have p2 := hs.one _ h2
    infer_instance
    refine s_end ⟨_, rfl, ?_⟩
    simp
    rfl
  · rintro env M' ⟨e5, rfl, rfl⟩
    have hgl : (gapsL ss).length = (List.range (ss.length - 1)).length := by unfold gapsL; rw [List.length_map]
    rw [← hgl, List.take_length]
    infer_instance
    exact fin_tk (by simp)
local macro_rules | `(tactic| sizeOf_list_dec) => `(tactic| ((with_reducible apply gaps_at_run) <;> bv_omega))
end NW

set_option Elab.async false
set_option linter.all false
set_option maxRecDepth 100000
set_option maxHeartbeats 4000000
set_option exponentiation.threshold 100000
/-! What the laws' bodies share. -/
namespace NW
open PySem

/-- range(max(a, min(b, len(script)))) -/
theorem cells_ev {cs : List Fn} {ns : List Int} {a b : Int} (ha : 0 ≤ a) (hab : a ≤ b) (hb : b ≤ 100) : ∃ K : Nat, (K : Int) ≤ b ∧ ∀ (env : En) (M : Mem), env[0]? = some (some (.d (.list (ns.map .int)))) → evI cs (.rng1 (.bi .max (.cons (.int a) (.cons (.bi .min (.cons (.int b) (.cons (.bi .len (.cons (.var 0) .nil)) .nil))) .nil)))) env M = some (.fix ((List.range K).map natD), M) := by
  obtain ⟨K, hK, hK2⟩ : ∃ K : Int, K = (if (if (ns.length : Int) < b then (ns.length : Int) else b) > a then (if (ns.length : Int) < b then (ns.length : Int) else b) else a) ∧ (0 ≤ K ∧ K ≤ b) := ⟨_, rfl, by split <;> split <;> omega⟩
  refine ⟨K.toNat, by omega, fun env M h => ?_⟩
  refine rng1_ev (k := K) (ev_bi (ev_es2 ev_int (ev_bi (ev_es2 ev_int (ev_bi (ev_es1 (ev_var h)) (by rw [len_l, List.length_map]))) bi_min)) ?_) rfl (by omega) (by omega)
  rw [bi_max, hK]
def atS (L : List (Rat × List Site)) (q : Rat) : List Site := match (L.filter fun x => !decide (q < x.1)).getLast? with
  | some r => if r.1 = q then r.2 else moveS r.2 (q - r.1)
  | none => []
theorem At.ats {w : Wd} {q : Rat} {r : Rat × List Site} {ss : List Site} (a : At w q r ss) : ss = atS (HL w) q := by
  unfold atS
  rw [a.flt]
  exact a.eq
theorem cut_both {α : Type} (xs : List α) (a b : Nat) : cutN xs (some (a : Int)) (some (b : Int)) = (xs.drop a).take (b - a) := by
  unfold cutN
  rw [HT.sIx_nat, HT.sIx_nat]
  by_cases ha : a ≤ xs.length
  · rw [Nat.min_eq_left ha, List.take_eq_take_iff, List.length_drop]
    omega
  · have e : min a xs.length = xs.length := by omega
    rw [e, List.drop_length, List.drop_eq_nil_of_le (by omega)]
    simp
theorem sl_bt {α : Type} {f : α → D} {xs : List α} {M : Mem} {a b : Nat} {i j : Int} (hi : i = (a : Int)) (hj : j = (b : Int)) : evSlc (.d (.list (xs.map f))) (some i) (some j) M = some (.d (.list (((xs.drop a).take (b - a)).map f)), M) := by
  subst hi hj
  rw [sl_l, cut_both, ← List.map_drop, ← List.map_take]
theorem sl_btT {α : Type} {f : α → D} {xs : List α} {M : Mem} {a b : Nat} {i j : Int} (hi : i = (a : Int)) (hj : j = (b : Int)) : evSlc (.d (.tuple (xs.map f))) (some i) (some j) M = some (.d (.tuple (((xs.drop a).take (b - a)).map f)), M) := by
  subst hi hj
  rw [sl_t, cut_both, ← List.map_drop, ← List.map_take]
theorem hist_in {n D : Nat} {t : Rat} {ss : List Site} (g : GI n D t ss) {q : Rat} : ∀ p ∈ (histL n t ss).zip ((histL n t ss).drop 1), p.1.1 ≤ q → q < p.2.1 → ((histL n t ss).filter fun x => !decide (q < x.1)).getLast? = some p.1 := by
  refine hist_ind (P := fun n t ss => ∀ p ∈ (histL n t ss).zip ((histL n t ss).drop 1), p.1.1 ≤ q → q < p.2.1 → ((histL n t ss).filter fun x => !decide (q < x.1)).getLast? = some p.1) ?_ ?_ g
  · intro n D t ss g hc p hp
    rw [hist_none hc] at hp
    simp at hp
  · intro n D t ss v g hc g2 ih p hp h1 h2
    rw [hist_some hc] at hp ⊢
    rw [List.drop_succ_cons, List.drop_zero] at hp
    have hv := cont_pos g hc
    have hge := fun x hx => (hist_gi g2 x hx).1
    have hh := hist_head (n := n) (t := t + v) (ss := moveS ss v)
    cases e : histL n (t + v) (moveS ss v) with
    | nil => exact absurd e hist_ne
    | cons y l =>
      rw [e] at hp hh ih hge
      have hy : y = (t + v, moveS ss v) := by simpa using hh
      rw [List.zip_cons_cons] at hp
      rcases List.mem_cons.mp hp with rfl | hp
      · have h3 : ¬ q < t := by
          have h1 : t ≤ q := h1
          grind
        rw [List.filter_cons_of_pos (p := fun x : Rat × List Site => !decide (q < x.1)) (by simp [h3])]
        have e2 : (y :: l).filter (fun x => !decide (q < x.1)) = [] := by
          rw [List.filter_eq_nil_iff]
          intro x hx
          have h5 := hge x hx
          have h2 : q < y.1 := h2
          rw [hy] at h2
          have h6 : q < x.1 := by
            have h2 : q < t + v := h2
            grind
          rw [decide_eq_true h6]
          exact Bool.false_ne_true
        rw [e2]
        rfl
      · have hp2 : p ∈ (y :: l).zip ((y :: l).drop 1) := by simpa using hp
        have h3 := hge p.1 (List.of_mem_zip (a := p.1) (b := p.2) hp2).1
        have h4 : ¬ q < t := by grind
        rw [List.filter_cons_of_pos (p := fun x : Rat × List Site => !decide (q < x.1)) (by simp [h4]), List.getLast?_cons, ih p hp2 h1 h2]
        rfl
/-- consecutive states -/
theorem hist_next {n D : Nat} {t : Rat} {ss : List Site} (g : GI n D t ss) : ∀ p ∈ (histL n t ss).zip ((histL n t ss).drop 1), p.1 ∈ histL n t ss ∧ p.2 ∈ histL n t ss ∧ ∃ v, cont p.1.2 = some v ∧ p.2 = (p.1.1 + v, moveS p.1.2 v) := by
  refine hist_ind (P := fun n t ss => ∀ p ∈ (histL n t ss).zip ((histL n t ss).drop 1), p.1 ∈ histL n t ss ∧ p.2 ∈ histL n t ss ∧ ∃ v, cont p.1.2 = some v ∧ p.2 = (p.1.1 + v, moveS p.1.2 v)) ?_ ?_ g
  · intro n D t ss g hc p hp
    rw [hist_none hc] at hp
    simp at hp
  · intro n D t ss v g hc g2 ih p hp
    rw [hist_some hc] at hp ⊢
    rw [List.drop_succ_cons, List.drop_zero] at hp
    have hh := hist_head (n := n) (t := t + v) (ss := moveS ss v)
    cases e : histL n (t + v) (moveS ss v) with
    | nil => exact absurd e hist_ne
    | cons y l =>
      rw [e] at hp hh ih
      have hy : y = (t + v, moveS ss v) := by simpa using hh
      rw [List.zip_cons_cons] at hp
      rcases List.mem_cons.mp hp with rfl | hp
      · exact ⟨by simp, by simp, v, hc, hy⟩
      · obtain ⟨h1, h2, h3⟩ := ih p (by simpa using hp)
        exact ⟨List.mem_cons_of_mem _ h1, List.mem_cons_of_mem _ h2, h3⟩
/-! literals -/
mutual
def litE : E → Option D
  | .int i => some (.int i)
  | .bl b => some (.bool b)
  | .non => some .none
  | .str s => some (.str (Str.ofString s))
  | .neg (.int i) => some (.int (-i))
  | .tup es => (litEs es).bind fun xs => if xs.length ≤ big then some (.tuple xs) else none
  | .lst es => (litEs es).bind fun xs => if xs.length ≤ big then some (.list xs) else none
  | _ => none
def litEs : Es → Option (List D)
  | .nil => some []
  | .cons e es => (litE e).bind fun x => (litEs es).map (x :: ·)
end
theorem datasV_map : ∀ xs : List D, datasV (xs.map Vl.d) = some xs
  | [] => rfl
  | x :: xs => by
    rw [List.map_cons]
    unfold datasV
    rw [datasV_map xs]
    rfl
mutual
theorem lit_ev {cs : List Fn} {env : En} {M : Mem} : ∀ (e : E) {x : D}, litE e = some x → evE cs e env M = some (.d x, M)
  | .int i, x, h => by cases h; exact ev_int
  | .bl b, x, h => by cases h; exact ev_bl
  | .non, x, h => by cases h; exact ev_none
  | .str s, x, h => by cases h; exact ev_str
  | .neg (.int i), x, h => by cases h; exact ev_neg1
  | .tup es, x, h => by
    unfold litE at h
    cases hx : litEs es with
    | none => rw [hx] at h; cases h
    | some xs =>
      rw [hx, Option.bind_some] at h
      split at h
      · rename_i hl
        cases h
        exact ev_tup (lit_evs es hx) (datasV_map xs) hl
      · cases h
  | .lst es, x, h => by
    unfold litE at h
    cases hx : litEs es with
    | none => rw [hx] at h; cases h
    | some xs =>
      rw [hx, Option.bind_some] at h
      split at h
      · rename_i hl
        cases h
        exact ev_lst (lit_evs es hx) (datasV_map xs) hl
      · cases h
  | .var _, _, h => by unfold litE at h; cases h
  | .con _ _, _, h => by unfold litE at h; cases h
  | .bin _ _ _, _, h => by unfold litE at h; cases h
  | .cmp _ _ _, _, h => by unfold litE at h; cases h
  | .isN _, _, h => by unfold litE at h; cases h
  | .notN _, _, h => by unfold litE at h; cases h
  | .chain _ _ _ _ _, _, h => by unfold litE at h; cases h
  | .not _, _, h => by unfold litE at h; cases h
  | .and _ _, _, h => by unfold litE at h; cases h
  | .or _ _, _, h => by unfold litE at h; cases h
  | .ife _ _ _, _, h => by unfold litE at h; cases h
  | .idx _ _, _, h => by unfold litE at h; cases h
  | .slc _ _ _, _, h => by unfold litE at h; cases h
  | .rev _, _, h => by unfold litE at h; cases h
  | .new _, _, h => by unfold litE at h; cases h
  | .newL _, _, h => by unfold litE at h; cases h
  | .call _ _, _, h => by unfold litE at h; cases h
  | .bi _ _, _, h => by unfold litE at h; cases h
  | .isI _ _, _, h => by unfold litE at h; cases h
  | .ixOf _ _, _, h => by unfold litE at h; cases h
  | .slcM _ _ _, _, h => by unfold litE at h; cases h
  | .sortK _ _, _, h => by unfold litE at h; cases h
  | .wdC _ _, _, h => by unfold litE at h; cases h
  | .comp _ _ _ _ _ _, _, h => by unfold litE at h; cases h
  | .frz _, _, h => by unfold litE at h; cases h
  | .neg (.var _), _, h => by unfold litE at h; cases h
  | .neg (.bl _), _, h => by unfold litE at h; cases h
  | .neg .non, _, h => by unfold litE at h; cases h
  | .neg (.str _), _, h => by unfold litE at h; cases h
  | .neg (.con _ _), _, h => by unfold litE at h; cases h
  | .neg (.bin _ _ _), _, h => by unfold litE at h; cases h
  | .neg (.neg _), _, h => by unfold litE at h; cases h
  | .neg (.cmp _ _ _), _, h => by unfold litE at h; cases h
  | .neg (.isN _), _, h => by unfold litE at h; cases h
  | .neg (.notN _), _, h => by unfold litE at h; cases h
  | .neg (.chain _ _ _ _ _), _, h => by unfold litE at h; cases h
  | .neg (.not _), _, h => by unfold litE at h; cases h
  | .neg (.and _ _), _, h => by unfold litE at h; cases h
  | .neg (.or _ _), _, h => by unfold litE at h; cases h
  | .neg (.ife _ _ _), _, h => by unfold litE at h; cases h
  | .neg (.idx _ _), _, h => by unfold litE at h; cases h
  | .neg (.slc _ _ _), _, h => by unfold litE at h; cases h
  | .neg (.rev _), _, h => by unfold litE at h; cases h
  | .neg (.tup _), _, h => by unfold litE at h; cases h
  | .neg (.lst _), _, h => by unfold litE at h; cases h
  | .neg (.new _), _, h => by unfold litE at h; cases h
  | .neg (.newL _), _, h => by unfold litE at h; cases h
  | .neg (.call _ _), _, h => by unfold litE at h; cases h
  | .neg (.bi _ _), _, h => by unfold litE at h; cases h
  | .neg (.isI _ _), _, h => by unfold litE at h; cases h
  | .neg (.ixOf _ _), _, h => by unfold litE at h; cases h
  | .neg (.slcM _ _ _), _, h => by unfold litE at h; cases h
  | .neg (.sortK _ _), _, h => by unfold litE at h; cases h
  | .neg (.wdC _ _), _, h => by unfold litE at h; cases h
  | .neg (.comp _ _ _ _ _ _), _, h => by unfold litE at h; cases h
  | .neg (.frz _), _, h => by unfold litE at h; cases h
theorem lit_evs {cs : List Fn} {env : En} {M : Mem} : ∀ (es : Es) {xs : List D}, litEs es = some xs → evEs cs es env M = some (xs.map Vl.d, M)
  | .nil, xs, h => by cases h; exact ev_es0
  | .cons e es, xs, h => by
    unfold litEs at h
    cases hx : litE e with
    | none => rw [hx] at h; cases h
    | some x =>
      rw [hx, Option.bind_some] at h
      cases hy : litEs es with
      | none => rw [hy] at h; cases h
      | some ys =>
        rw [hy] at h
        cases h
        exact ev_es (lit_ev e hx) (lit_evs es hy)
end
/-- a literal world -/
def litW (ws : List (Nm × Int)) (ps : List Int) : Wd := ⟨ws.map fun x : Nm × Int => (x.1, (x.2 : Rat)), ps.map fun i : Int => (i : Rat)⟩
theorem pos_int {i : Int} (h1 : -1000 ≤ i) (h2 : i ≤ 1000) : PosOk (i : Rat) := ⟨Gr.int i, by have := Rat.intCast_le_intCast.mpr h1; simpa using this, by have := Rat.intCast_le_intCast.mpr h2; simpa using this⟩
theorem lit_drawn {ws : List (Nm × Int)} {ps : List Int} {np : Nat} (h1 : 1 ≤ ws.length) (h2 : ws.length ≤ 8) (h3 : ps.length ≤ np) (h4 : np ≤ 4) (h5 : ws.all (fun x => nmB x.1 && (decide (-1000 ≤ x.2) && decide (x.2 ≤ 1000))) = true)
    (h6 : ps.all (fun i => decide (-1000 ≤ i) && decide (i ≤ 1000)) = true) (h7 : ws.Pairwise fun x y => x.1.s.cps.toList < y.1.s.cps.toList) (h8 : ps.Pairwise (· < ·)) : Drawn (litW ws ps) np := by
  have hb : ∀ x ∈ (litW ws ps).ws, PosOk x.2 ∧ NmOk x.1 := fun x hx => by
    obtain ⟨y, hy, rfl⟩ := List.mem_map.mp hx
    have h := List.all_eq_true.mp h5 y hy
    obtain ⟨a, b⟩ := Bool.and_eq_true_iff.mp h
    obtain ⟨b, c⟩ := Bool.and_eq_true_iff.mp b
    exact ⟨pos_int (of_decide_eq_true b) (of_decide_eq_true c), nmB_ok a⟩
  have hp : ∀ p ∈ (litW ws ps).ps, PosOk p := fun p hp => by
    obtain ⟨y, hy, rfl⟩ := List.mem_map.mp hp
    obtain ⟨b, c⟩ := Bool.and_eq_true_iff.mp (List.all_eq_true.mp h6 y hy)
    exact pos_int (of_decide_eq_true b) (of_decide_eq_true c)
  have l1 : (litW ws ps).ws.length = ws.length := List.length_map ..
  have l2 : (litW ws ps).ps.length = ps.length := List.length_map ..
  have wk : ∀ q, PosOk q → Gr 6 q ∧ -1000000 ≤ q ∧ q ≤ 1000000 := fun q h => ⟨h.1, by have := h.2.1; grind, by have := h.2.2; grind⟩
  refine ⟨⟨by omega, by omega, by omega, fun x hx => (hb x hx).2, fun x hx => (hb x hx).1.sm, fun p h => (hp p h).sm, ?_, ?_⟩, ⟨fun x hx => wk _ (hb x hx).1, fun p h => wk _ (hp p h), by omega, by omega⟩, by omega, fun x hx => (hb x hx).1, hp⟩
  · exact List.pairwise_map.mpr (h7.imp fun h => h)
  · exact List.pairwise_map.mpr (h8.imp fun {a b} h => Rat.intCast_lt_intCast.mpr h)
end NW

set_option Elab.async false
set_option linter.all false
set_option maxRecDepth 100000
set_option maxHeartbeats 4000000
set_option exponentiation.threshold 100000
/-! k17: rates, plainly. -/
namespace NW
open PySem
local macro_rules | `(tactic| array_get_dec) => `(tactic| first
  | with_reducible assumption
  | ((with_reducible apply ev_var); exact rfl)
  | with_reducible exact ev_int
  | with_reducible exact ev_neg1
  | with_reducible exact ev_none
  | with_reducible exact ev_bl
  | with_reducible exact ev_str
  | with_reducible exact ev_con
  | with_reducible exact ev_es0
  | ((with_reducible apply ev_es); array_get_dec; array_get_dec)
  | ((with_reducible apply ev_call); array_get_dec; exact rfl; sizeOf_list_dec; exact rfl)
  | ((with_reducible apply ts_of); array_get_dec)
  | ((with_reducible apply ev_pos); array_get_dec; array_get_dec; (first | with_reducible exact rfl | exact nat_succ _ | exact nat_pred _ (by omega)); first | assumption | omega)
  | ((with_reducible apply ev_idx); array_get_dec; array_get_dec; array_mem_dec)
  | ((with_reducible apply ev_bin); array_get_dec; array_get_dec; array_mem_dec)
  | ((with_reducible apply ev_cmp); array_get_dec; array_get_dec; array_mem_dec)
  | ((with_reducible apply ev_bi); array_get_dec; array_mem_dec)
  | with_reducible exact ev_ho
  | with_reducible exact ev_zo
  | with_reducible exact ev_73
  | ((with_reducible apply ev_io); array_get_dec)
  | ((with_reducible apply ev_oi); array_get_dec; assumption)
  | ((with_reducible apply ev_tup); array_get_dec; exact rfl; first | decide | simp [big])
  | ((with_reducible apply ev_lst); array_get_dec; exact rfl; first | decide | simp [big])
  | ((with_reducible apply ev_new); array_get_dec; exact rfl; first | decide | simp [big])
  | ((with_reducible apply ev_newL); array_get_dec; array_mem_dec)
  | ((with_reducible apply ev_not); array_get_dec)
  | ((with_reducible apply ev_andP); array_get_dec; intro _; array_get_dec)
  | ((with_reducible apply ev_orP); array_get_dec; intro _; array_get_dec)
  | ((with_reducible apply ev_ifeP); array_get_dec; (intro _; array_get_dec); intro _; array_get_dec)
  | ((with_reducible apply ev_isN); array_get_dec)
  | ((with_reducible apply ev_notN); array_get_dec)
  | ((with_reducible apply ev_negP); array_get_dec)
  | ((with_reducible apply ev_rev); array_get_dec; array_mem_dec)
  | ((with_reducible apply ev_frz); array_get_dec; array_mem_dec)
  | with_reducible exact ev_o0
  | ((with_reducible apply ev_o1); array_get_dec)
  | ((with_reducible apply ev_slc); array_get_dec; array_get_dec; array_get_dec; array_mem_dec)
  | ((with_reducible apply iv_seq); array_get_dec; array_mem_dec)
  | ((with_reducible apply iv_zip); array_get_dec; array_get_dec; array_mem_dec)
  | ((with_reducible apply iv_enum); array_get_dec; array_mem_dec)
  | ((with_reducible apply iv_rng1); array_get_dec; omega; omega)
  | ((with_reducible apply iv_rng2); array_get_dec; array_get_dec; omega; omega; omega; omega)
  | ((with_reducible apply cv_N); array_get_dec; (first | assumption | (simp only [List.length_range, List.length_map, List.length_zip, List.length_drop, List.length_take, List.length_reverse, List.length_append, List.length_cons, List.length_nil, big]; omega)); (intro _; exact rfl); (intro _ _ _; array_get_dec); (first | with_reducible exact (rfl : List.map fr _ = _) | with_reducible exact (rfl : List.map Nm.d _ = _) | with_reducible exact (rfl : List.map wkD _ = _) | with_reducible exact (rfl : List.map natD _ = _) | with_reducible exact (rfl : List.map intD _ = _) | with_reducible exact (rfl : List.map PyData.int _ = _) | with_reducible exact (rfl : List.map PyData.bool _ = _) | with_reducible exact (rfl : List.map Site.d _ = _) | with_reducible exact (rfl : List.map stD _ = _) | with_reducible exact (rfl : List.map rowD _ = _) | with_reducible exact (rfl : List.map ptD _ = _) | with_reducible exact (rfl : List.map lrD _ = _) | with_reducible exact (rfl : List.map gpD _ = _) | exact kl_c fr _ (fun _ => by with_reducible rfl) _ | exact kl_c Nm.d _ (fun _ => by with_reducible rfl) _ | exact kl_c wkD _ (fun _ => by with_reducible rfl) _ | exact kl_c natD _ (fun _ => by with_reducible rfl) _ | exact kl_c intD _ (fun _ => by with_reducible rfl) _ | exact kl_c PyData.int _ (fun _ => by with_reducible rfl) _ | exact kl_c PyData.bool _ (fun _ => by with_reducible rfl) _ | exact kl_c Site.d _ (fun _ => by with_reducible rfl) _ | exact kl_c stD _ (fun _ => by with_reducible rfl) _ | exact kl_c rowD _ (fun _ => by with_reducible rfl) _ | exact kl_c ptD _ (fun _ => by with_reducible rfl) _ | exact kl_c lrD _ (fun _ => by with_reducible rfl) _ | exact kl_c gpD _ (fun _ => by with_reducible rfl) _ | exact rfl))
  | ((with_reducible apply cv_C); array_get_dec; (first | assumption | (simp only [List.length_range, List.length_map, List.length_zip, List.length_drop, List.length_take, List.length_reverse, List.length_append, List.length_cons, List.length_nil, big]; omega)); (intro _; exact rfl); (intro _ _ _; array_get_dec); (intro _ _ _ _; array_get_dec); (first | with_reducible exact (rfl : List.map fr _ = _) | with_reducible exact (rfl : List.map Nm.d _ = _) | with_reducible exact (rfl : List.map wkD _ = _) | with_reducible exact (rfl : List.map natD _ = _) | with_reducible exact (rfl : List.map intD _ = _) | with_reducible exact (rfl : List.map PyData.int _ = _) | with_reducible exact (rfl : List.map PyData.bool _ = _) | with_reducible exact (rfl : List.map Site.d _ = _) | with_reducible exact (rfl : List.map stD _ = _) | with_reducible exact (rfl : List.map rowD _ = _) | with_reducible exact (rfl : List.map ptD _ = _) | with_reducible exact (rfl : List.map lrD _ = _) | with_reducible exact (rfl : List.map gpD _ = _) | exact kl_c fr _ (fun _ => by with_reducible rfl) _ | exact kl_c Nm.d _ (fun _ => by with_reducible rfl) _ | exact kl_c wkD _ (fun _ => by with_reducible rfl) _ | exact kl_c natD _ (fun _ => by with_reducible rfl) _ | exact kl_c intD _ (fun _ => by with_reducible rfl) _ | exact kl_c PyData.int _ (fun _ => by with_reducible rfl) _ | exact kl_c PyData.bool _ (fun _ => by with_reducible rfl) _ | exact kl_c Site.d _ (fun _ => by with_reducible rfl) _ | exact kl_c stD _ (fun _ => by with_reducible rfl) _ | exact kl_c rowD _ (fun _ => by with_reducible rfl) _ | exact kl_c ptD _ (fun _ => by with_reducible rfl) _ | exact kl_c lrD _ (fun _ => by with_reducible rfl) _ | exact kl_c gpD _ (fun _ => by with_reducible rfl) _ | exact rfl))
  | ((with_reducible apply cv_Nm); array_get_dec; assumption; (first | assumption | (simp only [List.length_range, List.length_map, List.length_zip, List.length_drop, List.length_take, List.length_reverse, List.length_append, List.length_cons, List.length_nil, big]; omega)); (intro _; exact rfl); (intro _ _ _; array_get_dec); (first | with_reducible exact (rfl : List.map fr _ = _) | with_reducible exact (rfl : List.map Nm.d _ = _) | with_reducible exact (rfl : List.map wkD _ = _) | with_reducible exact (rfl : List.map natD _ = _) | with_reducible exact (rfl : List.map intD _ = _) | with_reducible exact (rfl : List.map PyData.int _ = _) | with_reducible exact (rfl : List.map PyData.bool _ = _) | with_reducible exact (rfl : List.map Site.d _ = _) | with_reducible exact (rfl : List.map stD _ = _) | with_reducible exact (rfl : List.map rowD _ = _) | with_reducible exact (rfl : List.map ptD _ = _) | with_reducible exact (rfl : List.map lrD _ = _) | with_reducible exact (rfl : List.map gpD _ = _) | exact kl_c fr _ (fun _ => by with_reducible rfl) _ | exact kl_c Nm.d _ (fun _ => by with_reducible rfl) _ | exact kl_c wkD _ (fun _ => by with_reducible rfl) _ | exact kl_c natD _ (fun _ => by with_reducible rfl) _ | exact kl_c intD _ (fun _ => by with_reducible rfl) _ | exact kl_c PyData.int _ (fun _ => by with_reducible rfl) _ | exact kl_c PyData.bool _ (fun _ => by with_reducible rfl) _ | exact kl_c Site.d _ (fun _ => by with_reducible rfl) _ | exact kl_c stD _ (fun _ => by with_reducible rfl) _ | exact kl_c rowD _ (fun _ => by with_reducible rfl) _ | exact kl_c ptD _ (fun _ => by with_reducible rfl) _ | exact kl_c lrD _ (fun _ => by with_reducible rfl) _ | exact kl_c gpD _ (fun _ => by with_reducible rfl) _ | exact rfl))
  | ((with_reducible apply cv_Cm); array_get_dec; assumption; (first | assumption | (simp only [List.length_range, List.length_map, List.length_zip, List.length_drop, List.length_take, List.length_reverse, List.length_append, List.length_cons, List.length_nil, big]; omega)); (intro _; exact rfl); (intro _ _ _; array_get_dec); (intro _ _ _ _; array_get_dec); (first | with_reducible exact (rfl : List.map fr _ = _) | with_reducible exact (rfl : List.map Nm.d _ = _) | with_reducible exact (rfl : List.map wkD _ = _) | with_reducible exact (rfl : List.map natD _ = _) | with_reducible exact (rfl : List.map intD _ = _) | with_reducible exact (rfl : List.map PyData.int _ = _) | with_reducible exact (rfl : List.map PyData.bool _ = _) | with_reducible exact (rfl : List.map Site.d _ = _) | with_reducible exact (rfl : List.map stD _ = _) | with_reducible exact (rfl : List.map rowD _ = _) | with_reducible exact (rfl : List.map ptD _ = _) | with_reducible exact (rfl : List.map lrD _ = _) | with_reducible exact (rfl : List.map gpD _ = _) | exact kl_c fr _ (fun _ => by with_reducible rfl) _ | exact kl_c Nm.d _ (fun _ => by with_reducible rfl) _ | exact kl_c wkD _ (fun _ => by with_reducible rfl) _ | exact kl_c natD _ (fun _ => by with_reducible rfl) _ | exact kl_c intD _ (fun _ => by with_reducible rfl) _ | exact kl_c PyData.int _ (fun _ => by with_reducible rfl) _ | exact kl_c PyData.bool _ (fun _ => by with_reducible rfl) _ | exact kl_c Site.d _ (fun _ => by with_reducible rfl) _ | exact kl_c stD _ (fun _ => by with_reducible rfl) _ | exact kl_c rowD _ (fun _ => by with_reducible rfl) _ | exact kl_c ptD _ (fun _ => by with_reducible rfl) _ | exact kl_c lrD _ (fun _ => by with_reducible rfl) _ | exact kl_c gpD _ (fun _ => by with_reducible rfl) _ | exact rfl))
  | ((with_reducible apply cv_Nk); array_get_dec; (first | assumption | (simp only [List.length_range, List.length_map, List.length_zip, List.length_drop, List.length_take, List.length_reverse, List.length_append, List.length_cons, List.length_nil, big]; omega)); (intro _; exact rfl); (intro _ _ _; array_get_dec); (first | with_reducible exact (rfl : List.map fr _ = _) | with_reducible exact (rfl : List.map Nm.d _ = _) | with_reducible exact (rfl : List.map wkD _ = _) | with_reducible exact (rfl : List.map natD _ = _) | with_reducible exact (rfl : List.map intD _ = _) | with_reducible exact (rfl : List.map PyData.int _ = _) | with_reducible exact (rfl : List.map PyData.bool _ = _) | with_reducible exact (rfl : List.map Site.d _ = _) | with_reducible exact (rfl : List.map stD _ = _) | with_reducible exact (rfl : List.map rowD _ = _) | with_reducible exact (rfl : List.map ptD _ = _) | with_reducible exact (rfl : List.map lrD _ = _) | with_reducible exact (rfl : List.map gpD _ = _) | exact kl_c fr _ (fun _ => by with_reducible rfl) _ | exact kl_c Nm.d _ (fun _ => by with_reducible rfl) _ | exact kl_c wkD _ (fun _ => by with_reducible rfl) _ | exact kl_c natD _ (fun _ => by with_reducible rfl) _ | exact kl_c intD _ (fun _ => by with_reducible rfl) _ | exact kl_c PyData.int _ (fun _ => by with_reducible rfl) _ | exact kl_c PyData.bool _ (fun _ => by with_reducible rfl) _ | exact kl_c Site.d _ (fun _ => by with_reducible rfl) _ | exact kl_c stD _ (fun _ => by with_reducible rfl) _ | exact kl_c rowD _ (fun _ => by with_reducible rfl) _ | exact kl_c ptD _ (fun _ => by with_reducible rfl) _ | exact kl_c lrD _ (fun _ => by with_reducible rfl) _ | exact kl_c gpD _ (fun _ => by with_reducible rfl) _ | exact rfl)))
local macro_rules | `(tactic| array_mem_dec) => `(tactic| first
  | with_reducible assumption
  | with_reducible exact b_addI
  | with_reducible exact b_subI
  | ((with_reducible apply b_mulI); assumption)
  | with_reducible exact site_p
  | with_reducible exact site_n
  | with_reducible exact site_o
  | with_reducible exact wk_pos
  | with_reducible exact wk_nm
  | with_reducible exact fr_num
  | with_reducible exact fr_den
  | with_reducible exact wd_w
  | with_reducible exact wd_p
  | with_reducible exact st_t
  | with_reducible exact st_s
  | with_reducible exact i2_0
  | with_reducible exact i2_1
  | with_reducible exact i3_0
  | with_reducible exact i3_1
  | with_reducible exact i3_2
  | with_reducible exact pt_0
  | with_reducible exact pt_1
  | with_reducible exact src_l
  | with_reducible exact src_t
  | ((with_reducible apply src_m); assumption)
  | with_reducible exact zip_lm
  | with_reducible exact zip_tm
  | with_reducible exact enum_lm
  | with_reducible exact len_lm
  | with_reducible exact len_tm
  | with_reducible exact bi_tup
  | with_reducible exact bi_tupT
  | with_reducible exact bi_lstT
  | with_reducible exact bi_lst
  | with_reducible exact bi_abs
  | with_reducible exact bi_max
  | with_reducible exact bi_min
  | with_reducible exact rv_m
  | with_reducible exact cmp_eq_int _ _ _
  | with_reducible exact cmp_ne_int _ _ _
  | with_reducible exact cmp_lt_int _ _ _
  | with_reducible exact cmp_le_int _ _ _
  | with_reducible exact cmp_gt_int _ _ _
  | with_reducible exact cmp_ge_int _ _ _
  | with_reducible exact eq_nil
  | with_reducible exact ne_nil
  | with_reducible exact eq_nilT
  | with_reducible exact ne_nilT
  | ((with_reducible apply eq_nilm); assumption; exact inferInstance)
  | ((with_reducible apply ne_nilm); assumption; exact inferInstance)
  | with_reducible exact eq_x
  | with_reducible exact ne_x
  | with_reducible exact eq_xl
  | with_reducible exact ne_xl
  | ((with_reducible apply ne_xm); assumption; exact inferInstance; exact inferInstance)
  | ((with_reducible apply ne_mx); assumption; exact inferInstance; exact inferInstance)
  | with_reducible exact mem_l
  | with_reducible exact mem_t
  | with_reducible exact nmem_l
  | with_reducible exact nmem_t
  | ((with_reducible apply mem_m); assumption; exact inferInstance; exact inferInstance)
  | ((with_reducible apply sl_from); exact rfl)
  | ((with_reducible apply sl_fromT); exact rfl)
  | ((with_reducible apply ix_first); assumption)
  | ((with_reducible apply ix_last); assumption)
  | ((with_reducible apply ix_k); (first | with_reducible exact rfl | exact nat_succ _ | exact nat_pred _ (by omega)); first | assumption | exact rfl)
  | ((with_reducible apply ix_kT); (first | with_reducible exact rfl | exact nat_succ _ | exact nat_pred _ (by omega)); first | assumption | exact rfl)
  | with_reducible exact frz_last
  | ((with_reducible apply frz_at); assumption)
  | ((with_reducible apply app_m); assumption; (first | assumption | (simp only [List.length_range, List.length_map, List.length_zip, List.length_drop, List.length_take, List.length_reverse, List.length_append, List.length_cons, List.length_nil, big]; omega)))
  | ((with_reducible apply seq_m); assumption)
  | with_reducible exact seq_l
  | with_reducible exact seq_t)
local macro_rules | `(tactic| infer_instance) => `(tactic| first
  | ((with_reducible apply s_asg); array_get_dec; (first | (simp only [evT, evTs, evPar, evPs, Option.bind_some, List.set_cons_zero, List.set_cons_succ]; with_reducible exact rfl) | (simp only [evT, evTs, evPar, evPs, stD, wkD, rowD, ptD, Site.d, lrD, gpD, Option.bind_some, List.set_cons_zero, List.set_cons_succ]; exact rfl)))
  | ((with_reducible apply s_retv); array_get_dec)
  | ((with_reducible apply s_par); array_get_dec; (first | (simp only [evT, evTs, evPar, evPs, Option.bind_some, List.set_cons_zero, List.set_cons_succ]; with_reducible exact rfl) | (simp only [evT, evTs, evPar, evPs, stD, wkD, rowD, ptD, Site.d, lrD, gpD, Option.bind_some, List.set_cons_zero, List.set_cons_succ]; exact rfl)))
  | ((with_reducible apply s_parC); array_get_dec; (first | (simp only [evT, evTs, evPar, evPs, Option.bind_some, List.set_cons_zero, List.set_cons_succ]; with_reducible exact rfl) | (simp only [evT, evTs, evPar, evPs, stD, wkD, rowD, ptD, Site.d, lrD, gpD, Option.bind_some, List.set_cons_zero, List.set_cons_succ]; exact rfl)))
  | ((with_reducible apply s_mthd); array_get_dec; (apply cell_at); assumption; array_get_dec; array_mem_dec)
  | ((with_reducible apply s_callv); array_get_dec; exact rfl; sizeOf_list_dec; exact rfl)
  | ((with_reducible apply s_ifr); array_get_dec)
  | ((with_reducible apply s_if); array_get_dec))
local macro_rules | `(tactic| bv_omega) => `(tactic| first | with_reducible assumption | (first | assumption | (simp only [List.length_range, List.length_map, List.length_zip, List.length_drop, List.length_take, List.length_reverse, List.length_append, List.length_cons, List.length_nil, big]; omega)) | omega | solve_by_elim)
local macro_rules | `(tactic| sizeOf_list_dec) => `(tactic| with_reducible assumption)
local macro_rules | `(tactic| array_mem_dec) => `(tactic| with_reducible exact len_sites)
local macro_rules | `(tactic| sizeOf_list_dec) => `(tactic| ((with_reducible apply speeds_of_run) <;> bv_omega))
local macro_rules | `(tactic| sizeOf_list_dec) => `(tactic| ((with_reducible apply plus_run) <;> bv_omega))
local macro_rules | `(tactic| sizeOf_list_dec) => `(tactic| ((with_reducible apply minus_run) <;> bv_omega))
local macro_rules | `(tactic| sizeOf_list_dec) => `(tactic| ((with_reducible apply times_run) <;> bv_omega))
local macro_rules | `(tactic| sizeOf_list_dec) => `(tactic| ((with_reducible apply less_run) <;> bv_omega))
local macro_rules | `(tactic| sizeOf_list_dec) => `(tactic| ((with_reducible apply ascending_run) <;> bv_omega))
local macro_rules | `(tactic| sizeOf_list_dec) => `(tactic| ((with_reducible apply speed_of_run) <;> bv_omega))
local macro_rules | `(tactic| sizeOf_list_dec) => `(tactic| ((with_reducible apply law_plus_run) <;> bv_omega))
local macro_rules | `(tactic| sizeOf_list_dec) => `(tactic| ((with_reducible apply law_minus_run) <;> bv_omega))
local macro_rules | `(tactic| sizeOf_list_dec) => `(tactic| ((with_reducible apply law_times_run) <;> bv_omega))
local macro_rules | `(tactic| sizeOf_list_dec) => `(tactic| ((with_reducible apply law_less_run) <;> bv_omega))
local macro_rules | `(tactic| sizeOf_list_dec) => `(tactic| ((with_reducible apply ordered_run) <;> bv_omega))
local macro_rules | `(tactic| sizeOf_list_dec) => `(tactic| ((with_reducible apply law_names_run) <;> bv_omega))
local macro_rules | `(tactic| sizeOf_list_dec) => `(tactic| ((with_reducible apply names_of_run) <;> bv_omega))
local macro_rules | `(tactic| sizeOf_list_dec) => `(tactic| ((with_reducible apply require_world_run) <;> bv_omega))
local macro_rules | `(tactic| sizeOf_list_dec) => `(tactic| ((with_reducible apply require_time_run) <;> bv_omega))
local macro_rules | `(tactic| sizeOf_list_dec) => `(tactic| ((with_reducible apply require_name_run) <;> bv_omega))
local macro_rules | `(tactic| sizeOf_list_dec) => `(tactic| ((with_reducible apply law_speed_run) <;> bv_omega))
local macro_rules | `(tactic| array_mem_dec) => `(tactic| with_reducible exact lr_0)
local macro_rules | `(tactic| array_mem_dec) => `(tactic| with_reducible exact lr_1)
local macro_rules | `(tactic| array_mem_dec) => `(tactic| with_reducible exact lr_2)
local macro_rules | `(tactic| array_mem_dec) => `(tactic| ((with_reducible apply add_lm) <;> bv_omega))
local macro_rules | `(tactic| array_mem_dec) => `(tactic| ((with_reducible apply app_lr) <;> bv_omega))
local macro_rules | `(tactic| array_mem_dec) => `(tactic| with_reducible exact sl_1)
local macro_rules | `(tactic| array_mem_dec) => `(tactic| with_reducible exact sl_1T)
local macro_rules | `(tactic| sizeOf_list_dec) => `(tactic| ((with_reducible apply law_places_run) <;> bv_omega))
local macro_rules | `(tactic| array_mem_dec) => `(tactic| ((with_reducible apply add_l1) <;> bv_omega))
local macro_rules | `(tactic| sizeOf_list_dec) => `(tactic| ((with_reducible apply law_times_of_run) <;> bv_omega))
local macro_rules | `(tactic| array_mem_dec) => `(tactic| with_reducible exact gp_0)
local macro_rules | `(tactic| array_mem_dec) => `(tactic| with_reducible exact gp_1)
local macro_rules | `(tactic| array_mem_dec) => `(tactic| ((with_reducible apply app_gp) <;> bv_omega))
local macro_rules | `(tactic| sizeOf_list_dec) => `(tactic| ((with_reducible apply gaps_at_run) <;> bv_omega))

def nbG (gs : List Rat) (i : Nat) : List Rat := ((gs.drop (i - 1)).take (i - (i - 1))) ++ ((gs.drop (i + 1)).take (i + 2 - (i + 1)))
def smallG (gs : List Rat) (i : Nat) (x : Rat) : List Rat := (nbG gs i).filter fun y => decide (y < x)
def rateL (gs : List Rat) (i : Nat) (x : Rat) : Int := if (smallG gs i x).length = 0 then -2 else if (smallG gs i x).length = 2 then 2 else 0
theorem law_rate_run {gs : List Rat} {i : Nat} {x : Rat} (hx : gs[i]? = some x) (hs : ∀ y ∈ gs, sm y) (hl : gs.length ≤ 1000) (M : Mem) : F_law_rate.run [.d (.list (gs.map fr)), .d (.int (i : Int))] M = some (.ret (.d (.int (rateL gs i x))), M) := by
  have hb : big = 1000000 := rfl
  have hxs := hs x (List.mem_of_getElem? hx)
  have hil : i < gs.length := (List.getElem?_eq_some_iff.mp hx).1
  have hn : ∀ y ∈ nbG gs i, sm y := fun y hy => by
    unfold nbG at hy
    rcases List.mem_append.mp hy with h | h
    · exact hs y (List.mem_of_mem_drop (List.mem_of_mem_take h))
    · exact hs y (List.mem_of_mem_drop (List.mem_of_mem_take h))
  have hnl : (nbG gs i).length ≤ big := by
    unfold nbG
    rw [List.length_append, List.length_take, List.length_take]
    omega
  have e1 : ∀ env M, evE [F_law_is_less] (.slc (.var 0) (.so (.bi .max (.cons (.int 0) (.cons (.bin .sub (.var 1) (.int 1)) .nil)))) (.so (.var 1))) (some (.d (.list (gs.map fr))) :: some (.d (.int (i : Int))) :: env) M = some (.d (.list (((gs.drop (i - 1)).take (i - (i - 1))).map fr)), M) := fun env M => by
    apply ev_slc
    · array_get_dec
    · array_get_dec
    · array_get_dec
    · refine sl_bt ?_ rfl
      split <;> omega
  have e2 : ∀ env M, evE [F_law_is_less] (.slc (.var 0) (.so (.bin .add (.var 1) (.int 1))) (.so (.bin .add (.var 1) (.int 2)))) (some (.d (.list (gs.map fr))) :: some (.d (.int (i : Int))) :: env) M = some (.d (.list (((gs.drop (i + 1)).take (i + 2 - (i + 1))).map fr)), M) := fun env M => by
    apply ev_slc
    · array_get_dec
    · array_get_dec
    · array_get_dec
    · exact sl_bt rfl rfl
  have e3 : ∀ env M, evE [F_law_is_less] (.bin .add (.slc (.var 0) (.so (.bi .max (.cons (.int 0) (.cons (.bin .sub (.var 1) (.int 1)) .nil)))) (.so (.var 1))) (.slc (.var 0) (.so (.bin .add (.var 1) (.int 1))) (.so (.bin .add (.var 1) (.int 2))))) (some (.d (.list (gs.map fr))) :: some (.d (.int (i : Int))) :: env) M = some (.d (.list ((nbG gs i).map fr)), M) := fun env M =>
    ev_bin (e1 _ _) (e2 _ _) (by
      rw [add_lm (by rw [List.length_take, List.length_take]; omega)]
      rfl)
  have e4 := e3 [none, none] M
  refine run_dfR (env := [some _, some _, none, none]) rfl ?_ rfl; dsimp only [t_law_rate]
  infer_instance
  rw [show List.filter (fun y => decide (y < x)) (nbG gs i) = smallG gs i x from rfl]
  have hr : ∀ v, rateL gs i x = v → rateL gs i x = v := fun _ h => h
  unfold rateL at *
  generalize smallG gs i x = sl
  infer_instance
  · intro h
    have h : sl = [] := by simpa using h
    infer_instance
    show finish _ _ = _
    rw [if_pos (by rw [h]; rfl)]
    exact fin_d
  · intro h
    have h : sl ≠ [] := by simpa using h
    infer_instance
    show finish _ _ = _
    rw [if_neg (fun e => h (List.length_eq_zero_iff.mp e))]
    have e : (if decide ((((sl.map fun _ => (1 : Int)).length : Nat) : Int) = 2) = true then Vl.d (.int 2) else .d (.int 0)) = .d (.int (if sl.length = 2 then 2 else 0)) := by
      rw [List.length_map]
      by_cases h2 : sl.length = 2
      · rw [h2]
        rfl
      · rw [if_neg h2, if_neg (by simp; omega)]
    rw [e]
    exact fin_d
local macro_rules | `(tactic| sizeOf_list_dec) => `(tactic| ((with_reducible apply law_rate_run) <;> bv_omega))

section
variable {ss : List Site}
def gapsQ (ss : List Site) : List Rat := (List.range (ss.length - 1)).map (gapQ ss)
theorem gapsL_1 : (gapsL ss).map (fun x => x.1) = gapsQ ss := by
  unfold gapsL gapsQ
  rw [List.map_map]
  rfl
theorem gapsL_2 : (gapsL ss).map (fun x => x.2) = (List.range (ss.length - 1)).map (rtI ss) := by
  unfold gapsL
  rw [List.map_map]
  rfl
theorem gapsQ_len : (gapsQ ss).length = ss.length - 1 := by unfold gapsQ; rw [List.length_map, List.length_range]
theorem gapsQ_get {i : Nat} (h : i + 1 < ss.length) : (gapsQ ss)[i]? = some (gapQ ss i) := by
  unfold gapsQ
  rw [List.getElem?_map, List.getElem?_range (by omega)]
  rfl
theorem tel (n : Nat) : ((List.range n).map (rtI ss)).sum = spd ss n - spd ss 0 := by
  induction n with
  | zero => simp
  | succ n ih =>
    rw [List.range_succ, List.map_append, List.sum_append, ih]
    simp [rtI]
    omega
theorem rates_sum (h : NoP ss) (h2 : 2 ≤ ss.length) : ((List.range (ss.length - 1)).map (rtI ss)).sum = -2 := by
  rw [tel, nop_last h h2, nop_first h h2]
  rfl
/-- the speed at a place without posts -/
theorem nop_spd_at (h : NoP ss) (h2 : 2 ≤ ss.length) {i : Nat} (hi : i < ss.length) : spd ss i = if i = 0 then 1 else if i = ss.length - 1 then -1 else if gapQ ss (i - 1) < gapQ ss i then -1 else 1 := by
  have hp : isPost ss i = false := by rw [isPost_at hi]; exact h _ (List.getElem_mem hi)
  unfold spd
  rw [if_neg (by rw [hp]; simp; omega)]
  by_cases h0 : i = 0
  · rw [if_pos h0, if_pos h0]
  · rw [if_neg h0, if_neg h0]
    unfold gapQ
    rw [show i - 1 + 1 = i by omega]
theorem rates_ok (h : NoP ss) (h2 : 2 ≤ ss.length) (hd : ∀ j, j + 2 < ss.length → gapQ ss j ≠ gapQ ss (j + 1)) {i : Nat} (hi : i + 1 < ss.length) : rateL (gapsQ ss) i (gapQ ss i) = rtI ss i := by
  have s1 := nop_spd_at h h2 (show i < ss.length by omega)
  have s2 := nop_spd_at h h2 hi
  rw [if_neg (by omega), show i + 1 - 1 = i by omega] at s2
  have hleft : ((gapsQ ss).drop (i - 1)).take (i - (i - 1)) = if i = 0 then [] else [gapQ ss (i - 1)] := by
    by_cases h0 : i = 0
    · subst h0
      simp
    · rw [if_neg h0, show i - (i - 1) = 1 by omega]
      refine List.ext_getElem? fun k => ?_
      rw [List.getElem?_take, List.getElem?_drop]
      by_cases hk : k < 1
      · have : k = 0 := by omega
        subst this
        rw [if_pos hk, Nat.add_zero, gapsQ_get (by omega)]
        rfl
      · rw [if_neg hk, List.getElem?_eq_none (by simp; omega)]
  have hright : ((gapsQ ss).drop (i + 1)).take (i + 2 - (i + 1)) = if i + 2 < ss.length then [gapQ ss (i + 1)] else [] := by
    rw [show i + 2 - (i + 1) = 1 by omega]
    by_cases h0 : i + 2 < ss.length
    · rw [if_pos h0]
      refine List.ext_getElem? fun k => ?_
      rw [List.getElem?_take, List.getElem?_drop]
      by_cases hk : k < 1
      · have : k = 0 := by omega
        subst this
        rw [if_pos hk, Nat.add_zero, gapsQ_get (by omega)]
        rfl
      · rw [if_neg hk, List.getElem?_eq_none (by simp; omega)]
    · rw [if_neg h0, List.drop_eq_nil_of_le (by rw [gapsQ_len]; omega)]
      rfl
  have hs1 : spd ss i = if i = 0 then 1 else if gapQ ss (i - 1) < gapQ ss i then -1 else 1 := by
    rw [s1]
    by_cases h0 : i = 0
    · rw [if_pos h0, if_pos h0]
    · rw [if_neg h0, if_neg h0, if_neg (show ¬ i = ss.length - 1 by omega)]
  have hs2 : spd ss (i + 1) = if i + 2 < ss.length then (if gapQ ss i < gapQ ss (i + 1) then -1 else 1) else -1 := by
    rw [s2]
    by_cases h0 : i + 2 < ss.length
    · rw [if_pos h0, if_neg (show ¬ i + 1 = ss.length - 1 by omega)]
    · rw [if_neg h0, if_pos (show i + 1 = ss.length - 1 by omega)]
  unfold rateL smallG nbG rtI
  rw [hleft, hright, hs1, hs2]
  by_cases h0 : i = 0 <;> by_cases h3 : i + 2 < ss.length
  · have hne := hd i h3
    rw [if_pos h0, if_pos h0, if_pos h3, if_pos h3]
    by_cases h4 : gapQ ss i < gapQ ss (i + 1)
    · have h5 : ¬ gapQ ss (i + 1) < gapQ ss i := by grind
      simp [h4, h5]
    · have h5 : gapQ ss (i + 1) < gapQ ss i := by grind
      simp [h4, h5]
  · rw [if_pos h0, if_pos h0, if_neg h3, if_neg h3]
    rfl
  · have hne := hd i h3
    rw [if_neg h0, if_neg h0, if_pos h3, if_pos h3]
    by_cases h4 : gapQ ss i < gapQ ss (i + 1)
    · have h5 : ¬ gapQ ss (i + 1) < gapQ ss i := by grind
      by_cases h6 : gapQ ss (i - 1) < gapQ ss i
      · simp [h4, h5, h6]
      · simp [h4, h5, h6]
    · have h5 : gapQ ss (i + 1) < gapQ ss i := by grind
      by_cases h6 : gapQ ss (i - 1) < gapQ ss i
      · simp [h4, h5, h6]
      · simp [h4, h5, h6]
  · rw [if_neg h0, if_neg h0, if_neg h3, if_neg h3]
    by_cases h6 : gapQ ss (i - 1) < gapQ ss i
    · simp [h6]
    · simp [h6]
end
end NW

set_option Elab.async false
set_option linter.all false
set_option maxRecDepth 100000
set_option maxHeartbeats 4000000
set_option exponentiation.threshold 100000
/-! Law k17. -/
namespace NW.Nk17
open PySem
def t_law : Df := ⟨["script", "k", "source", "world", "states", "when", "rows", "gaps", "row", "one", "other", "at", "half", "before", "after", "expected", "gap", "rate"], 1, ["_law_source", "_law_world", "_law_states", "_law_times_of", "gaps_at", "_law_rate", "_law_minus", "_law_times", "_law_plus"],
    (.cons (.for (.name 1) (.rng1 (.bi .max (.cons (.int 6) (.cons (.bi .min (.cons (.int 30) (.cons (.bi .len (.cons (.var 0) .nil)) .nil))) .nil))))
    (.cons (.asg (.name 2) (.call 0 (.cons (.var 0) (.cons (.var 1) .nil))))
    (.cons (.asg (.name 3) (.call 1 (.cons (.var 2) (.cons (.int 8) (.cons (.int 0) .nil)))))
    (.cons (.asg (.name 4) (.call 2 (.cons (.var 3) .nil)))
    (.cons (.for (.name 5) (.seq (.call 3 (.cons (.var 4) .nil)))
    (.cons (.asg (.name 6) (.call 4 (.cons (.var 3) (.cons (.var 5) .nil))))
    (.cons (.asg (.name 7) (.comp false [("row", 8)] (.name 8) (.seq (.var 6)) .no (.idx (.var 8) (.int 0))))
    (.cons (.ife (.and (.cmp .ne (.var 6) (.lst .nil)) (.cmp .ne (.bi .sum (.cons (.comp false [("row", 8)] (.name 8) (.seq (.var 6)) .no (.idx (.var 8) (.int 1))) .nil)) (.neg (.int 2))))
    (.cons (.ret (.bl false))
    .nil)
    .nil)
    (.cons (.ife (.cmp .eq (.comp false [("one", 9), ("other", 10)] (.tup [(.name 9), (.name 10)]) (.zip (.var 7) (.slc (.var 7) (.so (.int 1)) .no)) (.so (.cmp .eq (.var 9) (.var 10))) (.int 1)) (.lst .nil))
    (.cons (.ife (.cmp .ne (.comp false [("row", 8)] (.name 8) (.seq (.var 6)) .no (.idx (.var 8) (.int 1))) (.comp false [("at", 11)] (.name 11) (.rng1 (.bi .len (.cons (.var 7) .nil))) .no (.call 5 (.cons (.var 7) (.cons (.var 11) .nil)))))
    (.cons (.ret (.bl false))
    .nil)
    .nil)
    .nil)
    .nil)
    .nil)))))
    (.cons (.for (.tup [(.name 9), (.name 10)]) (.zip (.var 4) (.slc (.var 4) (.so (.int 1)) .no))
    (.cons (.asg (.name 12) (.call 7 (.cons (.call 6 (.cons (.idx (.var 10) (.int 0)) (.cons (.idx (.var 9) (.int 0)) .nil))) (.cons (.tup (.cons (.int 1) (.cons (.int 2) .nil))) .nil))))
    (.cons (.par [13, 14] (.cons (.call 4 (.cons (.var 3) (.cons (.idx (.var 9) (.int 0)) .nil))) (.cons (.call 4 (.cons (.var 3) (.cons (.call 8 (.cons (.idx (.var 9) (.int 0)) (.cons (.var 12) .nil))) .nil))) .nil)))
    (.cons (.asg (.name 15) (.comp false [("gap", 16), ("rate", 17)] (.tup [(.name 16), (.name 17)]) (.seq (.var 13)) .no (.tup (.cons (.call 8 (.cons (.var 16) (.cons (.call 7 (.cons (.var 12) (.cons (.tup (.cons (.var 17) (.cons (.int 1) .nil))) .nil))) .nil))) (.cons (.var 17) .nil)))))
    (.cons (.ife (.cmp .ne (.var 14) (.var 15))
    (.cons (.ret (.bl false))
    .nil)
    .nil)
    .nil)))))
    .nil))))))
    (.cons (.ret (.cmp .eq (.call 4 (.cons (.tup (.cons (.tup (.cons (.tup (.cons (.str "ann") (.cons (.tup (.cons (.int 0) (.cons (.int 1) .nil))) .nil))) (.cons (.tup (.cons (.str "bo") (.cons (.tup (.cons (.int 5) (.cons (.int 1) .nil))) .nil))) .nil))) (.cons (.tup .nil) .nil))) (.cons (.tup (.cons (.int 1) (.cons (.int 1) .nil))) .nil))) (.lst (.cons (.tup (.cons (.tup (.cons (.int 3) (.cons (.int 1) .nil))) (.cons (.neg (.int 2)) .nil))) .nil))))
    .nil))⟩
def F_law : Fn := fnOf [F_law_source, F_law_world, F_law_states, F_law_times_of, F_gaps_at, F_law_rate, F_law_minus, F_law_times, F_law_plus] t_law

local macro_rules | `(tactic| array_get_dec) => `(tactic| first
  | with_reducible assumption
  | ((with_reducible apply ev_var); exact rfl)
  | with_reducible exact ev_int
  | with_reducible exact ev_neg1
  | with_reducible exact ev_none
  | with_reducible exact ev_bl
  | with_reducible exact ev_str
  | with_reducible exact ev_con
  | with_reducible exact ev_es0
  | ((with_reducible apply ev_es); array_get_dec; array_get_dec)
  | ((with_reducible apply ev_call); array_get_dec; exact rfl; sizeOf_list_dec; exact rfl)
  | ((with_reducible apply ts_of); array_get_dec)
  | ((with_reducible apply ev_pos); array_get_dec; array_get_dec; (first | with_reducible exact rfl | exact nat_succ _ | exact nat_pred _ (by omega)); first | assumption | omega)
  | ((with_reducible apply ev_idx); array_get_dec; array_get_dec; array_mem_dec)
  | ((with_reducible apply ev_bin); array_get_dec; array_get_dec; array_mem_dec)
  | ((with_reducible apply ev_cmp); array_get_dec; array_get_dec; array_mem_dec)
  | ((with_reducible apply ev_bi); array_get_dec; array_mem_dec)
  | with_reducible exact ev_ho
  | with_reducible exact ev_zo
  | with_reducible exact ev_73
  | ((with_reducible apply ev_io); array_get_dec)
  | ((with_reducible apply ev_oi); array_get_dec; assumption)
  | ((with_reducible apply ev_tup); array_get_dec; exact rfl; first | decide | simp [big])
  | ((with_reducible apply ev_lst); array_get_dec; exact rfl; first | decide | simp [big])
  | ((with_reducible apply ev_new); array_get_dec; exact rfl; first | decide | simp [big])
  | ((with_reducible apply ev_newL); array_get_dec; array_mem_dec)
  | ((with_reducible apply ev_not); array_get_dec)
  | ((with_reducible apply ev_andP); array_get_dec; intro _; array_get_dec)
  | ((with_reducible apply ev_orP); array_get_dec; intro _; array_get_dec)
  | ((with_reducible apply ev_ifeP); array_get_dec; (intro _; array_get_dec); intro _; array_get_dec)
  | ((with_reducible apply ev_isN); array_get_dec)
  | ((with_reducible apply ev_notN); array_get_dec)
  | ((with_reducible apply ev_negP); array_get_dec)
  | ((with_reducible apply ev_rev); array_get_dec; array_mem_dec)
  | ((with_reducible apply ev_frz); array_get_dec; array_mem_dec)
  | with_reducible exact ev_o0
  | ((with_reducible apply ev_o1); array_get_dec)
  | ((with_reducible apply ev_slc); array_get_dec; array_get_dec; array_get_dec; array_mem_dec)
  | ((with_reducible apply iv_seq); array_get_dec; array_mem_dec)
  | ((with_reducible apply iv_zip); array_get_dec; array_get_dec; array_mem_dec)
  | ((with_reducible apply iv_enum); array_get_dec; array_mem_dec)
  | ((with_reducible apply iv_rng1); array_get_dec; omega; omega)
  | ((with_reducible apply iv_rng2); array_get_dec; array_get_dec; omega; omega; omega; omega)
  | ((with_reducible apply cv_N); array_get_dec; (first | assumption | (simp only [List.length_range, List.length_map, List.length_zip, List.length_drop, List.length_take, List.length_reverse, List.length_append, List.length_cons, List.length_nil, big]; omega)); (intro _; exact rfl); (intro _ _ _; array_get_dec); (first | with_reducible exact (rfl : List.map fr _ = _) | with_reducible exact (rfl : List.map Nm.d _ = _) | with_reducible exact (rfl : List.map wkD _ = _) | with_reducible exact (rfl : List.map natD _ = _) | with_reducible exact (rfl : List.map intD _ = _) | with_reducible exact (rfl : List.map PyData.int _ = _) | with_reducible exact (rfl : List.map PyData.bool _ = _) | with_reducible exact (rfl : List.map Site.d _ = _) | with_reducible exact (rfl : List.map stD _ = _) | with_reducible exact (rfl : List.map rowD _ = _) | with_reducible exact (rfl : List.map ptD _ = _) | with_reducible exact kl_gp _ _ _ | with_reducible exact (rfl : List.map lrD _ = _) | with_reducible exact (rfl : List.map gpD _ = _) | exact kl_c fr _ (fun _ => by with_reducible rfl) _ | exact kl_c Nm.d _ (fun _ => by with_reducible rfl) _ | exact kl_c wkD _ (fun _ => by with_reducible rfl) _ | exact kl_c natD _ (fun _ => by with_reducible rfl) _ | exact kl_c intD _ (fun _ => by with_reducible rfl) _ | exact kl_c PyData.int _ (fun _ => by with_reducible rfl) _ | exact kl_c PyData.bool _ (fun _ => by with_reducible rfl) _ | exact kl_c Site.d _ (fun _ => by with_reducible rfl) _ | exact kl_c stD _ (fun _ => by with_reducible rfl) _ | exact kl_c rowD _ (fun _ => by with_reducible rfl) _ | exact kl_c ptD _ (fun _ => by with_reducible rfl) _ | exact kl_c lrD _ (fun _ => by with_reducible rfl) _ | exact kl_c gpD _ (fun _ => by with_reducible rfl) _ | exact rfl))
  | ((with_reducible apply cv_C); array_get_dec; (first | assumption | (simp only [List.length_range, List.length_map, List.length_zip, List.length_drop, List.length_take, List.length_reverse, List.length_append, List.length_cons, List.length_nil, big]; omega)); (intro _; exact rfl); (intro _ _ _; array_get_dec); (intro _ _ _ _; array_get_dec); (first | with_reducible exact (rfl : List.map fr _ = _) | with_reducible exact (rfl : List.map Nm.d _ = _) | with_reducible exact (rfl : List.map wkD _ = _) | with_reducible exact (rfl : List.map natD _ = _) | with_reducible exact (rfl : List.map intD _ = _) | with_reducible exact (rfl : List.map PyData.int _ = _) | with_reducible exact (rfl : List.map PyData.bool _ = _) | with_reducible exact (rfl : List.map Site.d _ = _) | with_reducible exact (rfl : List.map stD _ = _) | with_reducible exact (rfl : List.map rowD _ = _) | with_reducible exact (rfl : List.map ptD _ = _) | with_reducible exact kl_gp _ _ _ | with_reducible exact (rfl : List.map lrD _ = _) | with_reducible exact (rfl : List.map gpD _ = _) | exact kl_c fr _ (fun _ => by with_reducible rfl) _ | exact kl_c Nm.d _ (fun _ => by with_reducible rfl) _ | exact kl_c wkD _ (fun _ => by with_reducible rfl) _ | exact kl_c natD _ (fun _ => by with_reducible rfl) _ | exact kl_c intD _ (fun _ => by with_reducible rfl) _ | exact kl_c PyData.int _ (fun _ => by with_reducible rfl) _ | exact kl_c PyData.bool _ (fun _ => by with_reducible rfl) _ | exact kl_c Site.d _ (fun _ => by with_reducible rfl) _ | exact kl_c stD _ (fun _ => by with_reducible rfl) _ | exact kl_c rowD _ (fun _ => by with_reducible rfl) _ | exact kl_c ptD _ (fun _ => by with_reducible rfl) _ | exact kl_c lrD _ (fun _ => by with_reducible rfl) _ | exact kl_c gpD _ (fun _ => by with_reducible rfl) _ | exact rfl))
  | ((with_reducible apply cv_Nm); array_get_dec; assumption; (first | assumption | (simp only [List.length_range, List.length_map, List.length_zip, List.length_drop, List.length_take, List.length_reverse, List.length_append, List.length_cons, List.length_nil, big]; omega)); (intro _; exact rfl); (intro _ _ _; array_get_dec); (first | with_reducible exact (rfl : List.map fr _ = _) | with_reducible exact (rfl : List.map Nm.d _ = _) | with_reducible exact (rfl : List.map wkD _ = _) | with_reducible exact (rfl : List.map natD _ = _) | with_reducible exact (rfl : List.map intD _ = _) | with_reducible exact (rfl : List.map PyData.int _ = _) | with_reducible exact (rfl : List.map PyData.bool _ = _) | with_reducible exact (rfl : List.map Site.d _ = _) | with_reducible exact (rfl : List.map stD _ = _) | with_reducible exact (rfl : List.map rowD _ = _) | with_reducible exact (rfl : List.map ptD _ = _) | with_reducible exact kl_gp _ _ _ | with_reducible exact (rfl : List.map lrD _ = _) | with_reducible exact (rfl : List.map gpD _ = _) | exact kl_c fr _ (fun _ => by with_reducible rfl) _ | exact kl_c Nm.d _ (fun _ => by with_reducible rfl) _ | exact kl_c wkD _ (fun _ => by with_reducible rfl) _ | exact kl_c natD _ (fun _ => by with_reducible rfl) _ | exact kl_c intD _ (fun _ => by with_reducible rfl) _ | exact kl_c PyData.int _ (fun _ => by with_reducible rfl) _ | exact kl_c PyData.bool _ (fun _ => by with_reducible rfl) _ | exact kl_c Site.d _ (fun _ => by with_reducible rfl) _ | exact kl_c stD _ (fun _ => by with_reducible rfl) _ | exact kl_c rowD _ (fun _ => by with_reducible rfl) _ | exact kl_c ptD _ (fun _ => by with_reducible rfl) _ | exact kl_c lrD _ (fun _ => by with_reducible rfl) _ | exact kl_c gpD _ (fun _ => by with_reducible rfl) _ | exact rfl))
  | ((with_reducible apply cv_Cm); array_get_dec; assumption; (first | assumption | (simp only [List.length_range, List.length_map, List.length_zip, List.length_drop, List.length_take, List.length_reverse, List.length_append, List.length_cons, List.length_nil, big]; omega)); (intro _; exact rfl); (intro _ _ _; array_get_dec); (intro _ _ _ _; array_get_dec); (first | with_reducible exact (rfl : List.map fr _ = _) | with_reducible exact (rfl : List.map Nm.d _ = _) | with_reducible exact (rfl : List.map wkD _ = _) | with_reducible exact (rfl : List.map natD _ = _) | with_reducible exact (rfl : List.map intD _ = _) | with_reducible exact (rfl : List.map PyData.int _ = _) | with_reducible exact (rfl : List.map PyData.bool _ = _) | with_reducible exact (rfl : List.map Site.d _ = _) | with_reducible exact (rfl : List.map stD _ = _) | with_reducible exact (rfl : List.map rowD _ = _) | with_reducible exact (rfl : List.map ptD _ = _) | with_reducible exact kl_gp _ _ _ | with_reducible exact (rfl : List.map lrD _ = _) | with_reducible exact (rfl : List.map gpD _ = _) | exact kl_c fr _ (fun _ => by with_reducible rfl) _ | exact kl_c Nm.d _ (fun _ => by with_reducible rfl) _ | exact kl_c wkD _ (fun _ => by with_reducible rfl) _ | exact kl_c natD _ (fun _ => by with_reducible rfl) _ | exact kl_c intD _ (fun _ => by with_reducible rfl) _ | exact kl_c PyData.int _ (fun _ => by with_reducible rfl) _ | exact kl_c PyData.bool _ (fun _ => by with_reducible rfl) _ | exact kl_c Site.d _ (fun _ => by with_reducible rfl) _ | exact kl_c stD _ (fun _ => by with_reducible rfl) _ | exact kl_c rowD _ (fun _ => by with_reducible rfl) _ | exact kl_c ptD _ (fun _ => by with_reducible rfl) _ | exact kl_c lrD _ (fun _ => by with_reducible rfl) _ | exact kl_c gpD _ (fun _ => by with_reducible rfl) _ | exact rfl))
  | ((with_reducible apply cv_Nk); array_get_dec; (first | assumption | (simp only [List.length_range, List.length_map, List.length_zip, List.length_drop, List.length_take, List.length_reverse, List.length_append, List.length_cons, List.length_nil, big]; omega)); (intro _; exact rfl); (intro _ _ _; array_get_dec); (first | with_reducible exact (rfl : List.map fr _ = _) | with_reducible exact (rfl : List.map Nm.d _ = _) | with_reducible exact (rfl : List.map wkD _ = _) | with_reducible exact (rfl : List.map natD _ = _) | with_reducible exact (rfl : List.map intD _ = _) | with_reducible exact (rfl : List.map PyData.int _ = _) | with_reducible exact (rfl : List.map PyData.bool _ = _) | with_reducible exact (rfl : List.map Site.d _ = _) | with_reducible exact (rfl : List.map stD _ = _) | with_reducible exact (rfl : List.map rowD _ = _) | with_reducible exact (rfl : List.map ptD _ = _) | with_reducible exact kl_gp _ _ _ | with_reducible exact (rfl : List.map lrD _ = _) | with_reducible exact (rfl : List.map gpD _ = _) | exact kl_c fr _ (fun _ => by with_reducible rfl) _ | exact kl_c Nm.d _ (fun _ => by with_reducible rfl) _ | exact kl_c wkD _ (fun _ => by with_reducible rfl) _ | exact kl_c natD _ (fun _ => by with_reducible rfl) _ | exact kl_c intD _ (fun _ => by with_reducible rfl) _ | exact kl_c PyData.int _ (fun _ => by with_reducible rfl) _ | exact kl_c PyData.bool _ (fun _ => by with_reducible rfl) _ | exact kl_c Site.d _ (fun _ => by with_reducible rfl) _ | exact kl_c stD _ (fun _ => by with_reducible rfl) _ | exact kl_c rowD _ (fun _ => by with_reducible rfl) _ | exact kl_c ptD _ (fun _ => by with_reducible rfl) _ | exact kl_c lrD _ (fun _ => by with_reducible rfl) _ | exact kl_c gpD _ (fun _ => by with_reducible rfl) _ | exact rfl)))
local macro_rules | `(tactic| array_mem_dec) => `(tactic| first
  | with_reducible assumption
  | with_reducible exact b_addI
  | with_reducible exact b_subI
  | ((with_reducible apply b_mulI); assumption)
  | with_reducible exact site_p
  | with_reducible exact site_n
  | with_reducible exact site_o
  | with_reducible exact wk_pos
  | with_reducible exact wk_nm
  | with_reducible exact fr_num
  | with_reducible exact fr_den
  | with_reducible exact wd_w
  | with_reducible exact wd_p
  | with_reducible exact st_t
  | with_reducible exact st_s
  | with_reducible exact i2_0
  | with_reducible exact i2_1
  | with_reducible exact i3_0
  | with_reducible exact i3_1
  | with_reducible exact i3_2
  | with_reducible exact pt_0
  | with_reducible exact pt_1
  | with_reducible exact src_l
  | with_reducible exact src_t
  | ((with_reducible apply src_m); assumption)
  | with_reducible exact zip_lm
  | with_reducible exact zip_tm
  | with_reducible exact enum_lm
  | with_reducible exact len_lm
  | with_reducible exact len_tm
  | with_reducible exact bi_tup
  | with_reducible exact bi_tupT
  | with_reducible exact bi_lstT
  | with_reducible exact bi_lst
  | with_reducible exact bi_abs
  | with_reducible exact bi_max
  | with_reducible exact bi_min
  | with_reducible exact rv_m
  | with_reducible exact cmp_eq_int _ _ _
  | with_reducible exact cmp_ne_int _ _ _
  | with_reducible exact cmp_lt_int _ _ _
  | with_reducible exact cmp_le_int _ _ _
  | with_reducible exact cmp_gt_int _ _ _
  | with_reducible exact cmp_ge_int _ _ _
  | with_reducible exact eq_nil
  | with_reducible exact ne_nil
  | with_reducible exact eq_nilT
  | with_reducible exact ne_nilT
  | ((with_reducible apply eq_nilm); assumption; exact inferInstance)
  | ((with_reducible apply ne_nilm); assumption; exact inferInstance)
  | with_reducible exact eq_x
  | with_reducible exact ne_x
  | with_reducible exact eq_xl
  | with_reducible exact ne_xl
  | ((with_reducible apply ne_xm); assumption; exact inferInstance; exact inferInstance)
  | ((with_reducible apply ne_mx); assumption; exact inferInstance; exact inferInstance)
  | with_reducible exact mem_l
  | with_reducible exact mem_t
  | with_reducible exact nmem_l
  | with_reducible exact nmem_t
  | ((with_reducible apply mem_m); assumption; exact inferInstance; exact inferInstance)
  | ((with_reducible apply sl_from); exact rfl)
  | ((with_reducible apply sl_fromT); exact rfl)
  | ((with_reducible apply ix_first); assumption)
  | ((with_reducible apply ix_last); assumption)
  | ((with_reducible apply ix_k); (first | with_reducible exact rfl | exact nat_succ _ | exact nat_pred _ (by omega)); first | assumption | exact rfl)
  | ((with_reducible apply ix_kT); (first | with_reducible exact rfl | exact nat_succ _ | exact nat_pred _ (by omega)); first | assumption | exact rfl)
  | with_reducible exact frz_last
  | ((with_reducible apply frz_at); assumption)
  | ((with_reducible apply app_m); assumption; (first | assumption | (simp only [List.length_range, List.length_map, List.length_zip, List.length_drop, List.length_take, List.length_reverse, List.length_append, List.length_cons, List.length_nil, big]; omega)))
  | ((with_reducible apply seq_m); assumption)
  | with_reducible exact seq_l
  | with_reducible exact seq_t)
local macro_rules | `(tactic| infer_instance) => `(tactic| first
  | ((with_reducible apply s_asg); array_get_dec; (first | (simp only [evT, evTs, evPar, evPs, Option.bind_some, List.set_cons_zero, List.set_cons_succ]; with_reducible exact rfl) | (simp only [evT, evTs, evPar, evPs, stD, wkD, rowD, ptD, Site.d, lrD, gpD, Option.bind_some, List.set_cons_zero, List.set_cons_succ]; exact rfl)))
  | ((with_reducible apply s_retv); array_get_dec)
  | ((with_reducible apply s_par); array_get_dec; (first | (simp only [evT, evTs, evPar, evPs, Option.bind_some, List.set_cons_zero, List.set_cons_succ]; with_reducible exact rfl) | (simp only [evT, evTs, evPar, evPs, stD, wkD, rowD, ptD, Site.d, lrD, gpD, Option.bind_some, List.set_cons_zero, List.set_cons_succ]; exact rfl)))
  | ((with_reducible apply s_parC); array_get_dec; (first | (simp only [evT, evTs, evPar, evPs, Option.bind_some, List.set_cons_zero, List.set_cons_succ]; with_reducible exact rfl) | (simp only [evT, evTs, evPar, evPs, stD, wkD, rowD, ptD, Site.d, lrD, gpD, Option.bind_some, List.set_cons_zero, List.set_cons_succ]; exact rfl)))
  | ((with_reducible apply s_mthd); array_get_dec; (apply cell_at); assumption; array_get_dec; array_mem_dec)
  | ((with_reducible apply s_callv); array_get_dec; exact rfl; sizeOf_list_dec; exact rfl)
  | ((with_reducible apply s_ifr); array_get_dec)
  | ((with_reducible apply s_if); array_get_dec))
local macro_rules | `(tactic| bv_omega) => `(tactic| first | with_reducible assumption | (first | assumption | (simp only [List.length_range, List.length_map, List.length_zip, List.length_drop, List.length_take, List.length_reverse, List.length_append, List.length_cons, List.length_nil, big]; omega)) | omega | solve_by_elim)
local macro_rules | `(tactic| sizeOf_list_dec) => `(tactic| with_reducible assumption)
local macro_rules | `(tactic| array_mem_dec) => `(tactic| with_reducible exact len_sites)
local macro_rules | `(tactic| sizeOf_list_dec) => `(tactic| ((with_reducible apply speeds_of_run) <;> bv_omega))
local macro_rules | `(tactic| sizeOf_list_dec) => `(tactic| ((with_reducible apply plus_run) <;> bv_omega))
local macro_rules | `(tactic| sizeOf_list_dec) => `(tactic| ((with_reducible apply minus_run) <;> bv_omega))
local macro_rules | `(tactic| sizeOf_list_dec) => `(tactic| ((with_reducible apply times_run) <;> bv_omega))
local macro_rules | `(tactic| sizeOf_list_dec) => `(tactic| ((with_reducible apply less_run) <;> bv_omega))
local macro_rules | `(tactic| sizeOf_list_dec) => `(tactic| ((with_reducible apply ascending_run) <;> bv_omega))
local macro_rules | `(tactic| sizeOf_list_dec) => `(tactic| ((with_reducible apply speed_of_run) <;> bv_omega))
local macro_rules | `(tactic| sizeOf_list_dec) => `(tactic| ((with_reducible apply law_plus_run) <;> bv_omega))
local macro_rules | `(tactic| sizeOf_list_dec) => `(tactic| ((with_reducible apply law_minus_run) <;> bv_omega))
local macro_rules | `(tactic| sizeOf_list_dec) => `(tactic| ((with_reducible apply law_times_run) <;> bv_omega))
local macro_rules | `(tactic| sizeOf_list_dec) => `(tactic| ((with_reducible apply law_less_run) <;> bv_omega))
local macro_rules | `(tactic| sizeOf_list_dec) => `(tactic| ((with_reducible apply ordered_run) <;> bv_omega))
local macro_rules | `(tactic| sizeOf_list_dec) => `(tactic| ((with_reducible apply law_names_run) <;> bv_omega))
local macro_rules | `(tactic| sizeOf_list_dec) => `(tactic| ((with_reducible apply names_of_run) <;> bv_omega))
local macro_rules | `(tactic| sizeOf_list_dec) => `(tactic| ((with_reducible apply require_world_run) <;> bv_omega))
local macro_rules | `(tactic| sizeOf_list_dec) => `(tactic| ((with_reducible apply require_time_run) <;> bv_omega))
local macro_rules | `(tactic| sizeOf_list_dec) => `(tactic| ((with_reducible apply require_name_run) <;> bv_omega))
local macro_rules | `(tactic| sizeOf_list_dec) => `(tactic| ((with_reducible apply law_speed_run) <;> bv_omega))
local macro_rules | `(tactic| array_mem_dec) => `(tactic| with_reducible exact lr_0)
local macro_rules | `(tactic| array_mem_dec) => `(tactic| with_reducible exact lr_1)
local macro_rules | `(tactic| array_mem_dec) => `(tactic| with_reducible exact lr_2)
local macro_rules | `(tactic| array_mem_dec) => `(tactic| ((with_reducible apply add_lm) <;> bv_omega))
local macro_rules | `(tactic| array_mem_dec) => `(tactic| ((with_reducible apply app_lr) <;> bv_omega))
local macro_rules | `(tactic| array_mem_dec) => `(tactic| with_reducible exact sl_1)
local macro_rules | `(tactic| array_mem_dec) => `(tactic| with_reducible exact sl_1T)
local macro_rules | `(tactic| sizeOf_list_dec) => `(tactic| ((with_reducible apply law_places_run) <;> bv_omega))
local macro_rules | `(tactic| array_mem_dec) => `(tactic| ((with_reducible apply add_l1) <;> bv_omega))
local macro_rules | `(tactic| sizeOf_list_dec) => `(tactic| ((with_reducible apply law_times_of_run) <;> bv_omega))
local macro_rules | `(tactic| array_mem_dec) => `(tactic| with_reducible exact gp_0)
local macro_rules | `(tactic| array_mem_dec) => `(tactic| with_reducible exact gp_1)
local macro_rules | `(tactic| array_mem_dec) => `(tactic| ((with_reducible apply app_gp) <;> bv_omega))
local macro_rules | `(tactic| sizeOf_list_dec) => `(tactic| ((with_reducible apply gaps_at_run) <;> bv_omega))
local macro_rules | `(tactic| sizeOf_list_dec) => `(tactic| ((with_reducible apply law_rate_run) <;> bv_omega))
local macro_rules | `(tactic| array_mem_dec) => `(tactic| with_reducible exact bi_sum)
--KLT kl_gp _ _ _
theorem later {w : Wd} (g : WG w) {p : (Rat × List Site) × (Rat × List Site)} (hp : p ∈ (HL w).zip ((HL w).drop 1)) {h : Rat} (h0 : 0 ≤ h) (h1 : h < p.2.1 - p.1.1) {r1 r2 : Rat × List Site} {s1 s2 : List Site} (a : At w p.1.1 r1 s1) (b : At w (p.1.1 + h) r2 s2) : gapsL s2 = (gapsL s1).map fun x => (x.1 + h * ((x.2 : Int) : Rat), x.2) := by
  have e1 := hist_in (gi0 g) (q := p.1.1) p hp (by grind) (by grind)
  have e2 := hist_in (gi0 g) (q := p.1.1 + h) p hp (by grind) (by grind)
  have f1 : r1 = p.1 := Option.some.inj (a.flt.symm.trans e1)
  have f2 : r2 = p.1 := Option.some.inj (b.flt.symm.trans e2)
  subst f1
  subst f2
  have e3 : s1 = p.1.2 := by rw [a.eq, if_pos rfl]
  obtain ⟨m1, m2, m3, _⟩ := b.mv
  rw [e3]
  unfold gapsL
  rw [m1, List.map_map]
  refine List.map_congr_left fun i hi => ?_
  have hi := List.mem_range.mp hi
  have i1 : i < p.1.2.length := by omega
  have i2 : i + 1 < p.1.2.length := by omega
  unfold gapQ rtI
  rw [m2 _ i1, m2 _ i2, m3 _ i1, m3 _ i2, show p.1.1 + h - p.1.1 = h by grind]
  show (_, _) = (_, _)
  congr 1
  rw [Rat.intCast_sub]
  grind

def wl : List (Nm × Int) := [(nm8 "ann" (by decide +kernel), 0), (nm8 "bo" (by decide +kernel), 5)]
theorem wl_drawn : Drawn (litW wl []) 0 := lit_drawn (by decide) (by decide) (by decide) (by decide) (by decide +kernel) (by decide +kernel) (by decide +kernel) (by decide +kernel)
theorem law_ok (ns : List Int) (hl : ns.length ≤ 63) : F_law.run [.d (.list (ns.map .int))] [] = some (.ret (.d (.bool true)), []) := by
  obtain ⟨K, hK, hcells⟩ := cells_ev (cs := [F_law_source, F_law_world, F_law_states, F_law_times_of, F_gaps_at, F_law_rate, F_law_minus, F_law_times, F_law_plus]) (ns := ns) (a := 6) (b := 30) (by decide) (by decide) (by decide)
  have hsrc0 := fun k hk M => source_run (ns := ns) (k := k) hl hk M
  refine run_dfR (env := [some _, none, none, none, none, none, none, none, none, none, none, none, none, none, none, none, none, none]) rfl ?_ rfl; dsimp only [t_law]
  generalize hS : PyData.list (ns.map .int) = S at hcells hsrc0
  refine s_for (f := natD) (xs := List.range K) (fun i env M' => ∃ e1 e2 e3 e4 e5 e6 e7 e8 e9 e10 e11 e12 e13 e14 e15 e16 e17, env = [some (.d S), e1, e2, e3, e4, e5, e6, e7, e8, e9, e10, e11, e12, e13, e14, e15, e16, e17]) (hcells _ _ rfl) ⟨_, _, _, _, _, _, _, _, _, _, _, _, _, _, _, _, _, rfl⟩ ?_ ?_
  · rintro i hi env M' ⟨e1, e2, e3, e4, e5, e6, e7, e8, e9, e10, e11, e12, e13, e14, e15, e16, e17, rfl⟩
    rw [List.length_range] at hi
    rw [List.getElem_range]
    refine ⟨_, rfl, ?_⟩
    obtain ⟨c, hsrc, hc⟩ := hsrc0 i (by omega) M'
    obtain ⟨w, c1, hw0, s1, hd⟩ := world_run (M := M' ++ [c]) (most := 8) (np := 0) get_new hc (by decide) (by decide) (by decide)
    have hw : F_law_world.run [.m M'.length, .d (.int 8), .d (.int 0)] (M' ++ [c]) = some (.ret (.d (wD w)), (M' ++ [c]).set M'.length c1) := hw0
    have ok := hd.ok
    have g := hd.g
    have hp := List.length_eq_zero_iff.mp (Nat.le_zero.mp hd.np)
    have hb : big = 1000000 := rfl
    infer_instance
    infer_instance
    generalize (M' ++ [c]).set M'.length c1 = M2
    generalize M'.length = j
    have hst := law_states_run ok g M2
    infer_instance
    refine s_for (f := fr) (xs := timesOf w) (fun i2 env M' => M' = M2 ∧ ∃ e5 e6 e7 e8 e9 e10 e11 e12 e13 e14 e15 e16 e17, env = [some (.d S), some (.d (natD i)), some (.m j), some (.d (wD w)), some (.d (.list ((lawL w (HL w)).map lrD))), e5, e6, e7, e8, e9, e10, e11, e12, e13, e14, e15, e16, e17]) ?_ ⟨rfl, ⟨_, _, _, _, _, _, _, _, _, _, _, _, _, rfl⟩⟩ ?_ ?_
    · array_get_dec
    · rintro i2 hi2 env M3 ⟨rfl, ⟨e5, e6, e7, e8, e9, e10, e11, e12, e13, e14, e15, e16, e17, rfl⟩⟩
      have htm := timesOf_ok g _ (List.getElem_mem hi2)
      generalize (timesOf w)[i2] = q at htm
      refine ⟨_, rfl, ?_⟩
      obtain ⟨r, ss, ha⟩ := htm.at ok g
      have hnop : NoP ss := fun s hs => by
        cases hpost : s.post with
        | false => rfl
        | true =>
          have := (ha.si.po s.p).mp ⟨s, hs, rfl, hpost⟩
          rw [hp] at this
          cases this
      have hlen := ha.sz.len
      have hgl : (gapsL ss).length = ss.length - 1 := by unfold gapsL; rw [List.length_map, List.length_range]
      have hgl2 : (gapsL ss).length ≤ big := by omega
      infer_instance
      infer_instance
      rw [gapsL_1]
      have hql := gapsQ_len (ss := ss)
      have hql2 : (gapsQ ss).length ≤ 1000 := by omega
      have hqs : ∀ y ∈ gapsQ ss, sm y := fun y hy => by
        obtain ⟨j, hj, rfl⟩ := List.mem_map.mp hy
        have hj := List.mem_range.mp hj
        exact ha.sz.gap j (by omega)
      have hqg : ∀ j ∈ List.range (gapsQ ss).length, (gapsQ ss)[j]? = some (gapQ ss j) := fun j hj => by
        have hj := List.mem_range.mp hj
        exact gapsQ_get (by omega)
      have hzl : ((gapsQ ss).zip ((gapsQ ss).drop 1)).length ≤ big := by rw [List.length_zip]; omega
      infer_instance
      · intro h
        exfalso
        rw [gapsL_2] at h
        by_cases h2 : 2 ≤ ss.length
        · rw [rates_sum hnop h2] at h
          simp at h
        · have : gapsL ss = [] := List.length_eq_zero_iff.mp (by omega)
          rw [this] at h
          simp at h
      · intro _
        infer_instance
        · intro h
          have hd2 : ∀ j, j + 2 < ss.length → gapQ ss j ≠ gapQ ss (j + 1) := fun j hj e => by
            have h1 : (gapQ ss j, gapQ ss (j + 1)) ∈ (gapsQ ss).zip ((gapsQ ss).drop 1) := by
              refine List.mem_of_getElem? (i := j) ?_
              rw [List.getElem?_zip_eq_some]
              refine ⟨gapsQ_get (by omega), ?_⟩
              rw [List.getElem?_drop, Nat.add_comm]
              exact gapsQ_get (by omega)
            have h2 : (gapQ ss j, gapQ ss (j + 1)) ∈ ((gapsQ ss).zip ((gapsQ ss).drop 1)).filter fun x => decide (x.1 = x.2) := List.mem_filter.mpr ⟨h1, by simpa using e⟩
            have h3 : ((gapsQ ss).zip ((gapsQ ss).drop 1)).filter (fun x => decide (x.1 = x.2)) = [] := by simpa using h
            rw [h3] at h2
            cases h2
          have hrates : (gapsL ss).map (fun x => x.2) = (List.range (gapsQ ss).length).map fun j => rateL (gapsQ ss) j (gapQ ss j) := by
            rw [gapsL_2, hql]
            refine List.map_congr_left fun j hj => ?_
            have hj := List.mem_range.mp hj
            exact (rates_ok hnop (by omega) hd2 (by omega)).symm
          have hrl : (gapsQ ss).length ≤ 1000000 := by omega
          infer_instance
          · intro h4
            exfalso
            rw [hrates] at h4
            simp at h4
          · intro _
            exact s_end (s_end ⟨rfl, ⟨_, _, _, _, _, _, _, _, _, _, _, _, _, rfl⟩⟩)
        · intro _
          exact s_end ⟨rfl, ⟨_, _, _, _, _, _, _, _, _, _, _, _, _, rfl⟩⟩
    · rintro env M3 ⟨rfl, ⟨e5, e6, e7, e8, e9, e10, e11, e12, e13, e14, e15, e16, e17, rfl⟩⟩
      have hit : ((lawL w (HL w)).zip ((lawL w (HL w)).drop 1)).map (fun p => PyData.tuple [lrD p.1, lrD p.2]) = ((HL w).zip ((HL w).drop 1)).map fun p => PyData.tuple [lrD (p.1.1, here w p.1.2, sps w p.1.2), lrD (p.2.1, here w p.2.2, sps w p.2.2)] := by
        unfold lawL
        rw [← List.map_drop, List.zip_map, List.map_map]
        rfl
      refine s_for (f := fun p => PyData.tuple [lrD (p.1.1, here w p.1.2, sps w p.1.2), lrD (p.2.1, here w p.2.2, sps w p.2.2)]) (xs := (HL w).zip ((HL w).drop 1)) (fun i2 env M' => M' = M3 ∧ ∃ e5 e6 e7 e8 e9 e10 e11 e12 e13 e14 e15 e16 e17, env = [some (.d S), some (.d (natD i)), some (.m j), some (.d (wD w)), some (.d (.list ((lawL w (HL w)).map lrD))), e5, e6, e7, e8, e9, e10, e11, e12, e13, e14, e15, e16, e17]) ?_ ⟨rfl, ⟨_, _, _, _, _, _, _, _, _, _, _, _, _, rfl⟩⟩ ?_ ?_
      · rw [← hit]
        array_get_dec
      · rintro i2 hi2 env M3 ⟨rfl, ⟨e5, e6, e7, e8, e9, e10, e11, e12, e13, e14, e15, e16, e17, rfl⟩⟩
        have hp2 := List.getElem_mem hi2
        generalize ((HL w).zip ((HL w).drop 1))[i2] = p at hp2
        refine ⟨_, rfl, ?_⟩
        obtain ⟨m1, m2, v, hv, hpe⟩ := hist_next (gi0 g) p hp2
        obtain ⟨_, _, gp, _, _⟩ := hl_gi g p.1 m1
        have hv0 := cont_pos gp hv
        have t1 := hl_tm g _ m1
        have t2 := hl_tm g _ m2
        have hpe1 : p.2.1 = p.1.1 + v := by rw [hpe]
        have d0 : p.2.1 - p.1.1 = v := by grind
        have tm1 : TmOk p.1.1 := ⟨t1.1.up 3360, t1.2.1, by grind⟩
        have tm2 : TmOk p.2.1 := ⟨t2.1.up 3360, t2.2.1, by grind⟩
        have tmd : TmOk (p.2.1 - p.1.1) := ⟨(t2.1.sub t1.1).up 3360, by grind, by grind⟩
        have tmh : TmOk ((p.2.1 - p.1.1) * (1 / 2)) := ⟨by
          have := ((t2.1.sub t1.1).half).up 1680
          rw [show (p.2.1 - p.1.1) * (1 / 2) = (p.2.1 - p.1.1) / 2 by grind]
          exact this, by grind, by grind⟩
        have tms : TmOk (p.1.1 + (p.2.1 - p.1.1) * (1 / 2)) := ⟨tm1.1.add tmh.1, by grind, by grind⟩
        have s1 := tm1.sm
        have s2 := tm2.sm
        have s3 := tmd.sm
        have s4 := half_sm
        have s5 := tmh.sm
        obtain ⟨r1, ss1, a1⟩ := tm1.at ok g
        obtain ⟨r2, ss2, a2⟩ := tms.at ok g
        have hlt := later g hp2 tmh.2.1 (by grind) a1 a2
        have hh0 := tmh.2.1
        have hh1 := tmh.2.2
        have hhg := tmh.1
        infer_instance
        generalize (p.2.1 - p.1.1) * (1 / 2) = half at *
        have hlen := a1.sz.len
        have hgl : (gapsL ss1).length ≤ big := by unfold gapsL; rw [List.length_map, List.length_range]; omega
        have q1 : ∀ x ∈ gapsL ss1, sm x.1 := fun x hx => by
          obtain ⟨k, hk, rfl⟩ := List.mem_map.mp hx
          have hk := List.mem_range.mp hk
          exact a1.sz.gap k (by omega)
        have q2 : ∀ x ∈ gapsL ss1, x.2 = 0 ∨ x.2 = 1 ∨ x.2 = 2 ∨ x.2 = -1 ∨ x.2 = -2 := fun x hx => by
          obtain ⟨k, hk, rfl⟩ := List.mem_map.mp hx
          unfold rtI
          rcases spd_cases ss1 k with e | e | e <;> rcases spd_cases ss1 (k + 1) with e2 | e2 | e2 <;> rw [e, e2] <;> simp
        have q3 : ∀ x ∈ gapsL ss1, sm ((x.2 : Int) : Rat) := fun x hx => by
          rcases q2 x hx with e | e | e | e | e <;> rw [e] <;> exact ⟨by decide +kernel, by decide +kernel⟩
        have q4 : ∀ x ∈ gapsL ss1, sm (half * ((x.2 : Int) : Rat)) := fun x hx => by
          refine sm_B (D := 82575360) (by decide) grid_lt.2 (hhg.mul _) ?_ ?_ <;> rcases q2 x hx with e | e | e | e | e <;> rw [e] <;> simp <;> grind
        infer_instance
        infer_instance
        rw [hlt]
        infer_instance
        · intro h
          simp at h
        · intro _
          exact s_end ⟨rfl, ⟨_, _, _, _, _, _, _, _, _, _, _, _, _, rfl⟩⟩
      · rintro env M3 ⟨rfl, ⟨e5, e6, e7, e8, e9, e10, e11, e12, e13, e14, e15, e16, e17, rfl⟩⟩
        exact s_end ⟨_, _, _, _, _, _, _, _, _, _, _, _, _, _, _, _, _, rfl⟩
  · rintro env M' ⟨e1, e2, e3, e4, e5, e6, e7, e8, e9, e10, e11, e12, e13, e14, e15, e16, e17, rfl⟩
    have g := wl_drawn.g
    have ok := wl_drawn.ok
    have tm : TmOk 1 := ⟨Gr.int 1, by decide +kernel, by decide +kernel⟩
    obtain ⟨r, ss, a⟩ := tm.at ok g
    have hg : gapsL ss = [(3, -2)] := by
      rw [a.ats]
      decide +kernel
    have e1 : ∀ env M, evE [F_law_source, F_law_world, F_law_states, F_law_times_of, F_gaps_at, F_law_rate, F_law_minus, F_law_times, F_law_plus] (.tup (.cons (.tup (.cons (.tup (.cons (.str "ann") (.cons (.tup (.cons (.int 0) (.cons (.int 1) .nil))) .nil))) (.cons (.tup (.cons (.str "bo") (.cons (.tup (.cons (.int 5) (.cons (.int 1) .nil))) .nil))) .nil))) (.cons (.tup .nil) .nil))) env M = some (.d (wD (litW wl [])), M) := fun env M => lit_ev _ (by kernel_rfl)
    have e2 : ∀ env M, evE [F_law_source, F_law_world, F_law_states, F_law_times_of, F_gaps_at, F_law_rate, F_law_minus, F_law_times, F_law_plus] (.lst (.cons (.tup (.cons (.tup (.cons (.int 3) (.cons (.int 1) .nil))) (.cons (.neg (.int 2)) .nil))) .nil)) env M = some (.d (.list ([(3, -2)].map gpD)), M) := fun env M => lit_ev _ (by kernel_rfl)
    have e3 : ∀ env M, evE [F_law_source, F_law_world, F_law_states, F_law_times_of, F_gaps_at, F_law_rate, F_law_minus, F_law_times, F_law_plus] (.tup (.cons (.int 1) (.cons (.int 1) .nil))) env M = some (.d (fr 1), M) := fun env M => lit_ev _ (by kernel_rfl)
    have hgr := fun M => gaps_at_run ok g a M
    rw [hg] at hgr
    refine s_retv (ev_cmp (ev_call (k := 4) (F := F_gaps_at) (ev_es2 (e1 _ _) (e3 _ _)) rfl (hgr _) rfl) (e2 _ _) eq_xl) ?_
    simp
end NW.Nk17

set_option Elab.async false
set_option linter.all false
set_option maxRecDepth 100000
set_option maxHeartbeats 0
namespace NW.Nk17
open PySem PySem.Spec PyProof.Rows L2
def top (i : Nat) : Stmt := PySem.Challenge.pw_nearwalk_k17_whole_rates_of_gaps.main.body.getD i (.Pass ⟨0, 0, 0, 0⟩)
def d_common_divisor : He.DefD := ⟨("common_divisor", none), "common_divisor", "common_divisor", defArgs (top 2), defBody (top 2), defScope (top 2), [], []⟩
def d_fraction : He.DefD := ⟨("fraction", none), "fraction", "fraction", defArgs (top 3), defBody (top 3), defScope (top 3), [], []⟩
def d_is_fraction : He.DefD := ⟨("is_fraction", none), "is_fraction", "is_fraction", defArgs (top 4), defBody (top 4), defScope (top 4), [], []⟩
def d_is_time : He.DefD := ⟨("is_time", none), "is_time", "is_time", defArgs (top 5), defBody (top 5), defScope (top 5), [], []⟩
def d_plus : He.DefD := ⟨("plus", none), "plus", "plus", defArgs (top 6), defBody (top 6), defScope (top 6), [], []⟩
def d_minus : He.DefD := ⟨("minus", none), "minus", "minus", defArgs (top 7), defBody (top 7), defScope (top 7), [], []⟩
def d_times : He.DefD := ⟨("times", none), "times", "times", defArgs (top 8), defBody (top 8), defScope (top 8), [], []⟩
def d_is_less : He.DefD := ⟨("is_less", none), "is_less", "is_less", defArgs (top 9), defBody (top 9), defScope (top 9), [], []⟩
def d_ascending : He.DefD := ⟨("ascending", none), "ascending", "ascending", defArgs (top 10), defBody (top 10), defScope (top 10), [], []⟩
def d_is_name : He.DefD := ⟨("is_name", none), "is_name", "is_name", defArgs (top 20), defBody (top 20), defScope (top 20), [], []⟩
def d_are_walkers : He.DefD := ⟨("are_walkers", none), "are_walkers", "are_walkers", defArgs (top 21), defBody (top 21), defScope (top 21), [], []⟩
def d_are_positions : He.DefD := ⟨("are_positions", none), "are_positions", "are_positions", defArgs (top 22), defBody (top 22), defScope (top 22), [], []⟩
def d_is_world : He.DefD := ⟨("is_world", none), "is_world", "is_world", defArgs (top 23), defBody (top 23), defScope (top 23), [], []⟩
def d_require_world : He.DefD := ⟨("require_world", none), "require_world", "require_world", defArgs (top 24), defBody (top 24), defScope (top 24), [], []⟩
def d_require_time : He.DefD := ⟨("require_time", none), "require_time", "require_time", defArgs (top 25), defBody (top 25), defScope (top 25), [], []⟩
def d_first_sites : He.DefD := ⟨("first_sites", none), "first_sites", "first_sites", defArgs (top 27), defBody (top 27), defScope (top 27), [], []⟩
def d_speed_of : He.DefD := ⟨("speed_of", none), "speed_of", "speed_of", defArgs (top 28), defBody (top 28), defScope (top 28), [], []⟩
def d_speeds_of : He.DefD := ⟨("speeds_of", none), "speeds_of", "speeds_of", defArgs (top 29), defBody (top 29), defScope (top 29), [], []⟩
def d_next_contact : He.DefD := ⟨("next_contact", none), "next_contact", "next_contact", defArgs (top 30), defBody (top 30), defScope (top 30), [], []⟩
def d_moved : He.DefD := ⟨("moved", none), "moved", "moved", defArgs (top 31), defBody (top 31), defScope (top 31), [], []⟩
def d_history : He.DefD := ⟨("history", none), "history", "history", defArgs (top 32), defBody (top 32), defScope (top 32), [], []⟩
def d_sites_at : He.DefD := ⟨("sites_at", none), "sites_at", "sites_at", defArgs (top 33), defBody (top 33), defScope (top 33), [], []⟩
def d_gaps_at : He.DefD := ⟨("gaps_at", none), "gaps_at", "gaps_at", defArgs (top 34), defBody (top 34), defScope (top 34), [], []⟩
def d_law_source : He.DefD := ⟨("_law_source", none), "_law_source", "_law_source", defArgs (top 36), defBody (top 36), defScope (top 36), [], []⟩
def d_law_pick : He.DefD := ⟨("_law_pick", none), "_law_pick", "_law_pick", defArgs (top 37), defBody (top 37), defScope (top 37), [], []⟩
def d_law_fraction : He.DefD := ⟨("_law_fraction", none), "_law_fraction", "_law_fraction", defArgs (top 38), defBody (top 38), defScope (top 38), [], []⟩
def d_law_plus : He.DefD := ⟨("_law_plus", none), "_law_plus", "_law_plus", defArgs (top 39), defBody (top 39), defScope (top 39), [], []⟩
def d_law_minus : He.DefD := ⟨("_law_minus", none), "_law_minus", "_law_minus", defArgs (top 40), defBody (top 40), defScope (top 40), [], []⟩
def d_law_times : He.DefD := ⟨("_law_times", none), "_law_times", "_law_times", defArgs (top 41), defBody (top 41), defScope (top 41), [], []⟩
def d_law_is_less : He.DefD := ⟨("_law_is_less", none), "_law_is_less", "_law_is_less", defArgs (top 42), defBody (top 42), defScope (top 42), [], []⟩
def d_law_ordered : He.DefD := ⟨("_law_ordered", none), "_law_ordered", "_law_ordered", defArgs (top 43), defBody (top 43), defScope (top 43), [], []⟩
def d_law_position : He.DefD := ⟨("_law_position", none), "_law_position", "_law_position", defArgs (top 44), defBody (top 44), defScope (top 44), [], []⟩
def d_law_world : He.DefD := ⟨("_law_world", none), "_law_world", "_law_world", defArgs (top 45), defBody (top 45), defScope (top 45), [], []⟩
def d_law_speed : He.DefD := ⟨("_law_speed", none), "_law_speed", "_law_speed", defArgs (top 46), defBody (top 46), defScope (top 46), [], []⟩
def d_law_states : He.DefD := ⟨("_law_states", none), "_law_states", "_law_states", defArgs (top 47), defBody (top 47), defScope (top 47), [], []⟩
def d_law_times_of : He.DefD := ⟨("_law_times_of", none), "_law_times_of", "_law_times_of", defArgs (top 48), defBody (top 48), defScope (top 48), [], []⟩
def d_law_rate : He.DefD := ⟨("_law_rate", none), "_law_rate", "_law_rate", defArgs (top 49), defBody (top 49), defScope (top 49), [], []⟩
def d_law : He.DefD := ⟨("law", none), "law", "law", defArgs (top 50), defBody (top 50), defScope (top 50), [], []⟩
def fn0 : List He.DefD := [d_common_divisor, d_fraction, d_is_fraction, d_is_time, d_plus, d_minus, d_times, d_is_less, d_ascending, d_is_name, d_are_walkers, d_are_positions, d_is_world, d_require_world, d_require_time, d_first_sites, d_speed_of, d_speeds_of, d_next_contact, d_moved, d_history, d_sites_at, d_gaps_at, d_law_source, d_law_pick]
def fn1 : List He.DefD := [d_law_fraction, d_law_plus, d_law_minus, d_law_times, d_law_is_less, d_law_ordered, d_law_position, d_law_world, d_law_speed, d_law_states, d_law_times_of, d_law_rate, d_law]
def fn : List He.DefD := fn0 ++ fn1
def fa0 : List He.Fa := [.glo "common_divisor", .glo "fraction", .glo "is_fraction", .glo "is_time", .glo "plus", .glo "minus", .glo "times", .glo "is_less", .glo "ascending", .glo "is_name", .glo "are_walkers", .glo "are_positions", .glo "is_world", .glo "require_world", .glo "require_time", .glo "first_sites", .glo "speed_of", .glo "speeds_of", .glo "next_contact", .glo "moved", .glo "history", .glo "sites_at", .glo "gaps_at", .glo "_law_source", .glo "_law_pick"]
def fa1 : List He.Fa := [.glo "_law_fraction", .glo "_law_plus", .glo "_law_minus", .glo "_law_times", .glo "_law_is_less", .glo "_law_ordered", .glo "_law_position", .glo "_law_world", .glo "_law_speed", .glo "_law_states", .glo "_law_times_of", .glo "_law_rate", .glo "law", .glo "InvalidTime", .exc "InvalidTime", .glo "InvalidWorld", .exc "InvalidWorld", .int "MAX_NAME" 8, .int "MAX_WALKERS" 8, .int "MAX_POSTS" 4, .str "LETTERS" "abcdefghijklmnopqrstuvwxyz", .free "len", .free "abs", .free "all", .free "any"]
def fa2 : List He.Fa := [.free "tuple", .free "list", .free "max", .free "min", .free "sum", .free "sorted", .free "dict", .free "range", .free "zip", .free "enumerate", .free "isinstance", .free "int", .free "bool", .free "str"]
def fa : List He.Fa := fa0 ++ fa1 ++ fa2
def nms0 : List PySem.Str := ["ZERO", "common_divisor", "fraction", "is_fraction", "is_time", "plus", "minus", "times", "is_less", "ascending", "WalkError", "InvalidWorld", "InvalidTime", "LETTERS", "MAX_NAME", "MAX_WALKERS", "MAX_POSTS", "is_name", "are_walkers", "are_positions", "is_world", "require_world", "require_time", "first_sites", "speed_of"]
def nms1 : List PySem.Str := ["speeds_of", "next_contact", "moved", "history", "sites_at", "gaps_at", "_law_source", "_law_pick", "_law_fraction", "_law_plus", "_law_minus", "_law_times", "_law_is_less", "_law_ordered", "_law_position", "_law_world", "_law_speed", "_law_states", "_law_times_of", "_law_rate"]
def nms : List PySem.Str := nms0 ++ nms1
def zs : List (PySem.Str × List Int) := [("ZERO", [0, 1])]
def kc : List (String × D) := [("MAX_NAME", (.int 8)), ("MAX_WALKERS", (.int 8)), ("MAX_POSTS", (.int 4)), ("LETTERS", (.str (Str.ofString "abcdefghijklmnopqrstuvwxyz"))), ("ZERO", (.tuple [(.int 0), (.int 1)]))]
def xc : List String := ["InvalidTime", "InvalidWorld"]
abbrev R : PySem.W.OpenRow := PySem.W.OpenLaw.row PySem.Challenge.rw_nearwalk_k17_whole_rates_of_gaps
abbrev hk : PySem.W.Hook := hookZ 4 zs fa fn
def ob (s : PySem.W.SharedT) : AlZ := obZG 4 zs fa fn (HandSHeadRun.getT s)
theorem ob_eq (s : PySem.W.SharedT) : ob s = hk.obs s.abs := obZG_eq (HandSHeadRun.getT_eq s)
theorem run (w : World) : HandSHeadRun.RunEq R (PySem.W.view R.prog [50]) hk ob 3000 nms w := by
  intro os
  kernel_rfl
section
variable {P : Program} {w : World} {K : PySem.W.Frag} {mg : Str → Option Value} {base h : Heap}
theorem g0 (X : K.In h) (G : h.Ns mainGlobals mg) (c : SaysZ zs fa fn K) : G0 K mg kc xc := by
  refine ⟨fun x hx => ?_, fun x v hx => ?_, fun x hx => ?_⟩
  · simp only [FREE, List.mem_cons, List.not_mem_nil, or_false] at hx
    rcases hx with rfl | rfl | rfl | rfl | rfl | rfl | rfl | rfl | rfl | rfl | rfl | rfl | rfl | rfl | rfl | rfl | rfl | rfl
    · exact He.free_ok X G (c.d.fact 46 (f := .free "len") rfl)
    · exact He.free_ok X G (c.d.fact 47 (f := .free "abs") rfl)
    · exact He.free_ok X G (c.d.fact 48 (f := .free "all") rfl)
    · exact He.free_ok X G (c.d.fact 49 (f := .free "any") rfl)
    · exact He.free_ok X G (c.d.fact 50 (f := .free "tuple") rfl)
    · exact He.free_ok X G (c.d.fact 51 (f := .free "list") rfl)
    · exact He.free_ok X G (c.d.fact 52 (f := .free "max") rfl)
    · exact He.free_ok X G (c.d.fact 53 (f := .free "min") rfl)
    · exact He.free_ok X G (c.d.fact 54 (f := .free "sum") rfl)
    · exact He.free_ok X G (c.d.fact 55 (f := .free "sorted") rfl)
    · exact He.free_ok X G (c.d.fact 56 (f := .free "dict") rfl)
    · exact He.free_ok X G (c.d.fact 57 (f := .free "range") rfl)
    · exact He.free_ok X G (c.d.fact 58 (f := .free "zip") rfl)
    · exact He.free_ok X G (c.d.fact 59 (f := .free "enumerate") rfl)
    · exact He.free_ok X G (c.d.fact 60 (f := .free "isinstance") rfl)
    · exact He.free_ok X G (c.d.fact 61 (f := .free "int") rfl)
    · exact He.free_ok X G (c.d.fact 62 (f := .free "bool") rfl)
    · exact He.free_ok X G (c.d.fact 63 (f := .free "str") rfl)
  · simp only [kc, List.mem_cons, List.not_mem_nil, or_false, Prod.mk.injEq] at hx
    rcases hx with ⟨rfl, rfl⟩ | ⟨rfl, rfl⟩ | ⟨rfl, rfl⟩ | ⟨rfl, rfl⟩ | ⟨rfl, rfl⟩
    · exact con_int X G (c.d.fact 42 (f := .int "MAX_NAME" 8) rfl)
    · exact con_int X G (c.d.fact 43 (f := .int "MAX_WALKERS" 8) rfl)
    · exact con_int X G (c.d.fact 44 (f := .int "MAX_POSTS" 4) rfl)
    · exact con_str X G (by decide +kernel) (c.d.fact 45 (f := .str "LETTERS" "abcdefghijklmnopqrstuvwxyz") rfl)
    · exact con_tup (is := [0, 1]) X G (c.tup (z := ("ZERO", [0, 1])) (by decide +kernel))
  · simp only [xc, List.mem_cons, List.not_mem_nil, or_false] at hx
    rcases hx with rfl | rfl
    · exact exc_fa X G (c.d.fact 38 (f := .glo "InvalidTime") rfl) (c.d.fact 39 (f := .exc "InvalidTime") rfl)
    · exact exc_fa X G (c.d.fact 40 (f := .glo "InvalidWorld") rfl) (c.d.fact 41 (f := .exc "InvalidWorld") rfl)
theorem sc_common_divisor : FnScope ["one", "other"] ["one", "other"] (defScope (top 2)) := ⟨rfl, rfl, rfl, by decide +kernel, rfl, by decide +kernel, by decide +kernel⟩
theorem ch_common_divisor : chkSs ⟨["one", "other"], [], kc, xc⟩ (defScope (top 2)) none t_common_divisor.body (defBody (top 2)) = true := by decide +kernel
theorem h_common_divisor (X : K.In h) (G : h.Ns mainGlobals mg) (c : SaysZ zs fa fn K) : HasFn P w K mg base 2 "common_divisor" F_common_divisor := by
  obtain ⟨fd, F⟩ := c.d.def_ 0 (d := d_common_divisor) rfl
  exact df_ok (lvl := 0) F (F.bindsN fun _ _ _ _ _ _ us hl => match us, hl with | [_, _], _ => rfl) sc_common_divisor rfl rfl ((g0 X G c).gb (show Fns P w K mg base 0 [] [] from trivial)) (He.glo_ok X G (c.d.fact 0 (f := .glo "common_divisor") rfl)) ch_common_divisor
theorem sc_fraction : FnScope ["top", "bottom", "common"] ["top", "bottom"] (defScope (top 3)) := ⟨rfl, rfl, rfl, by decide +kernel, rfl, by decide +kernel, by decide +kernel⟩
theorem ch_fraction : chkSs ⟨["top", "bottom", "common"], ["common_divisor"], kc, xc⟩ (defScope (top 3)) none t_fraction.body (defBody (top 3)) = true := by decide +kernel
theorem h_fraction (X : K.In h) (G : h.Ns mainGlobals mg) (c : SaysZ zs fa fn K) : HasFn P w K mg base 4 "fraction" F_fraction := by
  obtain ⟨fd, F⟩ := c.d.def_ 1 (d := d_fraction) rfl
  exact df_ok (lvl := 2) F (F.bindsN fun _ _ _ _ _ _ us hl => match us, hl with | [_, _], _ => rfl) sc_fraction rfl rfl ((g0 X G c).gb (show Fns P w K mg base 2 ["common_divisor"] [F_common_divisor] from ⟨(h_common_divisor X G c).mono (by decide), trivial⟩)) (He.glo_ok X G (c.d.fact 1 (f := .glo "fraction") rfl)) ch_fraction
theorem sc_is_fraction : FnScope ["value", "one"] ["value"] (defScope (top 4)) := ⟨rfl, rfl, rfl, by decide +kernel, rfl, by decide +kernel, by decide +kernel⟩
theorem ch_is_fraction : chkSs ⟨["value", "one"], ["common_divisor"], kc, xc⟩ (defScope (top 4)) none t_is_fraction.body (defBody (top 4)) = true := by decide +kernel
theorem h_is_fraction (X : K.In h) (G : h.Ns mainGlobals mg) (c : SaysZ zs fa fn K) : HasFn P w K mg base 4 "is_fraction" F_is_fraction := by
  obtain ⟨fd, F⟩ := c.d.def_ 2 (d := d_is_fraction) rfl
  exact df_ok (lvl := 2) F (F.bindsN fun _ _ _ _ _ _ us hl => match us, hl with | [_], _ => rfl) sc_is_fraction rfl rfl ((g0 X G c).gb (show Fns P w K mg base 2 ["common_divisor"] [F_common_divisor] from ⟨(h_common_divisor X G c).mono (by decide), trivial⟩)) (He.glo_ok X G (c.d.fact 2 (f := .glo "is_fraction") rfl)) ch_is_fraction
theorem sc_is_time : FnScope ["value"] ["value"] (defScope (top 5)) := ⟨rfl, rfl, rfl, by decide +kernel, rfl, by decide +kernel, by decide +kernel⟩
theorem ch_is_time : chkSs ⟨["value"], ["is_fraction"], kc, xc⟩ (defScope (top 5)) none t_is_time.body (defBody (top 5)) = true := by decide +kernel
theorem h_is_time (X : K.In h) (G : h.Ns mainGlobals mg) (c : SaysZ zs fa fn K) : HasFn P w K mg base 6 "is_time" F_is_time := by
  obtain ⟨fd, F⟩ := c.d.def_ 3 (d := d_is_time) rfl
  exact df_ok (lvl := 4) F (F.bindsN fun _ _ _ _ _ _ us hl => match us, hl with | [_], _ => rfl) sc_is_time rfl rfl ((g0 X G c).gb (show Fns P w K mg base 4 ["is_fraction"] [F_is_fraction] from ⟨(h_is_fraction X G c).mono (by decide), trivial⟩)) (He.glo_ok X G (c.d.fact 3 (f := .glo "is_time") rfl)) ch_is_time
theorem sc_plus : FnScope ["one", "other"] ["one", "other"] (defScope (top 6)) := ⟨rfl, rfl, rfl, by decide +kernel, rfl, by decide +kernel, by decide +kernel⟩
theorem ch_plus : chkSs ⟨["one", "other"], ["fraction"], kc, xc⟩ (defScope (top 6)) none t_plus.body (defBody (top 6)) = true := by decide +kernel
theorem h_plus (X : K.In h) (G : h.Ns mainGlobals mg) (c : SaysZ zs fa fn K) : HasFn P w K mg base 6 "plus" F_plus := by
  obtain ⟨fd, F⟩ := c.d.def_ 4 (d := d_plus) rfl
  exact df_ok (lvl := 4) F (F.bindsN fun _ _ _ _ _ _ us hl => match us, hl with | [_, _], _ => rfl) sc_plus rfl rfl ((g0 X G c).gb (show Fns P w K mg base 4 ["fraction"] [F_fraction] from ⟨(h_fraction X G c).mono (by decide), trivial⟩)) (He.glo_ok X G (c.d.fact 4 (f := .glo "plus") rfl)) ch_plus
theorem sc_minus : FnScope ["one", "other"] ["one", "other"] (defScope (top 7)) := ⟨rfl, rfl, rfl, by decide +kernel, rfl, by decide +kernel, by decide +kernel⟩
theorem ch_minus : chkSs ⟨["one", "other"], ["fraction"], kc, xc⟩ (defScope (top 7)) none t_minus.body (defBody (top 7)) = true := by decide +kernel
theorem h_minus (X : K.In h) (G : h.Ns mainGlobals mg) (c : SaysZ zs fa fn K) : HasFn P w K mg base 6 "minus" F_minus := by
  obtain ⟨fd, F⟩ := c.d.def_ 5 (d := d_minus) rfl
  exact df_ok (lvl := 4) F (F.bindsN fun _ _ _ _ _ _ us hl => match us, hl with | [_, _], _ => rfl) sc_minus rfl rfl ((g0 X G c).gb (show Fns P w K mg base 4 ["fraction"] [F_fraction] from ⟨(h_fraction X G c).mono (by decide), trivial⟩)) (He.glo_ok X G (c.d.fact 5 (f := .glo "minus") rfl)) ch_minus
theorem sc_times : FnScope ["one", "factor"] ["one", "factor"] (defScope (top 8)) := ⟨rfl, rfl, rfl, by decide +kernel, rfl, by decide +kernel, by decide +kernel⟩
theorem ch_times : chkSs ⟨["one", "factor"], ["fraction"], kc, xc⟩ (defScope (top 8)) none t_times.body (defBody (top 8)) = true := by decide +kernel
theorem h_times (X : K.In h) (G : h.Ns mainGlobals mg) (c : SaysZ zs fa fn K) : HasFn P w K mg base 6 "times" F_times := by
  obtain ⟨fd, F⟩ := c.d.def_ 6 (d := d_times) rfl
  exact df_ok (lvl := 4) F (F.bindsN fun _ _ _ _ _ _ us hl => match us, hl with | [_, _], _ => rfl) sc_times rfl rfl ((g0 X G c).gb (show Fns P w K mg base 4 ["fraction"] [F_fraction] from ⟨(h_fraction X G c).mono (by decide), trivial⟩)) (He.glo_ok X G (c.d.fact 6 (f := .glo "times") rfl)) ch_times
theorem sc_is_less : FnScope ["one", "other"] ["one", "other"] (defScope (top 9)) := ⟨rfl, rfl, rfl, by decide +kernel, rfl, by decide +kernel, by decide +kernel⟩
theorem ch_is_less : chkSs ⟨["one", "other"], [], kc, xc⟩ (defScope (top 9)) none t_is_less.body (defBody (top 9)) = true := by decide +kernel
theorem h_is_less (X : K.In h) (G : h.Ns mainGlobals mg) (c : SaysZ zs fa fn K) : HasFn P w K mg base 2 "is_less" F_is_less := by
  obtain ⟨fd, F⟩ := c.d.def_ 7 (d := d_is_less) rfl
  exact df_ok (lvl := 0) F (F.bindsN fun _ _ _ _ _ _ us hl => match us, hl with | [_, _], _ => rfl) sc_is_less rfl rfl ((g0 X G c).gb (show Fns P w K mg base 0 [] [] from trivial)) (He.glo_ok X G (c.d.fact 7 (f := .glo "is_less") rfl)) ch_is_less
theorem sc_ascending : FnScope ["some", "found", "one", "at", "other"] ["some"] (defScope (top 10)) := ⟨rfl, rfl, rfl, by decide +kernel, rfl, by decide +kernel, by decide +kernel⟩
theorem ch_ascending : chkSs ⟨["some", "found", "one", "at", "other"], ["is_less"], kc, xc⟩ (defScope (top 10)) none t_ascending.body (defBody (top 10)) = true := by decide +kernel
theorem h_ascending (X : K.In h) (G : h.Ns mainGlobals mg) (c : SaysZ zs fa fn K) : HasFn P w K mg base 4 "ascending" F_ascending := by
  obtain ⟨fd, F⟩ := c.d.def_ 8 (d := d_ascending) rfl
  exact df_ok (lvl := 2) F (F.bindsN fun _ _ _ _ _ _ us hl => match us, hl with | [_], _ => rfl) sc_ascending rfl rfl ((g0 X G c).gb (show Fns P w K mg base 2 ["is_less"] [F_is_less] from ⟨(h_is_less X G c).mono (by decide), trivial⟩)) (He.glo_ok X G (c.d.fact 8 (f := .glo "ascending") rfl)) ch_ascending
theorem sc_is_name : FnScope ["value", "sign"] ["value"] (defScope (top 20)) := ⟨rfl, rfl, rfl, by decide +kernel, rfl, by decide +kernel, by decide +kernel⟩
theorem ch_is_name : chkSs ⟨["value", "sign"], [], kc, xc⟩ (defScope (top 20)) none t_is_name.body (defBody (top 20)) = true := by decide +kernel
theorem h_is_name (X : K.In h) (G : h.Ns mainGlobals mg) (c : SaysZ zs fa fn K) : HasFn P w K mg base 2 "is_name" F_is_name := by
  obtain ⟨fd, F⟩ := c.d.def_ 9 (d := d_is_name) rfl
  exact df_ok (lvl := 0) F (F.bindsN fun _ _ _ _ _ _ us hl => match us, hl with | [_], _ => rfl) sc_is_name rfl rfl ((g0 X G c).gb (show Fns P w K mg base 0 [] [] from trivial)) (He.glo_ok X G (c.d.fact 9 (f := .glo "is_name") rfl)) ch_is_name
theorem sc_are_walkers : FnScope ["value", "row", "one", "other"] ["value"] (defScope (top 21)) := ⟨rfl, rfl, rfl, by decide +kernel, rfl, by decide +kernel, by decide +kernel⟩
theorem ch_are_walkers : chkSs ⟨["value", "row", "one", "other"], ["is_name", "is_fraction"], kc, xc⟩ (defScope (top 21)) none t_are_walkers.body (defBody (top 21)) = true := by decide +kernel
theorem h_are_walkers (X : K.In h) (G : h.Ns mainGlobals mg) (c : SaysZ zs fa fn K) : HasFn P w K mg base 6 "are_walkers" F_are_walkers := by
  obtain ⟨fd, F⟩ := c.d.def_ 10 (d := d_are_walkers) rfl
  exact df_ok (lvl := 4) F (F.bindsN fun _ _ _ _ _ _ us hl => match us, hl with | [_], _ => rfl) sc_are_walkers rfl rfl ((g0 X G c).gb (show Fns P w K mg base 4 ["is_name", "is_fraction"] [F_is_name, F_is_fraction] from ⟨(h_is_name X G c).mono (by decide), (h_is_fraction X G c).mono (by decide), trivial⟩)) (He.glo_ok X G (c.d.fact 10 (f := .glo "are_walkers") rfl)) ch_are_walkers
theorem sc_are_positions : FnScope ["value", "most", "one", "other"] ["value", "most"] (defScope (top 22)) := ⟨rfl, rfl, rfl, by decide +kernel, rfl, by decide +kernel, by decide +kernel⟩
theorem ch_are_positions : chkSs ⟨["value", "most", "one", "other"], ["is_fraction", "is_less"], kc, xc⟩ (defScope (top 22)) none t_are_positions.body (defBody (top 22)) = true := by decide +kernel
theorem h_are_positions (X : K.In h) (G : h.Ns mainGlobals mg) (c : SaysZ zs fa fn K) : HasFn P w K mg base 6 "are_positions" F_are_positions := by
  obtain ⟨fd, F⟩ := c.d.def_ 11 (d := d_are_positions) rfl
  exact df_ok (lvl := 4) F (F.bindsN fun _ _ _ _ _ _ us hl => match us, hl with | [_, _], _ => rfl) sc_are_positions rfl rfl ((g0 X G c).gb (show Fns P w K mg base 4 ["is_fraction", "is_less"] [F_is_fraction, F_is_less] from ⟨(h_is_fraction X G c).mono (by decide), (h_is_less X G c).mono (by decide), trivial⟩)) (He.glo_ok X G (c.d.fact 11 (f := .glo "are_positions") rfl)) ch_are_positions
theorem sc_is_world : FnScope ["value"] ["value"] (defScope (top 23)) := ⟨rfl, rfl, rfl, by decide +kernel, rfl, by decide +kernel, by decide +kernel⟩
theorem ch_is_world : chkSs ⟨["value"], ["are_walkers", "are_positions"], kc, xc⟩ (defScope (top 23)) none t_is_world.body (defBody (top 23)) = true := by decide +kernel
theorem h_is_world (X : K.In h) (G : h.Ns mainGlobals mg) (c : SaysZ zs fa fn K) : HasFn P w K mg base 8 "is_world" F_is_world := by
  obtain ⟨fd, F⟩ := c.d.def_ 12 (d := d_is_world) rfl
  exact df_ok (lvl := 6) F (F.bindsN fun _ _ _ _ _ _ us hl => match us, hl with | [_], _ => rfl) sc_is_world rfl rfl ((g0 X G c).gb (show Fns P w K mg base 6 ["are_walkers", "are_positions"] [F_are_walkers, F_are_positions] from ⟨(h_are_walkers X G c).mono (by decide), (h_are_positions X G c).mono (by decide), trivial⟩)) (He.glo_ok X G (c.d.fact 12 (f := .glo "is_world") rfl)) ch_is_world
theorem sc_require_world : FnScope ["world"] ["world"] (defScope (top 24)) := ⟨rfl, rfl, rfl, by decide +kernel, rfl, by decide +kernel, by decide +kernel⟩
theorem ch_require_world : chkSs ⟨["world"], ["is_world"], kc, xc⟩ (defScope (top 24)) none t_require_world.body (defBody (top 24)) = true := by decide +kernel
theorem h_require_world (X : K.In h) (G : h.Ns mainGlobals mg) (c : SaysZ zs fa fn K) : HasFn P w K mg base 10 "require_world" F_require_world := by
  obtain ⟨fd, F⟩ := c.d.def_ 13 (d := d_require_world) rfl
  exact df_ok (lvl := 8) F (F.bindsN fun _ _ _ _ _ _ us hl => match us, hl with | [_], _ => rfl) sc_require_world rfl rfl ((g0 X G c).gb (show Fns P w K mg base 8 ["is_world"] [F_is_world] from ⟨(h_is_world X G c).mono (by decide), trivial⟩)) (He.glo_ok X G (c.d.fact 13 (f := .glo "require_world") rfl)) ch_require_world
theorem sc_require_time : FnScope ["time"] ["time"] (defScope (top 25)) := ⟨rfl, rfl, rfl, by decide +kernel, rfl, by decide +kernel, by decide +kernel⟩
theorem ch_require_time : chkSs ⟨["time"], ["is_time"], kc, xc⟩ (defScope (top 25)) none t_require_time.body (defBody (top 25)) = true := by decide +kernel
theorem h_require_time (X : K.In h) (G : h.Ns mainGlobals mg) (c : SaysZ zs fa fn K) : HasFn P w K mg base 8 "require_time" F_require_time := by
  obtain ⟨fd, F⟩ := c.d.def_ 14 (d := d_require_time) rfl
  exact df_ok (lvl := 6) F (F.bindsN fun _ _ _ _ _ _ us hl => match us, hl with | [_], _ => rfl) sc_require_time rfl rfl ((g0 X G c).gb (show Fns P w K mg base 6 ["is_time"] [F_is_time] from ⟨(h_is_time X G c).mono (by decide), trivial⟩)) (He.glo_ok X G (c.d.fact 14 (f := .glo "require_time") rfl)) ch_require_time
theorem sc_first_sites : FnScope ["world", "walkers", "posts", "rows", "position", "row", "names", "name", "place"] ["world"] (defScope (top 27)) := ⟨rfl, rfl, rfl, by decide +kernel, rfl, by decide +kernel, by decide +kernel⟩
theorem ch_first_sites : chkSs ⟨["world", "walkers", "posts", "rows", "position", "row", "names", "name", "place"], ["ascending"], kc, xc⟩ (defScope (top 27)) none t_first_sites.body (defBody (top 27)) = true := by decide +kernel
theorem h_first_sites (X : K.In h) (G : h.Ns mainGlobals mg) (c : SaysZ zs fa fn K) : HasFn P w K mg base 6 "first_sites" F_first_sites := by
  obtain ⟨fd, F⟩ := c.d.def_ 15 (d := d_first_sites) rfl
  exact df_ok (lvl := 4) F (F.bindsN fun _ _ _ _ _ _ us hl => match us, hl with | [_], _ => rfl) sc_first_sites rfl rfl ((g0 X G c).gb (show Fns P w K mg base 4 ["ascending"] [F_ascending] from ⟨(h_ascending X G c).mono (by decide), trivial⟩)) (He.glo_ok X G (c.d.fact 15 (f := .glo "first_sites") rfl)) ch_first_sites
theorem sc_speed_of : FnScope ["sites", "at", "position", "names", "is_post", "to_left", "to_right"] ["sites", "at"] (defScope (top 28)) := ⟨rfl, rfl, rfl, by decide +kernel, rfl, by decide +kernel, by decide +kernel⟩
theorem ch_speed_of : chkSs ⟨["sites", "at", "position", "names", "is_post", "to_left", "to_right"], ["minus", "is_less"], kc, xc⟩ (defScope (top 28)) none t_speed_of.body (defBody (top 28)) = true := by decide +kernel
theorem h_speed_of (X : K.In h) (G : h.Ns mainGlobals mg) (c : SaysZ zs fa fn K) : HasFn P w K mg base 8 "speed_of" F_speed_of := by
  obtain ⟨fd, F⟩ := c.d.def_ 16 (d := d_speed_of) rfl
  exact df_ok (lvl := 6) F (F.bindsN fun _ _ _ _ _ _ us hl => match us, hl with | [_, _], _ => rfl) sc_speed_of rfl rfl ((g0 X G c).gb (show Fns P w K mg base 6 ["minus", "is_less"] [F_minus, F_is_less] from ⟨(h_minus X G c).mono (by decide), (h_is_less X G c).mono (by decide), trivial⟩)) (He.glo_ok X G (c.d.fact 16 (f := .glo "speed_of") rfl)) ch_speed_of
theorem sc_speeds_of : FnScope ["sites", "at"] ["sites"] (defScope (top 29)) := ⟨rfl, rfl, rfl, by decide +kernel, rfl, by decide +kernel, by decide +kernel⟩
theorem ch_speeds_of : chkSs ⟨["sites", "at"], ["speed_of"], kc, xc⟩ (defScope (top 29)) none t_speeds_of.body (defBody (top 29)) = true := by decide +kernel
theorem h_speeds_of (X : K.In h) (G : h.Ns mainGlobals mg) (c : SaysZ zs fa fn K) : HasFn P w K mg base 10 "speeds_of" F_speeds_of := by
  obtain ⟨fd, F⟩ := c.d.def_ 17 (d := d_speeds_of) rfl
  exact df_ok (lvl := 8) F (F.bindsN fun _ _ _ _ _ _ us hl => match us, hl with | [_], _ => rfl) sc_speeds_of rfl rfl ((g0 X G c).gb (show Fns P w K mg base 8 ["speed_of"] [F_speed_of] from ⟨(h_speed_of X G c).mono (by decide), trivial⟩)) (He.glo_ok X G (c.d.fact 17 (f := .glo "speeds_of") rfl)) ch_speeds_of
theorem sc_next_contact : FnScope ["sites", "speeds", "best", "at", "closing", "gap", "wait"] ["sites"] (defScope (top 30)) := ⟨rfl, rfl, rfl, by decide +kernel, rfl, by decide +kernel, by decide +kernel⟩
theorem ch_next_contact : chkSs ⟨["sites", "speeds", "best", "at", "closing", "gap", "wait"], ["speeds_of", "minus", "fraction", "is_less"], kc, xc⟩ (defScope (top 30)) none t_next_contact.body (defBody (top 30)) = true := by decide +kernel
theorem h_next_contact (X : K.In h) (G : h.Ns mainGlobals mg) (c : SaysZ zs fa fn K) : HasFn P w K mg base 12 "next_contact" F_next_contact := by
  obtain ⟨fd, F⟩ := c.d.def_ 18 (d := d_next_contact) rfl
  exact df_ok (lvl := 10) F (F.bindsN fun _ _ _ _ _ _ us hl => match us, hl with | [_], _ => rfl) sc_next_contact rfl rfl ((g0 X G c).gb (show Fns P w K mg base 10 ["speeds_of", "minus", "fraction", "is_less"] [F_speeds_of, F_minus, F_fraction, F_is_less] from ⟨(h_speeds_of X G c).mono (by decide), (h_minus X G c).mono (by decide), (h_fraction X G c).mono (by decide), (h_is_less X G c).mono (by decide), trivial⟩)) (He.glo_ok X G (c.d.fact 18 (f := .glo "next_contact") rfl)) ch_next_contact
theorem sc_moved : FnScope ["sites", "wait", "rows", "position", "names", "is_post", "speed", "place"] ["sites", "wait"] (defScope (top 31)) := ⟨rfl, rfl, rfl, by decide +kernel, rfl, by decide +kernel, by decide +kernel⟩
theorem ch_moved : chkSs ⟨["sites", "wait", "rows", "position", "names", "is_post", "speed", "place"], ["speeds_of", "times", "plus"], kc, xc⟩ (defScope (top 31)) none t_moved.body (defBody (top 31)) = true := by decide +kernel
theorem h_moved (X : K.In h) (G : h.Ns mainGlobals mg) (c : SaysZ zs fa fn K) : HasFn P w K mg base 12 "moved" F_moved := by
  obtain ⟨fd, F⟩ := c.d.def_ 19 (d := d_moved) rfl
  exact df_ok (lvl := 10) F (F.bindsN fun _ _ _ _ _ _ us hl => match us, hl with | [_, _], _ => rfl) sc_moved rfl rfl ((g0 X G c).gb (show Fns P w K mg base 10 ["speeds_of", "times", "plus"] [F_speeds_of, F_times, F_plus] from ⟨(h_speeds_of X G c).mono (by decide), (h_times X G c).mono (by decide), (h_plus X G c).mono (by decide), trivial⟩)) (He.glo_ok X G (c.d.fact 19 (f := .glo "moved") rfl)) ch_moved
theorem sc_history : FnScope ["world", "found", "time", "sites", "wait"] ["world"] (defScope (top 32)) := ⟨rfl, rfl, rfl, by decide +kernel, rfl, by decide +kernel, by decide +kernel⟩
theorem ch_history : chkSs ⟨["world", "found", "time", "sites", "wait"], ["first_sites", "next_contact", "plus", "moved"], kc, xc⟩ (defScope (top 32)) none t_history.body (defBody (top 32)) = true := by decide +kernel
theorem h_history (X : K.In h) (G : h.Ns mainGlobals mg) (c : SaysZ zs fa fn K) : HasFn P w K mg base 14 "history" F_history := by
  obtain ⟨fd, F⟩ := c.d.def_ 20 (d := d_history) rfl
  exact df_ok (lvl := 12) F (F.bindsN fun _ _ _ _ _ _ us hl => match us, hl with | [_], _ => rfl) sc_history rfl rfl ((g0 X G c).gb (show Fns P w K mg base 12 ["first_sites", "next_contact", "plus", "moved"] [F_first_sites, F_next_contact, F_plus, F_moved] from ⟨(h_first_sites X G c).mono (by decide), (h_next_contact X G c).mono (by decide), (h_plus X G c).mono (by decide), (h_moved X G c).mono (by decide), trivial⟩)) (He.glo_ok X G (c.d.fact 20 (f := .glo "history") rfl)) ch_history
theorem sc_sites_at : FnScope ["states", "time", "row", "state"] ["states", "time"] (defScope (top 33)) := ⟨rfl, rfl, rfl, by decide +kernel, rfl, by decide +kernel, by decide +kernel⟩
theorem ch_sites_at : chkSs ⟨["states", "time", "row", "state"], ["is_less", "minus", "moved"], kc, xc⟩ (defScope (top 33)) none t_sites_at.body (defBody (top 33)) = true := by decide +kernel
theorem h_sites_at (X : K.In h) (G : h.Ns mainGlobals mg) (c : SaysZ zs fa fn K) : HasFn P w K mg base 14 "sites_at" F_sites_at := by
  obtain ⟨fd, F⟩ := c.d.def_ 21 (d := d_sites_at) rfl
  exact df_ok (lvl := 12) F (F.bindsN fun _ _ _ _ _ _ us hl => match us, hl with | [_, _], _ => rfl) sc_sites_at rfl rfl ((g0 X G c).gb (show Fns P w K mg base 12 ["is_less", "minus", "moved"] [F_is_less, F_minus, F_moved] from ⟨(h_is_less X G c).mono (by decide), (h_minus X G c).mono (by decide), (h_moved X G c).mono (by decide), trivial⟩)) (He.glo_ok X G (c.d.fact 21 (f := .glo "sites_at") rfl)) ch_sites_at
theorem sc_gaps_at : FnScope ["world", "time", "sites", "speeds", "found", "at"] ["world", "time"] (defScope (top 34)) := ⟨rfl, rfl, rfl, by decide +kernel, rfl, by decide +kernel, by decide +kernel⟩
theorem ch_gaps_at : chkSs ⟨["world", "time", "sites", "speeds", "found", "at"], ["require_world", "require_time", "history", "sites_at", "speeds_of", "minus"], kc, xc⟩ (defScope (top 34)) none t_gaps_at.body (defBody (top 34)) = true := by decide +kernel
theorem h_gaps_at (X : K.In h) (G : h.Ns mainGlobals mg) (c : SaysZ zs fa fn K) : HasFn P w K mg base 16 "gaps_at" F_gaps_at := by
  obtain ⟨fd, F⟩ := c.d.def_ 22 (d := d_gaps_at) rfl
  exact df_ok (lvl := 14) F (F.bindsN fun _ _ _ _ _ _ us hl => match us, hl with | [_, _], _ => rfl) sc_gaps_at rfl rfl ((g0 X G c).gb (show Fns P w K mg base 14 ["require_world", "require_time", "history", "sites_at", "speeds_of", "minus"] [F_require_world, F_require_time, F_history, F_sites_at, F_speeds_of, F_minus] from ⟨(h_require_world X G c).mono (by decide), (h_require_time X G c).mono (by decide), (h_history X G c).mono (by decide), (h_sites_at X G c).mono (by decide), (h_speeds_of X G c).mono (by decide), (h_minus X G c).mono (by decide), trivial⟩)) (He.glo_ok X G (c.d.fact 22 (f := .glo "gaps_at") rfl)) ch_gaps_at
theorem sc_law_source : FnScope ["script", "k", "cell", "primes", "seed"] ["script", "k"] (defScope (top 36)) := ⟨rfl, rfl, rfl, by decide +kernel, rfl, by decide +kernel, by decide +kernel⟩
theorem ch_law_source : chkSs ⟨["script", "k", "cell", "primes", "seed"], [], kc, xc⟩ (defScope (top 36)) none t_law_source.body (defBody (top 36)) = true := by decide +kernel
theorem h_law_source (X : K.In h) (G : h.Ns mainGlobals mg) (c : SaysZ zs fa fn K) : HasFn P w K mg base 2 "_law_source" F_law_source := by
  obtain ⟨fd, F⟩ := c.d.def_ 23 (d := d_law_source) rfl
  exact df_ok (lvl := 0) F (F.bindsN fun _ _ _ _ _ _ us hl => match us, hl with | [_, _], _ => rfl) sc_law_source rfl rfl ((g0 X G c).gb (show Fns P w K mg base 0 [] [] from trivial)) (He.glo_ok X G (c.d.fact 23 (f := .glo "_law_source") rfl)) ch_law_source
theorem sc_law_pick : FnScope ["source", "size", "drawn"] ["source", "size"] (defScope (top 37)) := ⟨rfl, rfl, rfl, by decide +kernel, rfl, by decide +kernel, by decide +kernel⟩
theorem ch_law_pick : chkSs ⟨["source", "size", "drawn"], [], kc, xc⟩ (defScope (top 37)) none t_law_pick.body (defBody (top 37)) = true := by decide +kernel
theorem h_law_pick (X : K.In h) (G : h.Ns mainGlobals mg) (c : SaysZ zs fa fn K) : HasFn P w K mg base 2 "_law_pick" F_law_pick := by
  obtain ⟨fd, F⟩ := c.d.def_ 24 (d := d_law_pick) rfl
  exact df_ok (lvl := 0) F (F.bindsN fun _ _ _ _ _ _ us hl => match us, hl with | [_, _], _ => rfl) sc_law_pick rfl rfl ((g0 X G c).gb (show Fns P w K mg base 0 [] [] from trivial)) (He.glo_ok X G (c.d.fact 24 (f := .glo "_law_pick") rfl)) ch_law_pick
theorem sc_law_fraction : FnScope ["top", "bottom", "one", "other"] ["top", "bottom"] (defScope (top 38)) := ⟨rfl, rfl, rfl, by decide +kernel, rfl, by decide +kernel, by decide +kernel⟩
theorem ch_law_fraction : chkSs ⟨["top", "bottom", "one", "other"], [], kc, xc⟩ (defScope (top 38)) none t_law_fraction.body (defBody (top 38)) = true := by decide +kernel
theorem h_law_fraction (X : K.In h) (G : h.Ns mainGlobals mg) (c : SaysZ zs fa fn K) : HasFn P w K mg base 2 "_law_fraction" F_law_fraction := by
  obtain ⟨fd, F⟩ := c.d.def_ 25 (d := d_law_fraction) rfl
  exact df_ok (lvl := 0) F (F.bindsN fun _ _ _ _ _ _ us hl => match us, hl with | [_, _], _ => rfl) sc_law_fraction rfl rfl ((g0 X G c).gb (show Fns P w K mg base 0 [] [] from trivial)) (He.glo_ok X G (c.d.fact 25 (f := .glo "_law_fraction") rfl)) ch_law_fraction
theorem sc_law_plus : FnScope ["one", "other"] ["one", "other"] (defScope (top 39)) := ⟨rfl, rfl, rfl, by decide +kernel, rfl, by decide +kernel, by decide +kernel⟩
theorem ch_law_plus : chkSs ⟨["one", "other"], ["_law_fraction"], kc, xc⟩ (defScope (top 39)) none t_law_plus.body (defBody (top 39)) = true := by decide +kernel
theorem h_law_plus (X : K.In h) (G : h.Ns mainGlobals mg) (c : SaysZ zs fa fn K) : HasFn P w K mg base 4 "_law_plus" F_law_plus := by
  obtain ⟨fd, F⟩ := c.d.def_ 26 (d := d_law_plus) rfl
  exact df_ok (lvl := 2) F (F.bindsN fun _ _ _ _ _ _ us hl => match us, hl with | [_, _], _ => rfl) sc_law_plus rfl rfl ((g0 X G c).gb (show Fns P w K mg base 2 ["_law_fraction"] [F_law_fraction] from ⟨(h_law_fraction X G c).mono (by decide), trivial⟩)) (He.glo_ok X G (c.d.fact 26 (f := .glo "_law_plus") rfl)) ch_law_plus
theorem sc_law_minus : FnScope ["one", "other"] ["one", "other"] (defScope (top 40)) := ⟨rfl, rfl, rfl, by decide +kernel, rfl, by decide +kernel, by decide +kernel⟩
theorem ch_law_minus : chkSs ⟨["one", "other"], ["_law_fraction"], kc, xc⟩ (defScope (top 40)) none t_law_minus.body (defBody (top 40)) = true := by decide +kernel
theorem h_law_minus (X : K.In h) (G : h.Ns mainGlobals mg) (c : SaysZ zs fa fn K) : HasFn P w K mg base 4 "_law_minus" F_law_minus := by
  obtain ⟨fd, F⟩ := c.d.def_ 27 (d := d_law_minus) rfl
  exact df_ok (lvl := 2) F (F.bindsN fun _ _ _ _ _ _ us hl => match us, hl with | [_, _], _ => rfl) sc_law_minus rfl rfl ((g0 X G c).gb (show Fns P w K mg base 2 ["_law_fraction"] [F_law_fraction] from ⟨(h_law_fraction X G c).mono (by decide), trivial⟩)) (He.glo_ok X G (c.d.fact 27 (f := .glo "_law_minus") rfl)) ch_law_minus
theorem sc_law_times : FnScope ["one", "other"] ["one", "other"] (defScope (top 41)) := ⟨rfl, rfl, rfl, by decide +kernel, rfl, by decide +kernel, by decide +kernel⟩
theorem ch_law_times : chkSs ⟨["one", "other"], ["_law_fraction"], kc, xc⟩ (defScope (top 41)) none t_law_times.body (defBody (top 41)) = true := by decide +kernel
theorem h_law_times (X : K.In h) (G : h.Ns mainGlobals mg) (c : SaysZ zs fa fn K) : HasFn P w K mg base 4 "_law_times" F_law_times := by
  obtain ⟨fd, F⟩ := c.d.def_ 28 (d := d_law_times) rfl
  exact df_ok (lvl := 2) F (F.bindsN fun _ _ _ _ _ _ us hl => match us, hl with | [_, _], _ => rfl) sc_law_times rfl rfl ((g0 X G c).gb (show Fns P w K mg base 2 ["_law_fraction"] [F_law_fraction] from ⟨(h_law_fraction X G c).mono (by decide), trivial⟩)) (He.glo_ok X G (c.d.fact 28 (f := .glo "_law_times") rfl)) ch_law_times
theorem sc_law_is_less : FnScope ["one", "other"] ["one", "other"] (defScope (top 42)) := ⟨rfl, rfl, rfl, by decide +kernel, rfl, by decide +kernel, by decide +kernel⟩
theorem ch_law_is_less : chkSs ⟨["one", "other"], [], kc, xc⟩ (defScope (top 42)) none t_law_is_less.body (defBody (top 42)) = true := by decide +kernel
theorem h_law_is_less (X : K.In h) (G : h.Ns mainGlobals mg) (c : SaysZ zs fa fn K) : HasFn P w K mg base 2 "_law_is_less" F_law_is_less := by
  obtain ⟨fd, F⟩ := c.d.def_ 29 (d := d_law_is_less) rfl
  exact df_ok (lvl := 0) F (F.bindsN fun _ _ _ _ _ _ us hl => match us, hl with | [_, _], _ => rfl) sc_law_is_less rfl rfl ((g0 X G c).gb (show Fns P w K mg base 0 [] [] from trivial)) (He.glo_ok X G (c.d.fact 29 (f := .glo "_law_is_less") rfl)) ch_law_is_less
theorem sc_law_ordered : FnScope ["some", "found", "one", "other"] ["some"] (defScope (top 43)) := ⟨rfl, rfl, rfl, by decide +kernel, rfl, by decide +kernel, by decide +kernel⟩
theorem ch_law_ordered : chkSs ⟨["some", "found", "one", "other"], ["_law_is_less"], kc, xc⟩ (defScope (top 43)) none t_law_ordered.body (defBody (top 43)) = true := by decide +kernel
theorem h_law_ordered (X : K.In h) (G : h.Ns mainGlobals mg) (c : SaysZ zs fa fn K) : HasFn P w K mg base 4 "_law_ordered" F_law_ordered := by
  obtain ⟨fd, F⟩ := c.d.def_ 30 (d := d_law_ordered) rfl
  exact df_ok (lvl := 2) F (F.bindsN fun _ _ _ _ _ _ us hl => match us, hl with | [_], _ => rfl) sc_law_ordered rfl rfl ((g0 X G c).gb (show Fns P w K mg base 2 ["_law_is_less"] [F_law_is_less] from ⟨(h_law_is_less X G c).mono (by decide), trivial⟩)) (He.glo_ok X G (c.d.fact 30 (f := .glo "_law_ordered") rfl)) ch_law_ordered
theorem sc_law_position : FnScope ["source", "wide", "bottom"] ["source", "wide"] (defScope (top 44)) := ⟨rfl, rfl, rfl, by decide +kernel, rfl, by decide +kernel, by decide +kernel⟩
theorem ch_law_position : chkSs ⟨["source", "wide", "bottom"], ["_law_pick", "_law_fraction"], kc, xc⟩ (defScope (top 44)) none t_law_position.body (defBody (top 44)) = true := by decide +kernel
theorem h_law_position (X : K.In h) (G : h.Ns mainGlobals mg) (c : SaysZ zs fa fn K) : HasFn P w K mg base 4 "_law_position" F_law_position := by
  obtain ⟨fd, F⟩ := c.d.def_ 31 (d := d_law_position) rfl
  exact df_ok (lvl := 2) F (F.bindsN fun _ _ _ _ _ _ us hl => match us, hl with | [_, _], _ => rfl) sc_law_position rfl rfl ((g0 X G c).gb (show Fns P w K mg base 2 ["_law_pick", "_law_fraction"] [F_law_pick, F_law_fraction] from ⟨(h_law_pick X G c).mono (by decide), (h_law_fraction X G c).mono (by decide), trivial⟩)) (He.glo_ok X G (c.d.fact 31 (f := .glo "_law_position") rfl)) ch_law_position
theorem sc_law_world : FnScope ["source", "most", "most_posts", "wide", "names", "rows", "name", "places", "turn"] ["source", "most", "most_posts"] (defScope (top 45)) := ⟨rfl, rfl, rfl, by decide +kernel, rfl, by decide +kernel, by decide +kernel⟩
theorem ch_law_world : chkSs ⟨["source", "most", "most_posts", "wide", "names", "rows", "name", "places", "turn"], ["_law_pick", "_law_position", "_law_ordered"], kc, xc⟩ (defScope (top 45)) none t_law_world.body (defBody (top 45)) = true := by decide +kernel
theorem h_law_world (X : K.In h) (G : h.Ns mainGlobals mg) (c : SaysZ zs fa fn K) : HasFn P w K mg base 6 "_law_world" F_law_world := by
  obtain ⟨fd, F⟩ := c.d.def_ 32 (d := d_law_world) rfl
  exact df_ok (lvl := 4) F (F.bindsN fun _ _ _ _ _ _ us hl => match us, hl with | [_, _, _], _ => rfl) sc_law_world rfl rfl ((g0 X G c).gb (show Fns P w K mg base 4 ["_law_pick", "_law_position", "_law_ordered"] [F_law_pick, F_law_position, F_law_ordered] from ⟨(h_law_pick X G c).mono (by decide), (h_law_position X G c).mono (by decide), (h_law_ordered X G c).mono (by decide), trivial⟩)) (He.glo_ok X G (c.d.fact 32 (f := .glo "_law_world") rfl)) ch_law_world
theorem sc_law_speed : FnScope ["places", "posts", "place", "left", "one", "right", "before", "after"] ["places", "posts", "place"] (defScope (top 46)) := ⟨rfl, rfl, rfl, by decide +kernel, rfl, by decide +kernel, by decide +kernel⟩
theorem ch_law_speed : chkSs ⟨["places", "posts", "place", "left", "one", "right", "before", "after"], ["_law_is_less", "_law_minus"], kc, xc⟩ (defScope (top 46)) none t_law_speed.body (defBody (top 46)) = true := by decide +kernel
theorem h_law_speed (X : K.In h) (G : h.Ns mainGlobals mg) (c : SaysZ zs fa fn K) : HasFn P w K mg base 6 "_law_speed" F_law_speed := by
  obtain ⟨fd, F⟩ := c.d.def_ 33 (d := d_law_speed) rfl
  exact df_ok (lvl := 4) F (F.bindsN fun _ _ _ _ _ _ us hl => match us, hl with | [_, _, _], _ => rfl) sc_law_speed rfl rfl ((g0 X G c).gb (show Fns P w K mg base 4 ["_law_is_less", "_law_minus"] [F_law_is_less, F_law_minus] from ⟨(h_law_is_less X G c).mono (by decide), (h_law_minus X G c).mono (by decide), trivial⟩)) (He.glo_ok X G (c.d.fact 33 (f := .glo "_law_speed") rfl)) ch_law_speed
theorem sc_law_states : FnScope ["world", "posts", "here", "row", "found", "now", "places", "speeds", "place", "waits", "one", "other", "closing", "wait", "speed"] ["world"] (defScope (top 47)) := ⟨rfl, rfl, rfl, by decide +kernel, rfl, by decide +kernel, by decide +kernel⟩
theorem ch_law_states : chkSs ⟨["world", "posts", "here", "row", "found", "now", "places", "speeds", "place", "waits", "one", "other", "closing", "wait", "speed"], ["_law_ordered", "_law_speed", "_law_minus", "_law_times", "_law_plus"], kc, xc⟩ (defScope (top 47)) none t_law_states.body (defBody (top 47)) = true := by decide +kernel
theorem h_law_states (X : K.In h) (G : h.Ns mainGlobals mg) (c : SaysZ zs fa fn K) : HasFn P w K mg base 8 "_law_states" F_law_states := by
  obtain ⟨fd, F⟩ := c.d.def_ 34 (d := d_law_states) rfl
  exact df_ok (lvl := 6) F (F.bindsN fun _ _ _ _ _ _ us hl => match us, hl with | [_], _ => rfl) sc_law_states rfl rfl ((g0 X G c).gb (show Fns P w K mg base 6 ["_law_ordered", "_law_speed", "_law_minus", "_law_times", "_law_plus"] [F_law_ordered, F_law_speed, F_law_minus, F_law_times, F_law_plus] from ⟨(h_law_ordered X G c).mono (by decide), (h_law_speed X G c).mono (by decide), (h_law_minus X G c).mono (by decide), (h_law_times X G c).mono (by decide), (h_law_plus X G c).mono (by decide), trivial⟩)) (He.glo_ok X G (c.d.fact 34 (f := .glo "_law_states") rfl)) ch_law_states
theorem sc_law_times_of : FnScope ["states", "found", "row", "one", "other"] ["states"] (defScope (top 48)) := ⟨rfl, rfl, rfl, by decide +kernel, rfl, by decide +kernel, by decide +kernel⟩
theorem ch_law_times_of : chkSs ⟨["states", "found", "row", "one", "other"], ["_law_plus", "_law_times", "_law_ordered"], kc, xc⟩ (defScope (top 48)) none t_law_times_of.body (defBody (top 48)) = true := by decide +kernel
theorem h_law_times_of (X : K.In h) (G : h.Ns mainGlobals mg) (c : SaysZ zs fa fn K) : HasFn P w K mg base 6 "_law_times_of" F_law_times_of := by
  obtain ⟨fd, F⟩ := c.d.def_ 35 (d := d_law_times_of) rfl
  exact df_ok (lvl := 4) F (F.bindsN fun _ _ _ _ _ _ us hl => match us, hl with | [_], _ => rfl) sc_law_times_of rfl rfl ((g0 X G c).gb (show Fns P w K mg base 4 ["_law_plus", "_law_times", "_law_ordered"] [F_law_plus, F_law_times, F_law_ordered] from ⟨(h_law_plus X G c).mono (by decide), (h_law_times X G c).mono (by decide), (h_law_ordered X G c).mono (by decide), trivial⟩)) (He.glo_ok X G (c.d.fact 35 (f := .glo "_law_times_of") rfl)) ch_law_times_of
theorem sc_law_rate : FnScope ["gaps", "at", "smaller", "other"] ["gaps", "at"] (defScope (top 49)) := ⟨rfl, rfl, rfl, by decide +kernel, rfl, by decide +kernel, by decide +kernel⟩
theorem ch_law_rate : chkSs ⟨["gaps", "at", "smaller", "other"], ["_law_is_less"], kc, xc⟩ (defScope (top 49)) none t_law_rate.body (defBody (top 49)) = true := by decide +kernel
theorem h_law_rate (X : K.In h) (G : h.Ns mainGlobals mg) (c : SaysZ zs fa fn K) : HasFn P w K mg base 4 "_law_rate" F_law_rate := by
  obtain ⟨fd, F⟩ := c.d.def_ 36 (d := d_law_rate) rfl
  exact df_ok (lvl := 2) F (F.bindsN fun _ _ _ _ _ _ us hl => match us, hl with | [_, _], _ => rfl) sc_law_rate rfl rfl ((g0 X G c).gb (show Fns P w K mg base 2 ["_law_is_less"] [F_law_is_less] from ⟨(h_law_is_less X G c).mono (by decide), trivial⟩)) (He.glo_ok X G (c.d.fact 36 (f := .glo "_law_rate") rfl)) ch_law_rate
theorem sc_law : FnScope ["script", "k", "source", "world", "states", "when", "rows", "gaps", "row", "one", "other", "at", "half", "before", "after", "expected", "gap", "rate"] ["script"] (defScope (top 50)) := ⟨rfl, rfl, rfl, by decide +kernel, rfl, by decide +kernel, by decide +kernel⟩
theorem ch_law : chkSs ⟨["script", "k", "source", "world", "states", "when", "rows", "gaps", "row", "one", "other", "at", "half", "before", "after", "expected", "gap", "rate"], ["_law_source", "_law_world", "_law_states", "_law_times_of", "gaps_at", "_law_rate", "_law_minus", "_law_times", "_law_plus"], kc, xc⟩ (defScope (top 50)) none t_law.body (defBody (top 50)) = true := by decide +kernel
theorem h_law (X : K.In h) (G : h.Ns mainGlobals mg) (c : SaysZ zs fa fn K) : HasFn P w K mg base 18 "law" F_law := by
  obtain ⟨fd, F⟩ := c.d.def_ 37 (d := d_law) rfl
  exact df_ok (lvl := 16) F (F.bindsN fun _ _ _ _ _ _ us hl => match us, hl with | [_], _ => rfl) sc_law rfl rfl ((g0 X G c).gb (show Fns P w K mg base 16 ["_law_source", "_law_world", "_law_states", "_law_times_of", "gaps_at", "_law_rate", "_law_minus", "_law_times", "_law_plus"] [F_law_source, F_law_world, F_law_states, F_law_times_of, F_gaps_at, F_law_rate, F_law_minus, F_law_times, F_law_plus] from ⟨(h_law_source X G c).mono (by decide), (h_law_world X G c).mono (by decide), (h_law_states X G c).mono (by decide), (h_law_times_of X G c).mono (by decide), (h_gaps_at X G c).mono (by decide), (h_law_rate X G c).mono (by decide), (h_law_minus X G c).mono (by decide), (h_law_times X G c).mono (by decide), (h_law_plus X G c).mono (by decide), trivial⟩)) (He.glo_ok X G (c.d.fact 37 (f := .glo "law") rfl)) ch_law
theorem ok_law {fd : FuncData} (X : K.In h) (G : h.Ns mainGlobals mg) (c : SaysZ zs fa fn K) (F : FunD K d_law.name d_law.qual d_law.params d_law.body d_law.scope [] [] (He.fAd K d_law.at_) fd) : FnOk P w K mg base (L2.CX P w) 18 (He.fAd K d_law.at_) fd ["script"] (spF K mg F_law) := by
  exact df_fn (lvl := 16) F sc_law rfl rfl ((g0 X G c).gb (show Fns P w K mg base 16 ["_law_source", "_law_world", "_law_states", "_law_times_of", "gaps_at", "_law_rate", "_law_minus", "_law_times", "_law_plus"] [F_law_source, F_law_world, F_law_states, F_law_times_of, F_gaps_at, F_law_rate, F_law_minus, F_law_times, F_law_plus] from ⟨(h_law_source X G c).mono (by decide), (h_law_world X G c).mono (by decide), (h_law_states X G c).mono (by decide), (h_law_times_of X G c).mono (by decide), (h_gaps_at X G c).mono (by decide), (h_law_rate X G c).mono (by decide), (h_law_minus X G c).mono (by decide), (h_law_times X G c).mono (by decide), (h_law_plus X G c).mono (by decide), trivial⟩)) ch_law
end
end NW.Nk17
open PySem PySem.W PySem.Calls PyProof.Rows in
theorem NW.Nk17.fin (hF : ∀ ns : List Int, ns.length ≤ 63 → NW.Nk17.F_law.run [.d (.list (ns.map .int))] [] = some (.ret (.d (.bool true)), [])) : PySem.Challenge.rw_nearwalk_k17_whole_rates_of_gaps.Holds := by
  w_on; o_law
  refine HandSHeadRun.head_any (r := OpenLaw.row PySem.Challenge.rw_nearwalk_k17_whole_rates_of_gaps) (q := view (OpenLaw.row PySem.Challenge.rw_nearwalk_k17_whole_rates_of_gaps).prog [50]) (H := NW.Nk17.hk) (ob := NW.Nk17.ob) (M := 3000) (loose := NW.Nk17.nms) (d := HandSHeadRun.topDef (OpenLaw.row PySem.Challenge.rw_nearwalk_k17_whole_rates_of_gaps).prog 50) (kwd := []) NW.Nk17.ob_eq
    (by kernel_rfl) (fun s => by kernel_rfl) NW.Nk17.run (by kernel_rfl) (by kernel_rfl) (by kernel_rfl) (by rfl) (by first | assumption | decide +kernel) (by decide +kernel) ⟨rfl, rfl, rfl, rfl, rfl, by decide +kernel⟩ ?hw ?hc
  case hw => w_witness2
  case hc =>
    refine L2.walk_ofE (l := PySem.Challenge.rw_nearwalk_k17_whole_rates_of_gaps) (n := 63) (k := 18) (x := "script") (CX := fun _ _ _ _ _ _ => False) rfl (by decide) (by kernel_rfl) ⟨rfl, by decide, by decide⟩ ?F (fun _ _ _ _ z => z)
    intro w mg fa h Y G hmg0
    obtain ⟨K, KX, c⟩ := Y
    have hmg : mg ("law" : PySem.Str) = some (.ref fa) := by
      have e : (HandSHeadRun.topDef (OpenLaw.row PySem.Challenge.rw_nearwalk_k17_whole_rates_of_gaps).prog 50).name = ("law" : PySem.Str) := by kernel_rfl
      rw [← e]
      exact hmg0
    obtain ⟨fd, F⟩ := c.d.def_ 37 (d := NW.Nk17.d_law) rfl
    have e := hmg.symm.trans (He.glo_ok KX G (c.d.fact 37 (f := .glo "law") rfl))
    cases e
    have hb := L2.FunD.bindsA (ps := ["script"]) F fun _ _ _ _ _ _ us hl => match us, hl with | [_], _ => rfl
    refine ⟨K, fd, NW.spL K mg NW.Nk17.F_law, KX, fun s v => hb s [v] rfl, fun H a ns hl _ hS => NW.law_sp rfl hF H a ns hl hS, fun base _ _ => ?_⟩
    exact NW.ok_quiet (NW.Nk17.ok_law (w := w) (base := base) KX G c F)

theorem PySem.Challenge.cw_nearwalk_k17_whole_rates_of_gaps_holds : PySem.Challenge.rw_nearwalk_k17_whole_rates_of_gaps.Holds := by
  exact NW.Nk17.fin NW.Nk17.law_ok
