import PyProof.Rows.All
import Wide.All
import OpenK.AllK
import Wide.FinOn
import HandS.ForMost
import KE.SortData
import KE.KDictKeyed
import HandS.WordsExc
import HandS.ExcOwn
import HandS.CallSlots
import KE.DataEq
import KE.DataFind
import KE.DataCmp
import KE.DataMinMax
import HandS.TupAny
import HandS.TupMul
import HandS.Wide
import HandS.IsInst
import PyProof.SeqIndex
import HandS.Records
import HandS.Zip
import HandS.More
import HandS.Iter
import HandS.Comp
import HandS.Flow
import HandS.Defaults
import HandS.HeadHook2
import HandS.HeadEnd
import HandS.EndBits
import HandS.Head2
import PySem.Challenge.RW_anyworth_k27_words_and_rows
set_option Elab.async false
set_option linter.all false
set_option maxRecDepth 100000
/-! PF0: plain values, slots, and the evaluator of the small language. -/
namespace PF
open PySem PySem.Spec PyProof.Rows L2

/-- plain values -/
inductive D where
  | non | bl (b : Bool) | int (i : Int) | str (s : Str)
  | tup (ds : List D) | lst (ds : List D) | dct (ks vs : List D) | ins (c : Str) (ns : List Str) (vs : List D)
  deriving Inhabited

mutual
def D.py : D → PyData
  | .non => .none
  | .bl b => .bool b
  | .int i => .int i
  | .str s => .str s
  | .tup ds => .tuple (D.pys ds)
  | .lst ds => .list (D.pys ds)
  | .dct _ _ => .none
  | .ins _ _ _ => .none
def D.pys : List D → List PyData
  | [] => []
  | d :: ds => D.py d :: D.pys ds
end
mutual
/-- no dict, no instance within -/
def D.pl : D → Bool
  | .tup ds => D.pls ds
  | .lst ds => D.pls ds
  | .dct _ _ => false
  | .ins _ _ _ => false
  | .non => true
  | .bl _ => true
  | .int _ => true
  | .str _ => true
def D.pls : List D → Bool
  | [] => true
  | d :: ds => D.pl d && D.pls ds
end
mutual
def D.dep : D → Nat
  | .tup ds => D.deps ds + 1
  | .lst ds => D.deps ds + 1
  | .dct ks vs => max (D.deps ks) (D.deps vs) + 1
  | .ins _ _ vs => D.deps vs + 1
  | .non => 0
  | .bl _ => 0
  | .int _ => 0
  | .str _ => 0
def D.deps : List D → Nat
  | [] => 0
  | d :: ds => max (D.dep d) (D.deps ds)
end
mutual
def D.deq : D → D → Bool
  | .non, .non => true
  | .bl a, .bl b => a == b
  | .int a, .int b => a == b
  | .str a, .str b => decide (a = b)
  | .tup a, .tup b => D.deqs a b
  | .lst a, .lst b => D.deqs a b
  | .dct a b, .dct c d => D.deqs a c && D.deqs b d
  | .ins a b c, .ins d e f => decide (a = d) && (decide (b = e) && D.deqs c f)
  | _, _ => false
def D.deqs : List D → List D → Bool
  | [], [] => true
  | a :: as, b :: bs => D.deq a b && D.deqs as bs
  | _, _ => false
end
mutual
theorem D.deq_iff : ∀ a b : D, D.deq a b = true ↔ a = b
  | .non, b => by cases b <;> simp [D.deq]
  | .bl x, b => by cases b <;> simp [D.deq]
  | .int x, b => by cases b <;> simp [D.deq]
  | .str x, b => by cases b <;> simp [D.deq]
  | .tup xs, b => by
    cases b with
    | tup ys => simp only [D.deq, D.tup.injEq]; exact D.deqs_iff xs ys
    | _ => simp [D.deq]
  | .lst xs, b => by
    cases b with
    | lst ys => simp only [D.deq, D.lst.injEq]; exact D.deqs_iff xs ys
    | _ => simp [D.deq]
  | .dct xs ys, b => by
    cases b with
    | dct zs ws => simp only [D.deq, D.dct.injEq, Bool.and_eq_true, D.deqs_iff xs zs, D.deqs_iff ys ws]
    | _ => simp [D.deq]
  | .ins c ns xs, b => by
    cases b with
    | ins c' ns' ys => simp only [D.deq, D.ins.injEq, Bool.and_eq_true, decide_eq_true_eq, D.deqs_iff xs ys]
    | _ => simp [D.deq]
theorem D.deqs_iff : ∀ a b : List D, D.deqs a b = true ↔ a = b
  | [], b => by cases b <;> simp [D.deqs]
  | x :: xs, b => by
    cases b with
    | nil => simp [D.deqs]
    | cons y ys => simp only [D.deqs, Bool.and_eq_true, D.deq_iff x y, D.deqs_iff xs ys, List.cons.injEq]
end
instance : DecidableEq D := fun a b => if h : D.deq a b = true then isTrue ((D.deq_iff a b).mp h) else isFalse fun e => h ((D.deq_iff a b).mpr e)

/-- Python's == on plain values -/
def D.eq (a b : D) : Bool := PyData.eqv a.py b.py
/-- Python's < on values of one make -/
def D.lt (a b : D) : Bool := W.dataLt a.py b.py
def D.alk (a b : D) : Bool := W.alike a.py b.py
def D.le (a b : D) : Bool := !(D.lt b a)

/-- a slot: nothing, a shared value, an owned one, an owned one that a loop walks -/
inductive Sl where
  | non | fr (d : D) | ow (d : D) | lk (d : D)
  deriving Inhabited
abbrev Env := List Sl
def Sl.d? : Sl → Option D
  | .non => none
  | .fr d => some d
  | .ow d => some d
  | .lk d => some d
def getS : Env → Nat → Sl
  | [], _ => .non
  | s :: _, 0 => s
  | _ :: r, i + 1 => getS r i
def setS : Env → Nat → Sl → Env
  | [], _, _ => []
  | _ :: r, 0, x => x :: r
  | s :: r, i + 1, x => s :: setS r i x

/-- where a value stands: shared, a new object, the object of a slot -/
inductive Fl where
  | fr | ow | pl (i : Nat)
  deriving DecidableEq
/-- an exception: its class, its field -/
structure Exn where
  cls : Str
  arg : Option D

inductive RE where
  | ok (f : Fl) (d : D) (e : Env)
  | ex (x : Exn) (e : Env)
  | st
inductive REs where
  | ok (vs : List (Fl × D)) (e : Env)
  | ex (x : Exn) (e : Env)
  | st
/-- a call's end: the value (a new object or not), the parameters' slots -/
inductive FR where
  | ok (o : Bool) (d : D) (outs : List Sl)
  | ex (x : Exn) (outs : List Sl)
  | st
/-- a statement's end -/
inductive RS where
  | nx (e : Env)
  | rt (o : Bool) (d : D) (e : Env)
  | bk (e : Env)
  | ct (e : Env)
  | ex (x : Exn) (e : Env)
  | st

/-! ### operations on values -/
inductive Ty where
  | tInt | tStr | tBool | tTuple | tList
  deriving DecidableEq
inductive Op where
  | add | sub | mul | fdiv | mod | pow | bor | shl | neg
  | eq | ne | lt | le | gt | ge | isIn | notIn | isN | notN
  | idx | slLo | slHi | slLoHi
  | len | toInt | toStr | abs | min2 | max2 | min1 | max1 | min1n | sum | sorted | sortedSet | lenSet | tuple | list | all | any
  | isinst (ts : List Ty)
  | join | index | count
  deriving DecidableEq

def bits (i : Int) : Nat := Builtin.Int.intBits i
def mulOk (a b : Int) : Bool := decide (bits a ≤ 64) || decide (bits b ≤ 64) || decide (bits a + bits b ≤ 2 ^ 26)
def sameTy : D → D → Bool
  | .int _, .int _ => true
  | .str _, .str _ => true
  | _, _ => false
/-- == is served -/
def eqOk (a b : D) : Bool := a.pl && b.pl && decide (min a.dep b.dep ≤ 60)
def ltOk (a b : D) : Bool := a.alk b && decide (a ≠ .non) && a.pl && b.pl && decide (min a.dep b.dep ≤ 60)
def pyIn (x : D) (ds : List D) : Option Bool :=
  if x.pl && decide (x.dep ≤ 60) && ds.all (·.pl) then some (ds.any fun d => D.eq d x) else none
def strIn (x y : Str) : Bool := !(Builtin.Str.occurrences y x 0 y.length 1).isEmpty
def cutL (ds : List D) (lo hi : Option Int) : List D := (ds.drop (HT.sIx ds.length 0 lo)).take (HT.sIx ds.length ds.length hi - HT.sIx ds.length 0 lo)
def cutD (x : D) (lo hi : Option Int) : Option (Bool × D) := match x with
  | .tup ds => some (false, .tup (cutL ds lo hi))
  | .lst ds => some (true, .lst (cutL ds lo hi))
  | .str s => if s.length ≤ sizeLine then some (false, .str (cutS s lo hi)) else none
  | _ => none
/-- a[i] -/
def idxD : D → D → Option D
  | .tup ds, .int i => atI ds i
  | .lst ds, .int i => atI ds i
  | .str s, .int i => if s.length ≤ sizeLine then (atI s.cps.toList i).map fun c => .str ⟨#[c]⟩ else none
  | _, _ => none
def ints? : List D → Option (List Int)
  | [] => some []
  | .int i :: r => (ints? r).map (i :: ·)
  | _ :: _ => none
def bls? : List D → Option (List Bool)
  | [] => some []
  | .bl b :: r => (bls? r).map (b :: ·)
  | _ :: _ => none
def strs? : List D → Option (List Str)
  | [] => some []
  | .str s :: r => (strs? r).map (s :: ·)
  | _ :: _ => none
def seq? : D → Option (List D)
  | .tup ds => some ds
  | .lst ds => some ds
  | _ => none
def isTy : D → Ty → Bool
  | .int _, .tInt => true
  | .bl _, .tInt => true
  | .bl _, .tBool => true
  | .str _, .tStr => true
  | .tup _, .tTuple => true
  | .lst _, .tList => true
  | _, _ => false
def flatTy : D → Bool
  | .dct _ _ => false
  | .ins _ _ _ => false
  | _ => true
/-- the items can be sorted: every two of one make, none None -/
def sortable (ds : List D) : Bool := ds.all fun a => a.pl && decide (a ≠ .non) && decide (a.dep ≤ 60) && ds.all fun b => a.alk b
def hasEmpty (ds : List D) : Bool := ds.any fun d => decide (d = .tup [])
def srt (ds : List D) : List D := ds.mergeSort D.le
/-- each item once, where it first stands -/
def firsts : List D → List D
  | [] => []
  | d :: ds => d :: (firsts ds).filter fun x => decide (x ≠ d)
def idxOf (x : D) : List D → Option Nat
  | [] => none
  | d :: ds => if D.eq d x then some 0 else (idxOf x ds).map (· + 1)

/-! ### dicts: keys and values apart -/
def dGet (k : D) : List D → List D → Option D
  | a :: ks, v :: vs => if a = k then some v else dGet k ks vs
  | _, _ => none
def dPutV (k v : D) : List D → List D → List D
  | a :: ks, w :: vs => if a = k then v :: vs else w :: dPutV k v ks vs
  | _, _ => []
def dHas (k : D) (ks : List D) : Bool := decide (k ∈ ks)
/-- d[k] = v -/
def dPut (k v : D) (ks vs : List D) : List D × List D := if k ∈ ks then (ks, dPutV k v ks vs) else (ks ++ [k], vs ++ [v])
def dDelV (k : D) : List D → List D → List D
  | a :: ks, v :: vs => if a = k then vs else v :: dDelV k ks vs
  | _, _ => []
/-- what may be a key: numbers, texts; tuples of such at any depth to 8 -/
def keyLeaf : D → Bool
  | .int _ => true
  | .str _ => true
  | _ => false
mutual
def keyIn : D → Bool
  | .int _ => true
  | .str _ => true
  | .non => true
  | .tup ds => keyIns ds
  | .bl _ => false
  | .lst _ => false
  | .dct _ _ => false
  | .ins _ _ _ => false
def keyIns : List D → Bool
  | [] => true
  | d :: ds => keyIn d && keyIns ds
end
def keyTup : D → Bool
  | .tup ds => keyIns ds && decide (D.deps ds ≤ 6)
  | _ => false
/-- the key goes with the keys that are there -/
def keyOk (k : D) (ks : List D) : Bool := (keyLeaf k && ks.all keyLeaf) || (keyTup k && ks.all keyTup)

def ob (b : Bool) : Option (Bool × D) := some (false, .bl b)
def pAdd : D → D → Option (Bool × D)
  | .int i, .int j => some (false, .int (i + j))
  | .str x, .str y => if x.length + y.length ≤ sizeLine then some (false, .str (x ++ y)) else none
  | .tup x, .tup y => if x.length + y.length ≤ sizeLine then some (false, .tup (x ++ y)) else none
  | .lst x, .lst y => if x.length + y.length ≤ sizeLine then some (true, .lst (x ++ y)) else none
  | _, _ => none
def pII (f : Int → Int → Option Int) : D → D → Option (Bool × D)
  | .int i, .int j => (f i j).map fun k => (false, .int k)
  | _, _ => none
def pMul : D → D → Option (Bool × D)
  | .int i, .int j => if mulOk i j then some (false, .int (i * j)) else none
  | .tup x, .int j => if j = 1 ∧ x ≠ [] then some (false, .tup x) else if decide (2 ≤ j) && decide (j ≤ 1000) && decide (x ≠ []) && decide (x.length ≤ 1000) then some (false, .tup (List.replicate j.toNat x).flatten) else none
  | .str x, .int j => if decide (-(2 ^ 62) ≤ j) && decide (j < 2 ^ 62) && decide (x.length * j.toNat ≤ sizeLine) then some (false, .str ⟨(List.replicate j.toNat x.cps.toList).flatten.toArray⟩) else none
  | _, _ => none
def pFdiv (i j : Int) : Option Int := if decide (0 < j) && decide (j.natAbs.log2 < 9000) then some (i / j) else none
def pMod (i j : Int) : Option Int := if 0 < j then some (i % j) else none
def pPow (i j : Int) : Option Int := if decide (0 ≤ j) && decide (j ≤ 1000000) && decide (i.natAbs < 2 ^ 64) then some (i ^ j.toNat) else none
def pShl (i j : Int) : Option Int := if decide (0 ≤ j) && decide (j ≤ 1000000) && decide (i.natAbs < 2 ^ 64) then some (i * 2 ^ j.toNat) else none
def pNeg : D → Option (Bool × D)
  | .int i => some (false, .int (-i))
  | _ => none
def pEq (neg : Bool) (a b : D) : Option (Bool × D) := if eqOk a b then ob (if neg then !D.eq a b else D.eq a b) else none
def pLt (neg : Bool) (a b : D) : Option (Bool × D) := if ltOk a b then ob (if neg then !D.lt a b else D.lt a b) else none
def pIn (neg : Bool) : D → D → Option (Bool × D)
  | x, .tup ds => (pyIn x ds).bind fun b => ob (if neg then !b else b)
  | x, .lst ds => (pyIn x ds).bind fun b => ob (if neg then !b else b)
  | x, .dct ks _ => if keyOk x ks then ob (if neg then !dHas x ks else dHas x ks) else none
  | .str x, .str y => ob (if neg then !strIn x y else strIn x y)
  | _, _ => none
def pIdx : D → D → Option (Bool × D)
  | .dct ks vs, k => if keyOk k ks then (dGet k ks vs).map fun v => (false, v) else none
  | a, i => (idxD a i).map fun v => (false, v)
def int? : D → Option Int
  | .int i => some i
  | _ => none
def pLen : D → Option (Bool × D)
  | .str s => if s.length ≤ sizeLine then some (false, .int s.length) else none
  | .tup ds => some (false, .int ds.length)
  | .lst ds => some (false, .int ds.length)
  | .dct ks _ => some (false, .int ks.length)
  | _ => none
def pInt : D → Option (Bool × D)
  | .int i => some (false, .int i)
  | .bl b => some (false, .int (if b then 1 else 0))
  | .str s => if s.length ≤ 640 then (PySem.intText? s).map fun n => (false, .int n) else none
  | _ => none
def pStr : D → Option (Bool × D)
  | .int i => if i.natAbs.log2 < 1920 then some (false, .str (toString i)) else none
  | _ => none
def pAbs : D → Option (Bool × D)
  | .int i => some (false, .int (if i < 0 then -i else i))
  | _ => none
def lst? : D → Option (List D)
  | .lst ds => some ds
  | _ => none
def pBest (f : Int → Int → Int) (dflt : Option D) (a : D) : Option (Bool × D) := ((lst? a).bind ints?).bind fun ns => match ns with
  | [] => dflt.map fun d => (false, d)
  | n :: r => some (false, .int (r.foldl f n))
def pSum (a : D) : Option (Bool × D) := ((lst? a).bind ints?).map fun ns => (false, .int ns.sum)
/-- what sorted, set, list walk: items of a list, a tuple, a dict -/
def its? : D → Option (List D)
  | .lst ds => some ds
  | .tup ds => some ds
  | .dct ks _ => some ks
  | _ => none
def pSorted (a : D) : Option (Bool × D) := (its? a).bind fun ds => if sortable ds && decide (ds.length ≤ sizeLine) then some (true, .lst (srt ds)) else none
def pSortedSet (a : D) : Option (Bool × D) := (seq? a).bind fun ds => if sortable ds && decide (ds.length ≤ sizeLine) && (ds.all keyLeaf || ds.all keyTup) then some (true, .lst (srt (firsts ds))) else none
def pLenSet (a : D) : Option (Bool × D) := (seq? a).bind fun ds => if decide (ds.length ≤ sizeLine) && (ds.all keyLeaf || ds.all keyTup) then some (false, .int (firsts ds).length) else none
def pTuple (a : D) : Option (Bool × D) := (seq? a).map fun ds => (false, .tup ds)
def pList (a : D) : Option (Bool × D) := (its? a).bind fun ds => if ds.length ≤ sizeLine then some (true, .lst ds) else none
def pAll (f : List Bool → Bool) (a : D) : Option (Bool × D) := ((lst? a).bind bls?).bind fun bs => ob (f bs)
def pIsi (ts : List Ty) (d : D) : Option (Bool × D) := if flatTy d then ob (ts.any (isTy d)) else none
def pJoin : D → D → Option (Bool × D)
  | .str s, .lst ds => (strs? ds).bind fun xs => if (xs.map (·.length)).sum + xs.length * s.length ≤ 16777216 then some (false, .str (Txt.join s xs)) else none
  | _, _ => none
def pIndex (a x : D) : Option (Bool × D) := (seq? a).bind fun ds => if x.pl && decide (x.dep ≤ 60) && ds.all (·.pl) then (idxOf x ds).map fun (n : Nat) => (false, D.int (n : Int)) else none
def pCount (a x : D) : Option (Bool × D) := (seq? a).bind fun ds => if x.pl && decide (x.dep ≤ 60) && ds.all (·.pl) then some (false, .int (ds.countP fun d => D.eq d x)) else none
def pCut (lo hi : Option (Option Int)) (a : D) : Option (Bool × D) := lo.bind fun l => hi.bind fun h => cutD a l h
def oI (d : D) : Option (Option Int) := (int? d).map some
def prim : Op → List D → Option (Bool × D)
  | .add, [a, b] => pAdd a b
  | .sub, [a, b] => pII (fun i j => some (i - j)) a b
  | .mul, [a, b] => pMul a b
  | .fdiv, [a, b] => pII pFdiv a b
  | .mod, [a, b] => pII pMod a b
  | .pow, [a, b] => pII pPow a b
  | .bor, [a, b] => pII (fun i j => some (Builtin.bitOr i j)) a b
  | .shl, [a, b] => pII pShl a b
  | .neg, [a] => pNeg a
  | .eq, [a, b] => pEq false a b
  | .ne, [a, b] => pEq true a b
  | .lt, [a, b] => pLt false a b
  | .ge, [a, b] => pLt true a b
  | .gt, [a, b] => pLt false b a
  | .le, [a, b] => pLt true b a
  | .isIn, [a, b] => pIn false a b
  | .notIn, [a, b] => pIn true a b
  | .isN, [a] => ob (decide (a = .non))
  | .notN, [a] => ob (!decide (a = .non))
  | .idx, [a, i] => pIdx a i
  | .slLo, [a, i] => pCut (oI i) (some none) a
  | .slHi, [a, i] => pCut (some none) (oI i) a
  | .slLoHi, [a, i, j] => pCut (oI i) (oI j) a
  | .len, [a] => pLen a
  | .toInt, [a] => pInt a
  | .toStr, [a] => pStr a
  | .abs, [a] => pAbs a
  | .min2, [a, b] => pII (fun i j => some (if j < i then j else i)) a b
  | .max2, [a, b] => pII (fun i j => some (if j > i then j else i)) a b
  | .min1, [a] => pBest min none a
  | .max1, [a] => pBest max none a
  | .min1n, [a] => pBest min (some .non) a
  | .sum, [a] => pSum a
  | .sorted, [a] => pSorted a
  | .sortedSet, [a] => pSortedSet a
  | .lenSet, [a] => pLenSet a
  | .tuple, [a] => pTuple a
  | .list, [a] => pList a
  | .all, [a] => pAll (·.all id) a
  | .any, [a] => pAll (·.any id) a
  | .isinst ts, [a] => pIsi ts a
  | .join, [a, b] => pJoin a b
  | .index, [a, b] => pIndex a b
  | .count, [a, b] => pCount a b
  | _, _ => none
/-- truth -/
def truthy : D → Option Bool
  | .non => some false
  | .bl b => some b
  | .int i => some (i != 0)
  | .str s => if s.length ≤ sizeLine then some (s.length != 0) else none
  | .tup ds => some (!ds.isEmpty)
  | .lst ds => some (!ds.isEmpty)
  | .dct ks _ => some (!ks.isEmpty)
  | .ins _ _ _ => none

/-! ### the language -/
inductive T where
  | nm (i : Nat) | tup (ts : List T)
/-- methods that change the object of a slot -/
inductive Mu where
  | append | extend | pop | popAt | insert | reverse | remove | setdefault
  deriving DecidableEq
mutual
inductive E where
  | var (i : Nat) | pk (i : Nat) | lit (d : D) | gl (x : Str)
  | tup (es : List E) | lst (es : List E) | dnew
  | op (p : Op) (es : List E)
  | sl (a b c : E)
  | boo (conj : Bool) (es : List E) | not_ (a : E) | ife (c a b : E)
  | get (es : List E)
  | call (f : Str) (es : List E)
  | mu (m : Mu) (i : Nat) (es : List E)
  | lc (vs : List Nat) (t : T) (it : It) (ifs : List E) (elt : E)
  | lc2 (vs : List Nat) (t : T) (it : It) (ifs : List E) (t2 : T) (it2 : It) (ifs2 : List E) (elt : E)
  | dc (vs : List Nat) (t : T) (it : It) (ifs : List E) (k v : E)
inductive It where
  | seq (e : E) | rng1 (a : E) | rng2 (es : List E) | zip (es : List E) | enum (a : E) | items (a : E)
end
inductive S where
  | asg (i : Nat) (e : E)
  | asgT (t : T) (e : E)
  | setI (i : Nat) (k e : E)
  | delI (i : Nat) (k : E)
  | aug (i : Nat) (p : Op) (e : E)
  | ex (e : E)
  | ret (e : E) | retV (i : Nat) | retN
  | iff (c : E) (a b : List S)
  | for_ (t : T) (it : It) (b : List S)
  | whl (c : E) (b : List S)
  | brk | cnt | pas
  | frz (i : Nat)

/-! ### the evaluator -/
def late (f : Fl) (d : D) (e : Env) : Option D := match f with
  | .pl i => (getS e i).d?
  | _ => some d
def lates : List (Fl × D) → Env → Option (List D)
  | [], _ => some []
  | (f, d) :: r, e => match late f d e, lates r e with
    | some x, some xs => some (x :: xs)
    | _, _ => none
/-- values to be stored: no places -/
def stored : List (Fl × D) → Option (List D)
  | [] => some []
  | (.pl _, _) :: _ => none
  | (_, d) :: r => (stored r).map (d :: ·)
/-- what a call is handed -/
def lend : List (Fl × D) → Env → List Sl
  | [], _ => []
  | (.pl i, _) :: r, e => getS e i :: lend r e
  | (_, d) :: r, e => .fr d :: lend r e
def places : List (Fl × D) → List Nat
  | [] => []
  | (.pl i, _) :: r => i :: places r
  | (_, _) :: r => places r
def isOwn : Sl → Bool
  | .ow _ => true
  | .lk _ => true
  | _ => false
def isNon : Sl → Bool
  | .non => true
  | _ => false
/-- the lent slots come back -/
def back : List (Fl × D) → List Sl → Env → Option Env
  | [], _, e => some e
  | (.pl i, _) :: r, o :: outs, e => if isNon o then none else back r outs (setS e i o)
  | (.pl _, _) :: _, [], _ => none
  | (_, _) :: r, _ :: outs, e => back r outs e
  | (_, _) :: r, [], e => back r [] e
def nodupN : List Nat → Bool
  | [] => true
  | a :: r => !(r.contains a) && nodupN r
def flOf (o : Bool) : Fl := if o then .ow else .fr
mutual
def tvars : T → List Nat
  | .nm i => [i]
  | .tup ts => tvarss ts
def tvarss : List T → List Nat
  | [] => []
  | t :: ts => tvars t ++ tvarss ts
end
mutual
def asgT : T → D → Env → Option Env
  | .nm i, d, e => some (setS e i (.fr d))
  | .tup ts, .tup ds, e => asgTs ts ds e
  | .tup _, _, _ => none
def asgTs : List T → List D → Env → Option Env
  | [], [], e => some e
  | t :: ts, d :: ds, e => match asgT t d e with
    | some e' => asgTs ts ds e'
    | none => none
  | _, _, _ => none
end
def wipeS (e : Env) : List Nat → Env
  | [] => e
  | v :: vs => setS (wipeS e vs) v .non
/-- a block's target, its names anew -/
def asgW (vs : List Nat) (t : T) (d : D) (e : Env) : Option Env := asgT t d (wipeS e vs)
/-- locks: an owned list that is walked -/
def lockS (e : Env) (i : Nat) : Env := match getS e i with
  | .ow d => setS e i (.lk d)
  | _ => e
def unlockS (e : Env) (i : Nat) : Env := match getS e i with
  | .lk d => setS e i (.ow d)
  | _ => e
def isOw : Sl → Bool
  | .ow _ => true
  | _ => false
/-- the slots at vs as they were -/
def restS (e e0 : Env) : List Nat → Env
  | [] => e
  | v :: vs => setS (restS e e0 vs) v (getS e0 v)
inductive RT where
  | ok (b : Bool) (e : Env)
  | ex (x : Exn) (e : Env)
  | st
/-- what is walked: the items, the slots to be locked -/
inductive RI where
  | ok (ds : List D) (ls : List Nat) (e : Env)
  | ex (x : Exn) (e : Env)
  | st
/-- the items made so far -/
inductive RL where
  | ok (acc : List D) (e : Env)
  | st
inductive RD where
  | ok (ks vs : List D) (e : Env)
  | st

/-! ### what follows -/
def RE.bd : RE → (Fl → D → Env → RE) → RE
  | .ok f d e, k => k f d e
  | .ex x e, _ => .ex x e
  | .st, _ => .st
def RE.bds : RE → (Fl → D → Env → REs) → REs
  | .ok f d e, k => k f d e
  | .ex x e, _ => .ex x e
  | .st, _ => .st
def REs.bds : REs → (List (Fl × D) → Env → REs) → REs
  | .ok vs e, k => k vs e
  | .ex x e, _ => .ex x e
  | .st, _ => .st
def REs.bd : REs → (List (Fl × D) → Env → RE) → RE
  | .ok vs e, k => k vs e
  | .ex x e, _ => .ex x e
  | .st, _ => .st
def REs.bdI : REs → (List (Fl × D) → Env → RI) → RI
  | .ok vs e, k => k vs e
  | .ex x e, _ => .ex x e
  | .st, _ => .st
def RE.bdI : RE → (Fl → D → Env → RI) → RI
  | .ok f d e, k => k f d e
  | .ex x e, _ => .ex x e
  | .st, _ => .st
def RI.bd : RI → (List D → List Nat → Env → RE) → RE
  | .ok ds ls e, k => k ds ls e
  | .ex x e, _ => .ex x e
  | .st, _ => .st
def RT.bd : RT → (Bool → Env → RE) → RE
  | .ok b e, k => k b e
  | .ex x e, _ => .ex x e
  | .st, _ => .st
def RE.bdT : RE → (Fl → D → Env → RT) → RT
  | .ok f d e, k => k f d e
  | .ex x e, _ => .ex x e
  | .st, _ => .st
def RE.bdS : RE → (Fl → D → Env → RS) → RS
  | .ok f d e, k => k f d e
  | .ex x e, _ => .ex x e
  | .st, _ => .st
def RT.bdS : RT → (Bool → Env → RS) → RS
  | .ok b e, k => k b e
  | .ex x e, _ => .ex x e
  | .st, _ => .st
def RI.bdS : RI → (List D → List Nat → Env → RS) → RS
  | .ok ds ls e, k => k ds ls e
  | .ex x e, _ => .ex x e
  | .st, _ => .st
def RL.bd : RL → (List D → Env → RE) → RE
  | .ok a e, k => k a e
  | .st, _ => .st
def RL.bdL : RL → (List D → Env → RL) → RL
  | .ok a e, k => k a e
  | .st, _ => .st
def RD.bd : RD → (List D → List D → Env → RE) → RE
  | .ok a b e, k => k a b e
  | .st, _ => .st
/-- raising is not served within -/
def RT.bdL : RT → (Bool → Env → RL) → RL
  | .ok b e, k => k b e
  | _, _ => .st
def RE.bdL : RE → (Fl → D → Env → RL) → RL
  | .ok f d e, k => k f d e
  | _, _ => .st
def RI.bdL : RI → (List D → List Nat → Env → RL) → RL
  | .ok a b e, k => k a b e
  | _, _ => .st
def RT.bdD : RT → (Bool → Env → RD) → RD
  | .ok b e, k => k b e
  | _, _ => .st
def RE.bdD : RE → (Fl → D → Env → RD) → RD
  | .ok f d e, k => k f d e
  | _, _ => .st
/-- a statement, then the rest -/
def RS.bd : RS → (Env → RS) → RS
  | .nx e, k => k e
  | r, _ => r
/-- a loop's turn, then the loop -/
def RS.lp : RS → (Env → RS) → RS
  | .nx e, k => k e
  | .ct e, k => k e
  | .bk e, _ => .nx e
  | r, _ => r
def RS.env (f : Env → Env) : RS → RS
  | .nx e => .nx (f e)
  | .rt o d e => .rt o d (f e)
  | .bk e => .bk (f e)
  | .ct e => .ct (f e)
  | .ex x e => .ex x (f e)
  | .st => .st
def onE {α : Type} : Option α → (α → RE) → RE
  | some a, k => k a
  | none, _ => .st
def onI {α : Type} : Option α → (α → RI) → RI
  | some a, k => k a
  | none, _ => .st
def onT {α : Type} : Option α → (α → RT) → RT
  | some a, k => k a
  | none, _ => .st
def onS {α : Type} : Option α → (α → RS) → RS
  | some a, k => k a
  | none, _ => .st
def onL {α : Type} : Option α → (α → RL) → RL
  | some a, k => k a
  | none, _ => .st
def onD {α : Type} : Option α → (α → RD) → RD
  | some a, k => k a
  | none, _ => .st
/-- a value to be stored -/
def keepE : Fl → (Bool → RE) → RE
  | .fr, k => k false
  | .ow, k => k true
  | .pl _, _ => .st
def keepS : Fl → (Bool → RS) → RS
  | .fr, k => k false
  | .ow, k => k true
  | .pl _, _ => .st
def keepL : Fl → RL → RL
  | .pl _, _ => .st
  | _, r => r
def keepD : Fl → RD → RD
  | .pl _, _ => .st
  | _, r => r

def RE.truth (r : RE) : RT := r.bdT fun f d e => onT ((late f d e).bind truthy) fun b => .ok b e
def lcGo (tgt : D → Env → Option Env) (tst : Env → RT) (elt : Env → RE) : List D → Env → List D → RL
  | [], e, acc => .ok acc e
  | d :: ds, e, acc => onL (tgt d e) fun e1 => (tst e1).bdL fun b e2 =>
      if b then (elt e2).bdL fun f x e3 => keepL f (if acc.length < sizeLine then lcGo tgt tst elt ds e3 (acc ++ [x]) else .st)
      else lcGo tgt tst elt ds e2 acc
/-- the outer clause: the inner walk -/
def lc2Go (tgt : D → Env → Option Env) (tst : Env → RT) (inner : Env → List D → RL) : List D → Env → List D → RL
  | [], e, acc => .ok acc e
  | d :: ds, e, acc => onL (tgt d e) fun e1 => (tst e1).bdL fun b e2 =>
      if b then (inner e2 acc).bdL fun acc' e3 => lc2Go tgt tst inner ds e3 acc' else lc2Go tgt tst inner ds e2 acc
def dcGo (tgt : D → Env → Option Env) (tst : Env → RT) (key val : Env → RE) : List D → Env → List D → List D → RD
  | [], e, ks, vs => .ok ks vs e
  | d :: ds, e, ks, vs => onD (tgt d e) fun e1 => (tst e1).bdD fun b e2 =>
      if b then (key e2).bdD fun fk k e3 => keepD fk ((val e3).bdD fun fv v e4 => keepD fv
        (if keyOk k ks && decide (ks.length < sizeLine) then dcGo tgt tst key val ds e4 (dPut k v ks vs).1 (dPut k v ks vs).2 else .st))
      else dcGo tgt tst key val ds e2 ks vs
/-- a changing method: the new object, the value -/
def muD : Mu → D → List D → Option (D × D)
  | .append, .lst ds, [x] => if ds.length < sizeLine then some (.lst (ds ++ [x]), .non) else none
  | .extend, .lst ds, [.lst xs] => if ds.length + xs.length ≤ sizeLine then some (.lst (ds ++ xs), .non) else none
  | .pop, .lst ds, [] => (ds[ds.length - 1]?).map fun y => (.lst ds.dropLast, y)
  | .popAt, .lst ds, [.int i] => if decide (0 ≤ i) && decide (i < 2 ^ 62) then (ds[i.toNat]?).map fun y => (.lst (ds.eraseIdx i.toNat), y) else none
  | .insert, .lst ds, [.int i, x] => if decide (0 ≤ i) && decide (i.toNat ≤ ds.length) && decide (ds.length < sizeLine) then some (.lst (ds.take i.toNat ++ x :: ds.drop i.toNat), .non) else none
  | .reverse, .lst ds, [] => some (.lst ds.reverse, .non)
  | .remove, .lst ds, [x] => if x.pl && decide (x.dep ≤ 60) && ds.all (·.pl) then (idxOf x ds).map fun n => (.lst (ds.eraseIdx n), .non) else none
  | .setdefault, .dct ks vs, [k, v] => if keyOk k ks && decide (ks.length < sizeLine) then (match dGet k ks vs with
    | some w => some (.dct ks vs, w)
    | none => some (.dct (ks ++ [k]) (vs ++ [v]), v)) else none
  | _, _, _ => none
/-- x[k] = v -/
def setD : D → D → D → Option D
  | .lst ds, .int i, v => (ixN ds.length i).map fun j => .lst (ds.set j v)
  | .dct ks vs, k, v => if keyOk k ks && decide (ks.length < sizeLine) then some (.dct (dPut k v ks vs).1 (dPut k v ks vs).2) else none
  | _, _, _ => none
def delD : D → D → Option D
  | .dct ks vs, k => if keyOk k ks && dHas k ks then some (.dct (ks.erase k) (dDelV k ks vs)) else none
  | _, _ => none
def getD3 : D → D → D → Option D
  | .dct ks vs, b, c => if keyOk b ks then some ((dGet b ks vs).getD c) else none
  | _, _, _ => none
def muIsDict : Mu → Bool
  | .setdefault => true
  | _ => false
def slotFits (m : Mu) : Sl → Bool
  | .ow (.lst _) => !muIsDict m
  | .ow (.dct _ _) => muIsDict m
  | _ => false
def owOf : Sl → Option D
  | .ow d => some d
  | _ => none
def frOf : Sl → Option D
  | .fr d => some d
  | _ => none
def lockOf : Fl → List Nat
  | .pl i => [i]
  | _ => []
def varE (i : Nat) (e : Env) : Sl → RE
  | .fr d => .ok .fr d e
  | .ow d => .ok .fr d (setS e i (.fr d))
  | _ => .st
def lockAll (ls : List Nat) (e : Env) : Env := ls.foldl lockS e
/-- the locks that e's own slots asked for are taken off -/
def unlockAll (ls : List Nat) (e0 e : Env) : Env := (ls.filter fun i => isOw (getS e0 i)).foldl unlockS e
def primE (e : Env) (r : Option (Bool × D)) : RE := onE r fun q => .ok (flOf q.1) q.2 e
def storedE (vs : List (Fl × D)) (k : List D → RE) : RE := onE (PF.stored vs) k
def callE (vs : List (Fl × D)) (e : Env) (r : FR) : RE := match r with
  | .ok o d outs => onE (back vs outs e) fun e2 => .ok (flOf o) d e2
  | .ex x outs => onE (back vs outs e) fun e2 => .ex x e2
  | .st => .st
def muE (m : Mu) (i : Nat) (e : Env) (ds : List D) : RE := onE (owOf (getS e i)) fun d => onE (muD m d ds) fun q => .ok .fr q.2 (setS e i (.ow q.1))
def boolE (r : Option D) (k : Bool → RE) : RE := match r with
  | some (.bl b) => k b
  | _ => .st
def intE (r : Option D) (k : Int → RE) : RE := match r with
  | some (.int i) => k i
  | _ => .st
def seqI (f : Fl) (e : Env) : Option D → RI
  | some (.lst ds) => .ok ds (lockOf f) e
  | some (.tup ds) => .ok ds [] e
  | some (.dct ks _) => .ok ks (lockOf f) e
  | some (.str s) => .ok (s.cps.toList.map fun c => .str ⟨#[c]⟩) [] e
  | _ => .st
def rng1I (e : Env) : Option D → RI
  | some (.int j) => if decide (-(2 ^ 62) ≤ j) && decide (j < 2 ^ 62) then .ok ((List.range j.toNat).map fun (k : Nat) => D.int (k : Int)) [] e else .st
  | _ => .st
def rng2I (e : Env) : Option (List D) → RI
  | some [.int i, .int j] => if decide (-(2 ^ 62) ≤ i) && decide (i < 2 ^ 62) && decide (-(2 ^ 62) ≤ j) && decide (j < 2 ^ 62) then .ok ((List.range (j - i).toNat).map fun (k : Nat) => D.int (i + (k : Int))) [] e else .st
  | _ => .st
def zipD (xs ys : List D) : List D := List.zipWith (fun u v => .tup [u, v]) xs ys
def zipI (ls : List Nat) (e : Env) : Option (List D) → RI
  | some [.lst xs, .lst ys] => .ok (zipD xs ys) ls e
  | some [.tup xs, .tup ys] => .ok (zipD xs ys) [] e
  | _ => .st
def enumD (xs : List D) : List D := List.zipWith (fun (k : Nat) v => .tup [.int (k : Int), v]) (List.range xs.length) xs
def enumI (f : Fl) (e : Env) : Option D → RI
  | some (.lst xs) => .ok (enumD xs) (lockOf f) e
  | _ => .st
def itemsI (f : Fl) (e : Env) : Option D → RI
  | some (.dct ks vs) => .ok (List.zipWith (fun k v => .tup [k, v]) ks vs) (lockOf f) e
  | _ => .st
def getE (vs : List (Fl × D)) (e : Env) : RE := match vs with
  | [(f1, d1), (f2, d2), (f3, d3)] => keepE f3 fun _ => onE (late f1 d1 e) fun a => onE (late f2 d2 e) fun b => onE (getD3 a b d3) fun r => .ok .fr r e
  | _ => .st
def glE (e : Env) (r : Option D) : RE := onE r fun d => .ok .fr d e

section
variable (Φ : Str → List Sl → FR) (γ : Str → Option D)
mutual
def ev : E → Env → RE
  | .var i, e => varE i e (getS e i)
  | .pk i, e => onE (getS e i).d? fun d => .ok (.pl i) d e
  | .lit d, e => .ok .fr d e
  | .gl x, e => glE e (γ x)
  | .tup es, e => (evs es e).bd fun vs e1 => storedE vs fun ds => if ds.length ≤ sizeLine then .ok .fr (.tup ds) e1 else .st
  | .lst es, e => (evs es e).bd fun vs e1 => storedE vs fun ds => if ds.length ≤ sizeLine then .ok .ow (.lst ds) e1 else .st
  | .dnew, e => .ok .ow (.dct [] []) e
  | .op p es, e => (evs es e).bd fun vs e1 => onE (lates vs e1) fun ds => primE e1 (prim p ds)
  | .sl a b c, e => (ev a e).bd fun fa da e1 => (ev b e1).bd fun fb db e2 => intE (late fb db e2) fun i => (ev c e2).bd fun fc dc e3 => intE (late fc dc e3) fun j => onE (late fa da e3) fun x => primE e3 (cutD x (some i) (some j))
  | .boo c es, e => evB c es e
  | .not_ a, e => (ev a e).bd fun f d e1 => boolE (late f d e1) fun b => .ok .fr (.bl (!b)) e1
  | .ife c a b, e => (ev c e).truth.bd fun t e1 => if t then ev a e1 else ev b e1
  | .get es, e => (evs es e).bd getE
  | .call f es, e => (evs es e).bd fun vs e1 => if nodupN (places vs) then callE vs e1 (Φ f (lend vs e1)) else .st
  | .mu m i es, e => if slotFits m (getS e i) then (evs es e).bd fun vs e1 => storedE vs fun ds => muE m i e1 ds else .st
  | .lc vs t it ifs elt, e => (evI it e).bd fun ds ls e1 =>
      (lcGo (asgW vs t) (evTs ifs) (ev elt) ds (lockAll ls e1) []).bd fun acc e2 => .ok .ow (.lst acc) (unlockAll ls e1 (restS e2 (lockAll ls e1) vs))
  | .lc2 vs t it ifs t2 it2 ifs2 elt, e => (evI it e).bd fun ds ls e1 =>
      (lc2Go (asgW vs t) (evTs ifs) (fun e3 acc => (evI it2 e3).bdL fun ds2 ls2 e4 =>
          (lcGo (asgW (tvars t2) t2) (evTs ifs2) (ev elt) ds2 (lockAll ls2 e4) acc).bdL fun acc' e5 => .ok acc' (unlockAll ls2 e4 e5)) ds (lockAll ls e1) []).bd
        fun acc e2 => .ok .ow (.lst acc) (unlockAll ls e1 (restS e2 (lockAll ls e1) vs))
  | .dc vs t it ifs k v, e => (evI it e).bd fun ds ls e1 =>
      (dcGo (asgW vs t) (evTs ifs) (ev k) (ev v) ds (lockAll ls e1) [] []).bd fun ks ws e2 => .ok .ow (.dct ks ws) (unlockAll ls e1 (restS e2 (lockAll ls e1) vs))
def evs : List E → Env → REs
  | [], e => .ok [] e
  | a :: r, e => (ev a e).bds fun f d e1 => (evs r e1).bds fun vs e2 => .ok ((f, d) :: vs) e2
/-- and, or as values: all but the last True or False -/
def evB : Bool → List E → Env → RE
  | _, [], _ => .st
  | c, a :: r, e => match r with
    | [] => ev a e
    | _ :: _ => (ev a e).bd fun f d e1 => boolE (late f d e1) fun b => if b = c then evB c r e1 else .ok .fr (.bl b) e1
/-- a clause's tests -/
def evTs : List E → Env → RT
  | [], e => .ok true e
  | a :: r, e => match r with
    | [] => (ev a e).truth
    | _ :: _ => .st
def evI : It → Env → RI
  | .seq a, e => (ev a e).bdI fun f d e1 => seqI f e1 (late f d e1)
  | .rng1 a, e => (ev a e).bdI fun f d e1 => rng1I e1 (late f d e1)
  | .rng2 es, e => (evs es e).bdI fun vs e1 => rng2I e1 (lates vs e1)
  | .zip es, e => (evs es e).bdI fun vs e1 => zipI (places vs) e1 (lates vs e1)
  | .enum a, e => (ev a e).bdI fun f d e1 => enumI f e1 (late f d e1)
  | .items a, e => (ev a e).bdI fun f d e1 => itemsI f e1 (late f d e1)
end
/-- a test -/
def evT (m : E) (e : Env) : RT := (ev Φ γ m e).truth

def forGo (tgt : D → Env → Option Env) (body : Env → RS) : List D → Env → RS
  | [], e => .nx e
  | d :: ds, e => onS (tgt d e) fun e1 => (body e1).lp fun e2 => forGo tgt body ds e2
def whlGo (tst : Env → RT) (body : Env → RS) : Nat → Env → RS
  | 0, _ => .st
  | n + 1, e => (tst e).bdS fun b e1 => if b then (body e1).lp fun e2 => whlGo tst body n e2 else .nx e1
/-- the turns that a while may take -/
def turnsMost : Nat := 2 ^ 40
def slOf (o : Bool) (d : D) : Sl := if o then .ow d else .fr d
/-- a key at a place is read late only where the object is a list -/
def keyFl : Fl → D → Bool
  | .fr, _ => true
  | _, .lst _ => true
  | _, _ => false
def setIS (i : Nat) (d : D) (fk : Fl) (dk : D) (e : Env) : RS := onS (late fk dk e) fun k => onS (owOf (getS e i)) fun x => if keyFl fk x then onS (setD x k d) fun x' => .nx (setS e i (.ow x')) else .st
def delIS (i : Nat) (fk : Fl) (dk : D) (e : Env) : RS := onS (late fk dk e) fun k => onS (owOf (getS e i)) fun x => onS (delD x k) fun x' => .nx (setS e i (.ow x'))
def augS (i : Nat) (e : Env) : Option (Bool × D) → RS
  | some (false, .int n) => .nx (setS e i (.fr (.int n)))
  | _ => .st
def retVS (i : Nat) (e : Env) : Sl → RS
  | .fr d => .rt false d e
  | .ow d => .rt true d (setS e i .non)
  | _ => .st
def frzS (i : Nat) (e : Env) : Sl → RS
  | .fr _ => .nx e
  | .ow d => .nx (setS e i (.fr d))
  | _ => .st
mutual
def exec : S → Env → RS
  | .asg i a, e => (ev Φ γ a e).bdS fun f d e1 => keepS f fun o => .nx (setS e1 i (slOf o d))
  | .asgT t a, e => (ev Φ γ a e).bdS fun f d e1 => keepS f fun _ => onS (asgT t d e1) fun e2 => .nx e2
  | .setI i k a, e => (ev Φ γ a e).bdS fun f d e1 => keepS f fun _ => onS (owOf (getS e1 i)) fun _ => (ev Φ γ k e1).bdS fun fk dk e2 => setIS i d fk dk e2
  | .delI i k, e => (ev Φ γ k e).bdS fun fk dk e2 => delIS i fk dk e2
  | .aug i p a, e => onS (frOf (getS e i)) fun d0 => (ev Φ γ a e).bdS fun f d e1 => onS (late f d e1) fun d1 => augS i e1 (prim p [d0, d1])
  | .ex a, e => (ev Φ γ a e).bdS fun _ _ e1 => .nx e1
  | .ret a, e => (ev Φ γ a e).bdS fun f d e1 => keepS f fun o => .rt o d e1
  | .retV i, e => retVS i e (getS e i)
  | .retN, e => .rt false .non e
  | .iff c a b, e => (evT Φ γ c e).bdS fun t e1 => if t then execs a e1 else execs b e1
  | .for_ t it b, e => (evI Φ γ it e).bdS fun ds ls e1 => (forGo (asgT t) (execs b) ds (lockAll ls e1)).env (unlockAll ls e1)
  | .whl c b, e => whlGo (evT Φ γ c) (execs b) turnsMost e
  | .brk, e => .bk e
  | .cnt, e => .ct e
  | .pas, e => .nx e
  | .frz i, e => frzS i e (getS e i)
def execs : List S → Env → RS
  | [], e => .nx e
  | s :: r, e => (exec s e).bd (execs r)
end
end

/-- a def: how many parameters, how many names, the parameters that are lent, the body -/
structure Fn where
  ps : Nat
  n : Nat
  refs : List Nat
  body : List S
def outsFrom (refs : List Nat) : Nat → Nat → Env → List Sl
  | _, 0, _ => []
  | j, n + 1, e => (if refs.contains j then getS e j else .non) :: outsFrom refs (j + 1) n e
def outsOf (refs : List Nat) (ps : Nat) (e : Env) : List Sl := outsFrom refs 0 ps e
/-- lent slots that were owned are owned still -/
def keptO (refs : List Nat) (as e : Env) : Bool := refs.all fun j => !isOwn (getS as j) || isOwn (getS e j)
def RS.out (refs : List Nat) (ps : Nat) (as : List Sl) : RS → FR
  | .nx e => .ok false .non (outsOf refs ps e)
  | .rt o d e => .ok (o && keptO refs as e) d (outsOf refs ps e)
  | .ex x e => .ex x (outsOf refs ps e)
  | _ => .st
/-- only what is lent may be owned -/
def argsOk (refs : List Nat) : Nat → List Sl → Bool
  | _, [] => true
  | j, s :: r => (refs.contains j || !isOwn s) && argsOk refs (j + 1) r
def Fn.run (f : Fn) (Φ : Str → List Sl → FR) (γ : Str → Option D) (as : List Sl) : FR :=
  if decide (as.length = f.ps) && argsOk f.refs 0 as then (execs Φ γ f.body (as ++ List.replicate (f.n - f.ps) .non)).out f.refs f.ps as else .st
/-- the program's defs, k calls deep -/
def run (tab : Str → Option Fn) (γ : Str → Option D) : Nat → Str → List Sl → FR
  | 0, _, _ => .st
  | k + 1, f, as => match tab f with
    | some fn => fn.run (run tab γ k) γ as
    | none => .st
end PF
set_option Elab.async false
set_option linter.all false
set_option maxRecDepth 100000
/-! PF1: what a plain value is in the abstract heap. -/
namespace PF
open PySem PySem.Spec PyProof.Rows L2

/-- the ground: program, world, the written part -/
structure Gp where
  P : Program
  w : World
  K : PySem.W.Frag
  /-- how an exception lies -/
  ex : (Addr → Prop) → Hp → Exn → Value → Option Addr → Prop

mutual
def nk : D → NestedKey
  | .int i => .num i
  | .str s => .text s
  | .tup ds => .tup (nks ds)
  | .non => .none
  | .bl _ => .none
  | .lst _ => .none
  | .dct _ _ => .none
  | .ins _ _ _ => .none
def nks : List D → List NestedKey
  | [] => []
  | d :: ds => nk d :: nks ds
end
/-- a dict whose keys are tuples, with its entries -/
def dN (G : Gp) (a : Addr) (xs : List (NestedKey × Addr × Value)) : HO :=
  .ext fun h => ∃ o es ep, h.get? a = some o ∧ o.ExactDict ∧ o.data = .dict es ep ∧ es.toList = xs.map (entryOfKey (nestedKind G.P G.w)) ∧ (xs.map (·.1)).Nodup ∧ (a == sysModules) = false ∧ xs.length ≤ sizeLine
/-- dicts are served -/
def dctOn : Bool := false
def DHolds (G : Gp) (H : Hp) (a : Addr) (ks : List D) (kx vx : List V) : Prop :=
  dctOn = true ∧ ((∃ kvs : List (Key × V), H a = some (.dK kvs) ∧ kx = kvs.map (fun p => kV p.1) ∧ vx = kvs.map (·.2) ∧ ks.all keyLeaf = true) ∨
  (∃ xs : List (NestedKey × Addr × Value), H a = some (dN G a xs) ∧ kx = xs.map (fun x => V.ref x.2.1) ∧ Vals vx (xs.map (·.2.2)) ∧ ks.all keyTup = true ∧ nks ks = xs.map (·.1)))

section
variable (G : Gp)
mutual
/-- a shared value -/
def relF (F : Addr → Prop) (H : Hp) : D → V → Prop
  | .non, v => v = .non
  | .bl b, v => v = .bl b
  | .int i, v => v = .int i
  | .str s, v => v = .str s
  | .tup ds, v => ∃ a xs, v = .ref a ∧ SqT G.K H a xs ∧ relFs F H ds xs
  | .lst ds, v => ∃ a xs, v = .ref a ∧ F a ∧ Rd H a (.lst xs) ∧ relFs F H ds xs
  | .dct ks vs, v => ∃ a kx vx, v = .ref a ∧ F a ∧ DHolds G H a ks kx vx ∧ relFs F H ks kx ∧ relFs F H vs vx
  | .ins _ _ _, _ => False
def relFs (F : Addr → Prop) (H : Hp) : List D → List V → Prop
  | [], xs => xs = []
  | d :: ds, xs => ∃ x r, xs = x :: r ∧ relF F H d x ∧ relFs F H ds r
end
/-- the object of an owned value -/
def relO (F : Addr → Prop) (H : Hp) : D → Addr → Prop
  | .lst ds, a => ∃ xs, H a = some (.lst xs) ∧ relFs G F H ds xs
  | .dct ks vs, a => ∃ kx vx, DHolds G H a ks kx vx ∧ relFs G F H ks kx ∧ relFs G F H vs vx
  | _, _ => False
/-- readable: shared, or owned at the root -/
def relR (F : Addr → Prop) (H : Hp) : D → V → Prop
  | .lst ds, v => ∃ a xs, v = .ref a ∧ Rd H a (.lst xs) ∧ relFs G F H ds xs
  | .dct ks vs, v => ∃ a kx vx, v = .ref a ∧ DHolds G H a ks kx vx ∧ relFs G F H ks kx ∧ relFs G F H vs vx
  | d, v => relF G F H d v
end

section
variable {G : Gp} {F F' : Addr → Prop} {H H' : Hp} {M : Addr → Prop}
theorem relFs_length : ∀ {ds : List D} {xs : List V}, relFs G F H ds xs → xs.length = ds.length
  | [], xs, h => by simp only [relFs] at h; rw [h]; rfl
  | d :: ds, xs, h => by
    simp only [relFs] at h
    obtain ⟨x, r, rfl, _, h2⟩ := h
    rw [List.length_cons, List.length_cons, relFs_length h2]
theorem relFs_get : ∀ {ds : List D} {xs : List V} {i : Nat} {d : D}, relFs G F H ds xs → ds[i]? = some d → ∃ x, xs[i]? = some x ∧ relF G F H d x
  | [], _, _, _, _, e => by simp at e
  | d :: ds, xs, 0, _, h, e => by
    simp only [relFs] at h
    obtain ⟨x, r, rfl, h1, _⟩ := h
    simp at e; subst e
    exact ⟨x, rfl, h1⟩
  | d :: ds, xs, i + 1, _, h, e => by
    simp only [relFs] at h
    obtain ⟨x, r, rfl, _, h2⟩ := h
    obtain ⟨y, e1, e2⟩ := relFs_get (i := i) h2 (by simpa using e)
    exact ⟨y, by simpa using e1, e2⟩
theorem relFs_get' {ds : List D} {xs : List V} {i : Nat} {x : V} (h : relFs G F H ds xs) (e : xs[i]? = some x) : ∃ d, ds[i]? = some d ∧ relF G F H d x := by
  have hl := relFs_length h
  have hi : i < ds.length := by rw [← hl]; exact (List.getElem?_eq_some_iff.mp e).1
  obtain ⟨y, e1, r⟩ := relFs_get h (List.getElem?_eq_getElem hi)
  rw [e] at e1; cases e1
  exact ⟨_, List.getElem?_eq_getElem hi, r⟩
theorem relFs_append : ∀ {ds es : List D} {xs ys : List V}, relFs G F H ds xs → relFs G F H es ys → relFs G F H (ds ++ es) (xs ++ ys)
  | [], es, xs, ys, h, k => by simp only [relFs] at h; subst h; exact k
  | d :: ds, es, xs, ys, h, k => by
    simp only [relFs] at h
    obtain ⟨x, r, rfl, h1, h2⟩ := h
    simp only [List.cons_append, relFs]
    exact ⟨x, _, rfl, h1, relFs_append h2 k⟩
theorem relFs_of_get : ∀ {ds : List D} {xs : List V}, xs.length = ds.length → (∀ (i : Nat) d x, ds[i]? = some d → xs[i]? = some x → relF G F H d x) → relFs G F H ds xs
  | [], xs, hl, _ => by simp only [relFs]; exact List.length_eq_zero_iff.mp hl
  | d :: ds, [], hl, _ => by simp at hl
  | d :: ds, x :: xs, hl, h => by
    simp only [relFs]
    exact ⟨x, xs, rfl, h 0 d x rfl rfl, relFs_of_get (by simpa using hl) fun i e y h1 h2 => h (i + 1) e y (by simpa using h1) (by simpa using h2)⟩
theorem relFs_take {ds : List D} {xs : List V} (n : Nat) (h : relFs G F H ds xs) : relFs G F H (ds.take n) (xs.take n) := by
  have hl := relFs_length h
  refine relFs_of_get (by simp [hl]) fun i d x e1 e2 => ?_
  rw [List.getElem?_take] at e1 e2
  split at e1
  · rename_i hi
    rw [if_pos hi] at e2
    obtain ⟨y, e3, r⟩ := relFs_get h e1
    rw [e2] at e3; cases e3; exact r
  · cases e1
theorem relFs_drop {ds : List D} {xs : List V} (n : Nat) (h : relFs G F H ds xs) : relFs G F H (ds.drop n) (xs.drop n) := by
  have hl := relFs_length h
  refine relFs_of_get (by simp [hl]) fun i d x e1 e2 => ?_
  rw [List.getElem?_drop] at e1 e2
  obtain ⟨y, e3, r⟩ := relFs_get h e1
  rw [e2] at e3; cases e3; exact r
theorem relFs_set {ds : List D} {xs : List V} {d : D} {x : V} (i : Nat) (h : relFs G F H ds xs) (r : relF G F H d x) : relFs G F H (ds.set i d) (xs.set i x) := by
  have hl := relFs_length h
  refine relFs_of_get (by simp [hl]) fun j e y e1 e2 => ?_
  by_cases hj : i = j
  · subst hj
    by_cases hi : i < ds.length
    · rw [List.getElem?_set_self hi] at e1
      rw [List.getElem?_set_self (by rw [hl]; exact hi)] at e2
      cases e1; cases e2; exact r
    · rw [List.getElem?_eq_none (by simpa using hi)] at e1; cases e1
  · rw [List.getElem?_set_ne hj] at e1 e2
    obtain ⟨z, e3, q⟩ := relFs_get h e1
    rw [e2] at e3; cases e3; exact q
theorem relFs_reverse : ∀ {ds : List D} {xs : List V}, relFs G F H ds xs → relFs G F H ds.reverse xs.reverse
  | [], xs, h => by simp only [relFs] at h; subst h; simp [relFs]
  | d :: ds, xs, h => by
    simp only [relFs] at h
    obtain ⟨x, r, rfl, h1, h2⟩ := h
    rw [List.reverse_cons, List.reverse_cons]
    exact relFs_append (relFs_reverse h2) (by simp only [relFs]; exact ⟨x, [], rfl, h1, rfl⟩)
theorem relFs_dropLast {ds : List D} {xs : List V} (h : relFs G F H ds xs) : relFs G F H ds.dropLast xs.dropLast := by
  rw [List.dropLast_eq_take, List.dropLast_eq_take, relFs_length h]
  exact relFs_take _ h
theorem relFs_eraseIdx {ds : List D} {xs : List V} (i : Nat) (h : relFs G F H ds xs) : relFs G F H (ds.eraseIdx i) (xs.eraseIdx i) := by
  rw [List.eraseIdx_eq_take_drop_succ, List.eraseIdx_eq_take_drop_succ]
  exact relFs_append (relFs_take _ h) (relFs_drop _ h)
theorem relFs_rep {ds : List D} {xs : List V} (h : relFs G F H ds xs) : ∀ n : Nat, relFs G F H (List.replicate n ds).flatten (List.replicate n xs).flatten
  | 0 => by simp [relFs]
  | n + 1 => by
    rw [List.replicate_succ, List.replicate_succ, List.flatten_cons, List.flatten_cons]
    exact relFs_append h (relFs_rep h n)

/-- what may change: only at M; what is told stays -/
structure Ext (M F : Addr → Prop) (H : Hp) (F' : Addr → Prop) (H' : Hp) : Prop where
  frm : ∀ a o, H a = some o → ¬ M a → H' a = some o
  alive : ∀ a, H' a = none → H a = none
  fF : ∀ a, F a → F' a
  new : ∀ a, F' a → F a ∨ M a ∨ H a = none
theorem Ext.refl {M : Addr → Prop} : Ext M F H F H := ⟨fun _ _ e _ => e, fun _ e => e, fun _ e => e, fun _ e => .inl e⟩
theorem Ext.trans {M M1 F1 F2 : Addr → Prop} {H1 H2 : Hp} (a : Ext M F H F1 H1) (b : Ext M1 F1 H1 F2 H2) (hM : ∀ x, M1 x → M x ∨ H x = none) : Ext M F H F2 H2 where
  frm := fun x o e n => b.frm x o (a.frm x o e n) fun m => by
    rcases hM x m with h | h
    · exact n h
    · rw [e] at h; cases h
  alive := fun x e => a.alive x (b.alive x e)
  fF := fun x h => b.fF x (a.fF x h)
  new := fun x h => by
    rcases b.new x h with h | h | h
    · exact a.new x h
    · rcases hM x h with h | h
      · exact .inr (.inl h)
      · exact .inr (.inr h)
    · exact .inr (.inr (a.alive x h))
theorem Ext.weak {M M' : Addr → Prop} (a : Ext M F H F' H') (h : ∀ x, M x → M' x) : Ext M' F H F' H' :=
  ⟨fun x o e n => a.frm x o e fun m => n (h x m), a.alive, a.fF, fun x f => (a.new x f).elim .inl fun q => .inr (q.elim (fun m => .inl (h x m)) .inr)⟩
/-- a new object -/
theorem Ext.newO {M : Addr → Prop} {p : Addr} {o : HO} (h : H p = none) : Ext M F H F (upd H p o) :=
  ⟨fun a u e _ => by rw [upd_ne (ne_of_none e h)]; exact e, fun a e => by
    by_cases ha : a = p
    · subst ha; exact h
    · rw [upd_ne ha] at e; exact e, fun _ e => e, fun _ e => .inl e⟩
/-- M is apart from what is shared -/
def Apart (M F : Addr → Prop) (H : Hp) : Prop := ∀ a, M a → ¬ F a ∧ (∀ xs, H a ≠ some (.tup xs)) ∧ ∀ o u, H a ≠ some (.frz o u)
theorem SqT_ext {a : Addr} {xs : List V} (E : Ext M F H F' H') (ap : Apart M F H) (h : SqT G.K H a xs) : SqT G.K H' a xs := by
  rcases h with (h | ⟨o, h⟩) | h
  · exact .inl (.inl (E.frm a _ h fun m => (ap a m).2.1 _ h))
  · exact .inl (.inr ⟨o, E.frm a _ h fun m => (ap a m).2.2 _ _ h⟩)
  · exact .inr h
theorem Rd_ext {a : Addr} {u : HO} (E : Ext M F H F' H') (n : ¬ M a) (h : Rd H a u) : Rd H' a u := by
  rcases h with h | ⟨o, h⟩
  · exact .inl (E.frm a _ h n)
  · exact .inr ⟨o, E.frm a _ h n⟩
theorem DHolds_off {a : Addr} {ks : List D} {kx vx : List V} (h : DHolds G H a ks kx vx) : False := by
  have := h.1
  exact absurd this (by decide)
theorem relR_dct {ks vs : List D} {v : V} (h : relR G F H (.dct ks vs) v) : False := by
  obtain ⟨a, kx, vx, _, h1, _⟩ := (show ∃ a kx vx, v = V.ref a ∧ DHolds G H a ks kx vx ∧ _ from h)
  exact DHolds_off h1
theorem DHolds_ext {a : Addr} {ks : List D} {kx vx : List V} (E : Ext M F H F' H') (n : ¬ M a) (h : DHolds G H a ks kx vx) : DHolds G H' a ks kx vx := by
  rcases h with ⟨on, ⟨kvs, h, r⟩ | ⟨xs, h, r⟩⟩
  · exact ⟨on, .inl ⟨kvs, E.frm a _ h n, r⟩⟩
  · exact ⟨on, .inr ⟨xs, E.frm a _ h n, r⟩⟩
mutual
theorem relF_ext (E : Ext M F H F' H') (ap : Apart M F H) : ∀ (d : D) (v : V), relF G F H d v → relF G F' H' d v
  | .non, v, h => by simp only [relF] at h ⊢; exact h
  | .bl b, v, h => by simp only [relF] at h ⊢; exact h
  | .int i, v, h => by simp only [relF] at h ⊢; exact h
  | .str s, v, h => by simp only [relF] at h ⊢; exact h
  | .tup ds, v, h => by
    simp only [relF] at h ⊢
    obtain ⟨a, xs, e, h1, h2⟩ := h
    exact ⟨a, xs, e, SqT_ext E ap h1, relFs_ext E ap ds xs h2⟩
  | .lst ds, v, h => by
    simp only [relF] at h ⊢
    obtain ⟨a, xs, e, hF, h1, h2⟩ := h
    exact ⟨a, xs, e, E.fF a hF, Rd_ext E (fun m => (ap a m).1 hF) h1, relFs_ext E ap ds xs h2⟩
  | .dct ks vs, v, h => by
    simp only [relF] at h ⊢
    obtain ⟨a, kx, vx, e, hF, h1, h2, h3⟩ := h
    exact ⟨a, kx, vx, e, E.fF a hF, DHolds_ext E (fun m => (ap a m).1 hF) h1, relFs_ext E ap ks kx h2, relFs_ext E ap vs vx h3⟩
  | .ins c ns vs, v, h => by simp only [relF] at h
theorem relFs_ext (E : Ext M F H F' H') (ap : Apart M F H) : ∀ (ds : List D) (xs : List V), relFs G F H ds xs → relFs G F' H' ds xs
  | [], xs, h => by simp only [relFs] at h ⊢; exact h
  | d :: ds, xs, h => by
    simp only [relFs] at h ⊢
    obtain ⟨x, r, e, h1, h2⟩ := h
    exact ⟨x, r, e, relF_ext E ap d x h1, relFs_ext E ap ds r h2⟩
end
mutual
/-- more is shared -/
theorem relF_sub (h' : ∀ a, F a → F' a) : ∀ (d : D) (v : V), relF G F H d v → relF G F' H d v
  | .non, v, h => by simp only [relF] at h ⊢; exact h
  | .bl b, v, h => by simp only [relF] at h ⊢; exact h
  | .int i, v, h => by simp only [relF] at h ⊢; exact h
  | .str s, v, h => by simp only [relF] at h ⊢; exact h
  | .tup ds, v, h => by
    simp only [relF] at h ⊢
    obtain ⟨a, xs, e, h1, h2⟩ := h
    exact ⟨a, xs, e, h1, relFs_sub h' ds xs h2⟩
  | .lst ds, v, h => by
    simp only [relF] at h ⊢
    obtain ⟨a, xs, e, hF, h1, h2⟩ := h
    exact ⟨a, xs, e, h' a hF, h1, relFs_sub h' ds xs h2⟩
  | .dct ks vs, v, h => by
    simp only [relF] at h ⊢
    obtain ⟨a, kx, vx, e, hF, h1, h2, h3⟩ := h
    exact ⟨a, kx, vx, e, h' a hF, h1, relFs_sub h' ks kx h2, relFs_sub h' vs vx h3⟩
  | .ins c ns vs, v, h => by simp only [relF] at h
theorem relFs_sub (h' : ∀ a, F a → F' a) : ∀ (ds : List D) (xs : List V), relFs G F H ds xs → relFs G F' H ds xs
  | [], xs, h => by simp only [relFs] at h ⊢; exact h
  | d :: ds, xs, h => by
    simp only [relFs] at h ⊢
    obtain ⟨x, r, e, h1, h2⟩ := h
    exact ⟨x, r, e, relF_sub h' d x h1, relFs_sub h' ds r h2⟩
end
theorem relO_sub {d : D} {a : Addr} (h' : ∀ a, F a → F' a) (h : relO G F H d a) : relO G F' H d a := by
  cases d with
  | lst ds =>
    obtain ⟨xs, h1, h2⟩ := h
    exact ⟨xs, h1, relFs_sub h' _ _ h2⟩
  | dct ks vs =>
    obtain ⟨kx, vx, h1, h2, h3⟩ := h
    exact ⟨kx, vx, h1, relFs_sub h' _ _ h2, relFs_sub h' _ _ h3⟩
  | _ => exact h.elim
theorem relO_ext {d : D} {a : Addr} (E : Ext M F H F' H') (ap : Apart M F H) (n : ¬ M a) (h : relO G F H d a) : relO G F' H' d a := by
  cases d with
  | lst ds =>
    obtain ⟨xs, h1, h2⟩ := h
    exact ⟨xs, E.frm a _ h1 n, relFs_ext E ap _ _ h2⟩
  | dct ks vs =>
    obtain ⟨kx, vx, h1, h2, h3⟩ := h
    exact ⟨kx, vx, DHolds_ext E n h1, relFs_ext E ap _ _ h2, relFs_ext E ap _ _ h3⟩
  | _ => exact h.elim
theorem relR_of_relF {d : D} {v : V} (h : relF G F H d v) : relR G F H d v := by
  cases d with
  | lst ds =>
    simp only [relF] at h
    obtain ⟨a, xs, e, _, h1, h2⟩ := h
    exact ⟨a, xs, e, h1, h2⟩
  | dct ks vs =>
    simp only [relF] at h
    obtain ⟨a, kx, vx, e, _, h1, h2⟩ := h
    exact ⟨a, kx, vx, e, h1, h2⟩
  | _ => exact h
theorem relR_of_relO {d : D} {a : Addr} (h : relO G F H d a) : relR G F H d (.ref a) := by
  cases d with
  | lst ds =>
    obtain ⟨xs, h1, h2⟩ := h
    exact ⟨a, xs, rfl, .inl h1, h2⟩
  | dct ks vs =>
    obtain ⟨kx, vx, h1, h2⟩ := h
    exact ⟨a, kx, vx, rfl, h1, h2⟩
  | _ => exact h.elim
/-- frozen: its address becomes shared -/
theorem relF_of_relO {d : D} {a : Addr} (h : relO G F H d a) (hF : F a) : relF G F H d (.ref a) := by
  cases d with
  | lst ds =>
    obtain ⟨xs, h1, h2⟩ := h
    simp only [relF]
    exact ⟨a, xs, rfl, hF, .inl h1, h2⟩
  | dct ks vs =>
    obtain ⟨kx, vx, h1, h2⟩ := h
    simp only [relF]
    exact ⟨a, kx, vx, rfl, hF, h1, h2⟩
  | _ => exact h.elim
theorem DHolds_there {a : Addr} {ks : List D} {kx vx : List V} (h : DHolds G H a ks kx vx) : (∃ o, H a = some o) ∧ (∀ xs, H a ≠ some (.tup xs)) ∧ ∀ o u, H a ≠ some (.frz o u) := by
  rcases h with ⟨_, ⟨kvs, h, _⟩ | ⟨xs, h, _⟩⟩
  · exact ⟨⟨_, h⟩, fun _ e => (by rw [h] at e; injection e with e; cases e), fun _ _ e => (by rw [h] at e; injection e with e; cases e)⟩
  · exact ⟨⟨_, h⟩, fun _ e => (by rw [h] at e; injection e with e; cases e), fun _ _ e => (by rw [h] at e; injection e with e; cases e)⟩
theorem relO_there {d : D} {a : Addr} (h : relO G F H d a) : (∃ o, H a = some o) ∧ (∀ xs, H a ≠ some (.tup xs)) ∧ ∀ o u, H a ≠ some (.frz o u) := by
  cases d with
  | lst ds =>
    obtain ⟨xs, h, h2⟩ := h
    exact ⟨⟨_, h⟩, fun _ e => (by rw [h] at e; injection e with e; cases e), fun _ _ e => (by rw [h] at e; injection e with e; cases e)⟩
  | dct ks vs =>
    obtain ⟨kx, vx, h1, _⟩ := h
    exact DHolds_there h1
  | _ => exact h.elim
end

/-! ### slots -/
section
variable (G : Gp)
/-- one slot -/
def slotOk (F : Addr → Prop) (H : Hp) (s : Sl) (o : Option V) : Prop := match s with
  | .non => True
  | .fr d => ∃ v, o = some v ∧ relF G F H d v
  | .ow d => ∃ a, o = some (.ref a) ∧ ¬ F a ∧ relO G F H d a
  | .lk d => ∃ a, o = some (.ref a) ∧ ¬ F a ∧ relO G F H d a
end
def slAt (σ : L2.St) (i : Nat) : Option V := (σ[i]?).getD none
/-- the addresses that may be changed -/
def Mo (env : Env) (σ : L2.St) (a : Addr) : Prop := ∃ i d, getS env i = .ow d ∧ slAt σ i = some (.ref a)
/-- .. with the locked ones -/
def Ml (env : Env) (σ : L2.St) (a : Addr) : Prop := ∃ i, isOwn (getS env i) = true ∧ slAt σ i = some (.ref a)
structure Rel (G : Gp) (F : Addr → Prop) (H : Hp) (env : Env) (σ : L2.St) : Prop where
  len : env.length = σ.length
  slot : ∀ i, slotOk G F H (getS env i) (slAt σ i)
  one : ∀ i j a, isOwn (getS env i) = true → isOwn (getS env j) = true → slAt σ i = some (.ref a) → slAt σ j = some (.ref a) → i = j
  fin : ∀ a, F a → H a ≠ none
section
variable {G : Gp} {F F' F1 : Addr → Prop} {H H' H1 : Hp} {M : Addr → Prop} {env env1 env' : Env} {σ σ' : L2.St}
theorem getS_ge : ∀ {env : Env} {i : Nat}, env.length ≤ i → getS env i = .non
  | [], i, _ => by cases i <;> rfl
  | s :: r, 0, h => by simp at h
  | s :: r, i + 1, h => getS_ge (env := r) (by simpa using h)
theorem getS_get : ∀ {env : Env} {i : Nat} {s : Sl}, env[i]? = some s → getS env i = s
  | [], _, _, h => by simp at h
  | x :: r, 0, s, h => by simp at h; subst h; rfl
  | x :: r, i + 1, s, h => getS_get (env := r) (by simpa using h)
theorem setS_length : ∀ (env : Env) (i : Nat) (s : Sl), (setS env i s).length = env.length
  | [], _, _ => rfl
  | _ :: _, 0, _ => rfl
  | x :: r, i + 1, s => by simp [setS, setS_length r i s]
theorem getS_setS : ∀ (env : Env) (i j : Nat) (s : Sl), getS (setS env i s) j = if i = j ∧ i < env.length then s else getS env j
  | [], i, j, s => by simp [setS]
  | x :: r, 0, 0, s => by simp [setS, getS]
  | x :: r, 0, j + 1, s => by simp [setS, getS]
  | x :: r, i + 1, 0, s => by simp [setS, getS]
  | x :: r, i + 1, j + 1, s => by
    simp only [setS, getS, getS_setS r i j s, List.length_cons, Nat.add_lt_add_iff_right, Nat.add_right_cancel_iff]
theorem getS_set_ne {env : Env} {i j : Nat} {s : Sl} (h : i ≠ j) : getS (setS env i s) j = getS env j := by
  rw [getS_setS, if_neg fun e => h e.1]
theorem getS_set_self {env : Env} {i : Nat} {s : Sl} (h : i < env.length) : getS (setS env i s) i = s := by
  rw [getS_setS, if_pos ⟨rfl, h⟩]
theorem getS_lt {env : Env} {i : Nat} (h : getS env i ≠ .non) : i < env.length := by
  by_cases hi : i < env.length
  · exact hi
  · exact absurd (getS_ge (Nat.le_of_not_lt hi)) h
theorem Mo.ml {a : Addr} (h : Mo env σ a) : Ml env σ a := by
  obtain ⟨i, d, h1, h2⟩ := h
  exact ⟨i, by rw [h1]; rfl, h2⟩
theorem Rel.own (R : Rel G F H env σ) {i : Nat} (h : isOwn (getS env i) = true) : ∃ d a, slAt σ i = some (.ref a) ∧ ¬ F a ∧ relO G F H d a ∧ (getS env i = .ow d ∨ getS env i = .lk d) := by
  have q := R.slot i
  cases e : getS env i with
  | non => rw [e] at h; cases h
  | fr d => rw [e] at h; cases h
  | ow d =>
    rw [e] at q
    obtain ⟨a, h1, h2, h3⟩ := q
    exact ⟨d, a, h1, h2, h3, .inl rfl⟩
  | lk d =>
    rw [e] at q
    obtain ⟨a, h1, h2, h3⟩ := q
    exact ⟨d, a, h1, h2, h3, .inr rfl⟩
theorem Rel.apartL (R : Rel G F H env σ) : Apart (Ml env σ) F H := fun a ⟨i, h1, h2⟩ => by
  obtain ⟨d, b, e, n, r, _⟩ := R.own h1
  rw [h2] at e; cases e
  exact ⟨n, (relO_there r).2⟩
theorem Rel.apart (R : Rel G F H env σ) : Apart (Mo env σ) F H := fun a h => R.apartL a h.ml
theorem Rel.there (R : Rel G F H env σ) {a : Addr} (h : Ml env σ a) : H a ≠ none := by
  obtain ⟨i, h1, h2⟩ := h
  obtain ⟨d, b, e, n, r, _⟩ := R.own h1
  rw [h2] at e; cases e
  obtain ⟨⟨o, q⟩, _⟩ := relO_there r
  rw [q]; exact fun z => nomatch z
/-- the state behind -/
structure Pst (G : Gp) (F : Addr → Prop) (H : Hp) (env : Env) (σ : L2.St) (F' : Addr → Prop) (H' : Hp) (env' : Env) (σ' : L2.St) : Prop where
  ext : Ext (Mo env σ) F H F' H'
  rel : Rel G F' H' env' σ'
  mo : ∀ a, Ml env' σ' a → Ml env σ a ∨ H a = none
  mw : ∀ a, Mo env' σ' a → Mo env σ a ∨ H a = none
  lk : ∀ i d, getS env' i = .lk d → getS env i = .lk d ∧ slAt σ' i = slAt σ i
theorem Pst.refl (R : Rel G F H env σ) : Pst G F H env σ F H env σ := ⟨.refl, R, fun _ h => .inl h, fun _ h => .inl h, fun _ _ h => ⟨h, rfl⟩⟩
theorem Pst.trans {F2 : Addr → Prop} {H2 : Hp} {env2 : Env} {σ2 : L2.St} (a : Pst G F H env σ F1 H1 env1 σ') (b : Pst G F1 H1 env1 σ' F2 H2 env2 σ2) : Pst G F H env σ F2 H2 env2 σ2 where
  ext := a.ext.trans b.ext a.mw
  rel := b.rel
  mo := fun x h => by
    rcases b.mo x h with h | h
    · exact a.mo x h
    · exact .inr (a.ext.alive x h)
  mw := fun x h => by
    rcases b.mw x h with h | h
    · exact a.mw x h
    · exact .inr (a.ext.alive x h)
  lk := fun i d h => let ⟨h1, h2⟩ := b.lk i d h; let ⟨h3, h4⟩ := a.lk i d h1; ⟨h3, h2.trans h4⟩
/-- the slots still hold, the heap grown or changed at M, which is apart from the slots -/
theorem Rel.ext {M : Addr → Prop} (R : Rel G F H env σ) (E : Ext M F H F' H') (ap : Apart M F H) (n : ∀ a, Ml env σ a → ¬ M a) (nF : ∀ a, Ml env σ a → ¬ F' a) (fin : ∀ a, F' a → H' a ≠ none) : Rel G F' H' env σ := by
  refine ⟨R.len, fun i => ?_, R.one, fin⟩
  have q := R.slot i
  have own : isOwn (getS env i) = true → ∀ a, slAt σ i = some (.ref a) → Ml env σ a := fun h a e => ⟨i, h, e⟩
  cases e : getS env i with
  | non => trivial
  | fr d =>
    rw [e] at q
    obtain ⟨v, h1, h2⟩ := q
    exact ⟨v, h1, relF_ext E ap d v h2⟩
  | ow d =>
    rw [e] at q own
    obtain ⟨a, h1, h2, h3⟩ := q
    have m := own rfl a h1
    exact ⟨a, h1, nF a m, relO_ext E ap (n a m) h3⟩
  | lk d =>
    rw [e] at q own
    obtain ⟨a, h1, h2, h3⟩ := q
    have m := own rfl a h1
    exact ⟨a, h1, nF a m, relO_ext E ap (n a m) h3⟩
/-- more is shared, none of the slots' own -/
theorem Rel.sub (R : Rel G F H env σ) (h' : ∀ a, F a → F' a) (n : ∀ a, Ml env σ a → ¬ F' a) (fin : ∀ a, F' a → H a ≠ none) : Rel G F' H env σ := by
  refine ⟨R.len, fun i => ?_, R.one, fin⟩
  have q := R.slot i
  have own : isOwn (getS env i) = true → ∀ a, slAt σ i = some (.ref a) → Ml env σ a := fun h a e => ⟨i, h, e⟩
  cases e : getS env i with
  | non => trivial
  | fr d =>
    rw [e] at q
    obtain ⟨v, h1, h2⟩ := q
    exact ⟨v, h1, relF_sub h' d v h2⟩
  | ow d =>
    rw [e] at q own
    obtain ⟨a, h1, h2, h3⟩ := q
    exact ⟨a, h1, n a (own rfl a h1), relO_sub h' h3⟩
  | lk d =>
    rw [e] at q own
    obtain ⟨a, h1, h2, h3⟩ := q
    exact ⟨a, h1, n a (own rfl a h1), relO_sub h' h3⟩
theorem alive_of (g : ∀ a o, H a = some o → H' a = some o) (a : Addr) (e : H' a = none) : H a = none := by
  cases q : H a with
  | none => rfl
  | some o => rw [g a o q] at e; cases e
theorem Ext.grow {M : Addr → Prop} (g : ∀ a o, H a = some o → H' a = some o) : Ext M F H F H' := ⟨fun a o e _ => g a o e, alive_of g, fun _ h => h, fun _ h => .inl h⟩
/-- nothing of the slots has changed, the heap has grown -/
theorem Rel.grow (R : Rel G F H env σ) (g : ∀ a o, H a = some o → H' a = some o) : Rel G F H' env σ :=
  R.ext (M := fun _ => False) (.grow g) (fun _ h => h.elim) (fun _ _ h => h) (fun a m => (R.apartL a m).1) fun a h e => R.fin a h (alive_of g a e)
theorem Pst.grow (R : Rel G F H env σ) (g : ∀ a o, H a = some o → H' a = some o) : Pst G F H env σ F H' env σ :=
  ⟨.grow g, R.grow g, fun _ h => .inl h, fun _ h => .inl h, fun _ _ h => ⟨h, rfl⟩⟩
theorem grow_new {p : Addr} {o : HO} (h : H p = none) : ∀ a u, H a = some u → upd H p o a = some u := fun a u e => by rw [upd_ne (ne_of_none e h)]; exact e
end

/-! ### values that wait -/
section
variable (G : Gp)
/-- a value of a kind f: d is what it was when it was made -/
def vOk (F : Addr → Prop) (H : Hp) (env : Env) (σ : L2.St) (f : Fl) (d : D) (v : V) : Prop := match f with
  | .fr => relF G F H d v
  | .ow => ∃ a, v = .ref a ∧ ¬ F a ∧ ¬ Ml env σ a ∧ relO G F H d a
  | .pl i => slAt σ i = some v
/-- where new: of no place before -/
def vNew (H : Hp) (f : Fl) (v : V) : Prop := f = .ow → ∀ a, v = .ref a → H a = none
end
section
variable {G : Gp} {F F' F1 : Addr → Prop} {H H' H1 : Hp} {env env1 env' : Env} {σ σ' : L2.St} {f : Fl} {d : D} {v : V}
theorem vOk.step (h : vOk G F H env σ f d v) (R : Rel G F H env σ) (p : Pst G F H env σ F' H' env' σ) : vOk G F' H' env' σ f d v := by
  cases f with
  | fr => exact relF_ext p.ext R.apart d v h
  | ow =>
    obtain ⟨a, e, n, m, r⟩ := h
    obtain ⟨⟨o, q⟩, _⟩ := relO_there r
    refine ⟨a, e, fun z => ?_, fun z => ?_, relO_ext p.ext R.apart (fun z => m z.ml) r⟩
    · rcases p.ext.new a z with z | z | z
      · exact n z
      · exact m z.ml
      · rw [q] at z; cases z
    · rcases p.mo a z with z | z
      · exact m z
      · rw [q] at z; cases z
  | pl i => exact h
theorem vOk.late {d' : D} (h : vOk G F H env σ f d v) (R : Rel G F H env σ) (e : late f d env = some d') : relR G F H d' v := by
  cases f with
  | fr => cases e; exact relR_of_relF h
  | ow =>
    obtain ⟨a, e1, n, m, r⟩ := h
    cases e; subst e1
    exact relR_of_relO r
  | pl i =>
    have e : (getS env i).d? = some d' := e
    have q := R.slot i
    cases z : getS env i with
    | non => rw [z] at e; cases e
    | fr x =>
      rw [z] at e q
      obtain ⟨u, h1, h2⟩ := q
      have := (show slAt σ i = some v from h).symm.trans h1
      cases this; cases e
      exact relR_of_relF h2
    | ow x =>
      rw [z] at e q
      obtain ⟨u, h1, _, h2⟩ := q
      have := (show slAt σ i = some v from h).symm.trans h1
      cases this; cases e
      exact relR_of_relO h2
    | lk x =>
      rw [z] at e q
      obtain ⟨u, h1, _, h2⟩ := q
      have := (show slAt σ i = some v from h).symm.trans h1
      cases this; cases e
      exact relR_of_relO h2
end
end PF
set_option Elab.async false
set_option linter.all false
set_option maxRecDepth 100000
/-! PF2: readings made of the evaluator; lists of operands. -/
namespace PF
open PySem PySem.Spec PyProof.Rows L2

/-! ### weaker readings -/
theorem PE.imp {X : Cx} {e : Expr} {t t' : TE} (h : PE X e t) (i : ∀ σ H Q, t' σ H Q → t σ H Q) : PE X e t' := ⟨fun pins s σ H Q I q => h.run pins s σ H Q I (i σ H Q q)⟩
theorem PA.imp {X : Cx} {es : List Expr} {t t' : TA} (h : PA X es t) (i : ∀ σ H Q, t' σ H Q → t σ H Q) : PA X es t' := ⟨fun pos pins s σ H Q I q => h.run pos pins s σ H Q I (i σ H Q q)⟩
theorem PT.imp {X : Cx} {e : Expr} {t t' : TT} (h : PT X e t) (i : ∀ σ H Q, t' σ H Q → t σ H Q) : PT X e t' := ⟨fun pins s σ H Q I q => h.run pins s σ H Q I (i σ H Q q)⟩
theorem PW.imp {X : Cx} {e : Expr} {t t' : TT} (h : PW X e t) (i : ∀ σ H Q, t' σ H Q → t σ H Q) : PW X e t' := ⟨fun wh pins s σ H Q I q => h.run wh pins s σ H Q I (i σ H Q q)⟩
theorem PS.imp {X : Cx} {s : Stmt} {t t' : TS} (h : PS X s t) (i : ∀ D σ H, t' D σ H → t D σ H) : PS X s t' := ⟨fun pins s σ H D I q => h.run pins s σ H D I (i D σ H q)⟩
theorem PSs.imp {X : Cx} {s : List Stmt} {t t' : TS} (h : PSs X s t) (i : ∀ D σ H, t' D σ H → t D σ H) : PSs X s t' := ⟨fun pins s σ H D I q => h.run pins s σ H D I (i D σ H q)⟩
theorem PI.imp {X : Cx} {tg it : Expr} {t t' : TI} (h : PI X tg it t) (i : ∀ σ H Q, t' σ H Q → t σ H Q) : PI X tg it t' := ⟨fun pins s σ H Q I q => h.run pins s σ H Q I (i σ H Q q)⟩

/-- how an exception lies -/
def exOk (G : Gp) (F : Addr → Prop) (H : Hp) (x : Exn) (cls : Value) (dd : Option Addr) : Prop := G.ex F H x cls dd

section
variable (G : Gp) (W : WX) (F : Addr → Prop) (H : Hp) (env : Env) (σ : L2.St)
def vOks (F : Addr → Prop) (H : Hp) (env : Env) (σ : L2.St) : List (Fl × D) → List V → Prop
  | [], xs => xs = []
  | (f, d) :: r, xs => ∃ x xr, xs = x :: xr ∧ vOk G F H env σ f d x ∧ vOks F H env σ r xr
def vNews (H : Hp) : List (Fl × D) → List V → Prop
  | (f, d) :: r, x :: xr => vNew H f x ∧ vNews H r xr
  | _, _ => True
def kE (Q : VK) : RE → Prop
  | .ok f d e' => ∀ F' H' v, Pst G F H env σ F' H' e' σ → vOk G F' H' e' σ f d v → vNew H f v → Q v H'
  | .ex x e' => ∀ F' H' cls dd, Pst G F H env σ F' H' e' σ → exOk G F' H' x cls dd → W cls dd σ H'
  | .st => False
def kEs (Q : List V → Hp → Prop) : REs → Prop
  | .ok vs e' => ∀ F' H' xs, Pst G F H env σ F' H' e' σ → vOks G F' H' e' σ vs xs → vNews H vs xs → Q xs H'
  | .ex x e' => ∀ F' H' cls dd, Pst G F H env σ F' H' e' σ → exOk G F' H' x cls dd → W cls dd σ H'
  | .st => False
def kT (Q : Bool → Hp → Prop) : RT → Prop
  | .ok b e' => ∀ F' H', Pst G F H env σ F' H' e' σ → Q b H'
  | .ex x e' => ∀ F' H' cls dd, Pst G F H env σ F' H' e' σ → exOk G F' H' x cls dd → W cls dd σ H'
  | .st => False
end
section
variable (G : Gp) (Φ : Str → List Sl → FR) (γ : Str → Option D) (W : WX)
def rdE (m : E) : TE := fun σ H Q => ∃ F env, Rel G F H env σ ∧ kE G W F H env σ Q (ev Φ γ m env)
def rdEs (ms : List E) : TA := fun σ H Q => ∃ F env, Rel G F H env σ ∧ kEs G W F H env σ Q (evs Φ γ ms env)
def rdT (m : E) : TT := fun σ H Q => ∃ F env, Rel G F H env σ ∧ kT G W F H env σ Q (evT Φ γ m env)
end

section
variable {G : Gp} {W : WX} {F F1 F' : Addr → Prop} {H H1 H' : Hp} {env e1 e2 : Env} {σ : L2.St}
theorem kE.imp {Q Q' : VK} (i : ∀ v H, Q v H → Q' v H) : ∀ {r : RE}, kE G W F H env σ Q r → kE G W F H env σ Q' r
  | .ok _ _ _, h => fun F' H' v p q n => i _ _ (h F' H' v p q n)
  | .ex _ _, h => h
  | .st, h => h
/-- an end later is an end from earlier -/
theorem kE.back {Q : VK} (p : Pst G F H env σ F1 H1 e1 σ) : ∀ {r : RE}, kE G W F H env σ Q r → kE G W F1 H1 e1 σ Q r
  | .ok _ _ _, h => fun F' H' v q vo n => h F' H' v (p.trans q) vo fun ef a ea => p.ext.alive a (n ef a ea)
  | .ex _ _, h => fun F' H' cls dd q x => h F' H' cls dd (p.trans q) x
  | .st, h => h
theorem kEs.back {Q : List V → Hp → Prop} (p : Pst G F H env σ F1 H1 e1 σ) : ∀ {r : REs}, kEs G W F H env σ Q r → kEs G W F1 H1 e1 σ Q r
  | .ok vs _, h => fun F' H' v q vo n => h F' H' v (p.trans q) vo (by
      have go : ∀ (vs : List (Fl × D)) (xs : List V), vNews H1 vs xs → vNews H vs xs := by
        intro vs
        induction vs with
        | nil => intro xs _; cases xs <;> trivial
        | cons y r ih =>
          intro xs h
          cases xs with
          | nil => trivial
          | cons x xr => exact ⟨fun ef a ea => p.ext.alive a (h.1 ef a ea), ih xr h.2⟩
      exact go _ _ n)
  | .ex _ _, h => fun F' H' cls dd q x => h F' H' cls dd (p.trans q) x
  | .st, h => h
theorem kT.back {Q : Bool → Hp → Prop} (p : Pst G F H env σ F1 H1 e1 σ) : ∀ {r : RT}, kT G W F H env σ Q r → kT G W F1 H1 e1 σ Q r
  | .ok _ _, h => fun F' H' q => h F' H' (p.trans q)
  | .ex _ _, h => fun F' H' cls dd q x => h F' H' cls dd (p.trans q) x
  | .st, h => h
theorem vOks.step : ∀ {vs : List (Fl × D)} {xs : List V}, vOks G F H env σ vs xs → Rel G F H env σ → Pst G F H env σ F' H' e1 σ → vOks G F' H' e1 σ vs xs
  | [], _, h, _, _ => h
  | (f, d) :: r, _, ⟨x, xr, e, h1, h2⟩, R, p => ⟨x, xr, e, h1.step R p, h2.step R p⟩

variable {Φ : Str → List Sl → FR} {γ : Str → Option D}
theorem rdEs_nil {Q : List V → Hp → Prop} (h : rdEs G Φ γ W [] σ H Q) : Q [] H := by
  obtain ⟨F, env, R, k⟩ := h
  exact k F H [] (.refl R) rfl trivial
theorem rdEs_cons {m : E} {ms : List E} {Q : List V → Hp → Prop} (h : rdEs G Φ γ W (m :: ms) σ H Q) : rdE G Φ γ W m σ H fun x H1 => rdEs G Φ γ W ms σ H1 fun xs H2 => Q (x :: xs) H2 := by
  obtain ⟨F, env, R, k⟩ := h
  refine ⟨F, env, R, ?_⟩
  rw [evs] at k
  cases he : ev Φ γ m env with
  | st => rw [he] at k; exact k
  | ex x e1 => rw [he] at k; exact k
  | ok f d e1 =>
    rw [he] at k
    intro F1 H1 x p1 v1 n1
    refine ⟨F1, e1, p1.rel, ?_⟩
    simp only [RE.bds] at k
    cases hs : evs Φ γ ms e1 with
    | st => rw [hs] at k; exact k
    | ex y e2 => rw [hs] at k; exact fun F' H' cls dd q z => k F' H' cls dd (p1.trans q) z
    | ok vs e2 =>
      rw [hs] at k
      intro F2 H2 xs p2 v2 n2
      refine k F2 H2 (x :: xs) (p1.trans p2) ⟨x, xs, rfl, v1.step p1.rel p2, v2⟩ ⟨n1, ?_⟩
      have go : ∀ (vs : List (Fl × D)) (xs : List V), vNews H1 vs xs → vNews H vs xs := by
        intro vs
        induction vs with
        | nil => intro xs _; cases xs <;> trivial
        | cons y r ih =>
          intro xs h
          cases xs with
          | nil => trivial
          | cons x xr => exact ⟨fun ef a ea => p1.ext.alive a (h.1 ef a ea), ih xr h.2⟩
      exact go _ _ n2
/-- operands for PA -/
theorem pa_rd_nil {X : Cx} : PA X [] (rdEs G Φ γ W []) := PA.imp pa_nil fun _ _ _ h => rdEs_nil h
theorem pa_rd_cons {X : Cx} {e : Expr} {es : List Expr} {m : E} {ms : List E} (h1 : PE X e (rdE G Φ γ W m)) (h2 : PA X es (rdEs G Φ γ W ms))
    (hs : starEach (e :: es) X.env = (false, eval e X.env) :: starEach es X.env) : PA X (e :: es) (rdEs G Φ γ W (m :: ms)) :=
  PA.imp (pa_cons h1 h2 hs) fun _ _ _ h => rdEs_cons h

/-! ### what operands are for -/
def relRs (G : Gp) (F : Addr → Prop) (H : Hp) : List D → List V → Prop
  | [], xs => xs = []
  | d :: ds, xs => ∃ x r, xs = x :: r ∧ relR G F H d x ∧ relRs G F H ds r
theorem lates_ok : ∀ {vs : List (Fl × D)} {xs : List V} {ds : List D}, vOks G F H env σ vs xs → Rel G F H env σ → lates vs env = some ds → relRs G F H ds xs
  | [], _, _, h, _, e => by cases e; exact h
  | (f, d) :: r, _, ds, ⟨x, xr, ex, h1, h2⟩, R, e => by
    rw [lates] at e
    cases e1 : late f d env with
    | none => rw [e1] at e; cases e
    | some y =>
      cases e2 : lates r env with
      | none => rw [e1, e2] at e; cases e
      | some ys =>
        rw [e1, e2] at e
        cases e
        exact ⟨x, xr, ex, h1.late R e1, lates_ok h2 R e2⟩
/-- the values that a list of operands stores become shared -/
def owAt : List (Fl × D) → List V → Addr → Prop
  | (f, _) :: r, x :: xr, a => (f = .ow ∧ x = .ref a) ∨ owAt r xr a
  | _, _, _ => False
theorem owAt_facts : ∀ {vs : List (Fl × D)} {xs : List V} {H0 : Hp} {a : Addr}, vOks G F H env σ vs xs → vNews H0 vs xs → owAt vs xs a → ¬ F a ∧ ¬ Ml env σ a ∧ H a ≠ none ∧ H0 a = none
  | [], [], _, _, _, _, h => False.elim h
  | [], _ :: _, _, _, _, _, h => False.elim h
  | (f, d) :: r, [], _, _, ⟨x, xr, e, _⟩, _, _ => by cases e
  | (f, d) :: r, x :: xr, H0, a, ⟨y, yr, e, h1, h2⟩, ⟨n1, n2⟩, h => by
    cases e
    rcases h with ⟨ef, ex⟩ | h
    · subst ef
      obtain ⟨b, e1, k1, k2, k3⟩ := h1
      rw [ex] at e1; cases e1
      obtain ⟨⟨o, q⟩, _⟩ := relO_there k3
      exact ⟨k1, k2, (fun z => by rw [q] at z; cases z), n1 rfl a ex⟩
    · exact owAt_facts h2 n2 h
theorem stored_rel {F' : Addr → Prop} (hs : ∀ a, F a → F' a) : ∀ {vs : List (Fl × D)} {xs : List V} {ds : List D}, vOks G F H env σ vs xs → (∀ a, owAt vs xs a → F' a) → PF.stored vs = some ds → relFs G F' H ds xs
  | [], _, _, h, _, e => by cases e; simp only [relFs]; exact h
  | (.pl _, d) :: r, _, _, _, _, e => by cases e
  | (.fr, d) :: r, _, _, ⟨x, xr, ex, h1, h2⟩, hF, e => by
    subst ex
    have e : (PF.stored r).map (d :: ·) = some _ := e
    cases es : PF.stored r with
    | none => rw [es] at e; cases e
    | some ys =>
      rw [es] at e; cases e
      simp only [relFs]
      exact ⟨x, xr, rfl, relF_sub hs d x h1, stored_rel hs h2 (fun a z => hF a (.inr z)) es⟩
  | (.ow, d) :: r, _, _, ⟨x, xr, ex, h1, h2⟩, hF, e => by
    subst ex
    have e : (PF.stored r).map (d :: ·) = some _ := e
    cases es : PF.stored r with
    | none => rw [es] at e; cases e
    | some ys =>
      rw [es] at e; cases e
      simp only [relFs]
      obtain ⟨a, e1, k1, k2, k3⟩ := h1
      subst e1
      exact ⟨_, xr, rfl, relF_of_relO (relO_sub hs k3) (hF a (.inl ⟨rfl, rfl⟩)), stored_rel hs h2 (fun a z => hF a (.inr z)) es⟩
/-- addresses that become shared, all of them new since the start -/
theorem Pst.freeze {F0 : Addr → Prop} {H0 : Hp} {e0 : Env} {σ0 : L2.St} {Z : Addr → Prop} (p : Pst G F0 H0 e0 σ0 F H env σ) (hZ : ∀ a, Z a → ¬ Ml env σ a ∧ H a ≠ none ∧ (Mo e0 σ0 a ∨ H0 a = none)) :
    Pst G F0 H0 e0 σ0 (fun a => F a ∨ Z a) H env σ :=
  ⟨⟨p.ext.frm, p.ext.alive, fun a q => .inl (p.ext.fF a q), fun a q => q.elim (p.ext.new a) fun z => .inr (hZ a z).2.2⟩,
    p.rel.sub (fun _ q => .inl q) (fun a m q => q.elim ((p.rel.apartL a m).1) fun z => (hZ a z).1 m) (fun a q => q.elim (p.rel.fin a) fun z => (hZ a z).2.1), p.mo, p.mw, p.lk⟩
theorem freeze {F0 : Addr → Prop} {H0 : Hp} {e0 : Env} {σ0 : L2.St} {vs : List (Fl × D)} {xs : List V} {ds : List D} (p : Pst G F0 H0 e0 σ0 F H env σ) (h : vOks G F H env σ vs xs) (n : vNews H0 vs xs) (e : PF.stored vs = some ds) :
    Pst G F0 H0 e0 σ0 (fun a => F a ∨ owAt vs xs a) H env σ ∧ relFs G (fun a => F a ∨ owAt vs xs a) H ds xs :=
  ⟨p.freeze fun a z => let q := owAt_facts h n z; ⟨q.2.1, q.2.2.1, .inr q.2.2.2⟩, stored_rel (fun _ q => .inl q) h (fun _ z => .inr z) e⟩
end
end PF
set_option Elab.async false
set_option linter.all false
set_option maxRecDepth 100000
/-! PF3: the operations by values: numbers, texts, comparisons, items, slices, lengths. -/
namespace PF
open PySem PySem.Spec PyProof.Rows L2

/-- an operation's end: the heap grown; a shared value, or a new object -/
def resOk (G : Gp) (F : Addr → Prop) (H : Hp) (o : Bool) (d : D) (v : V) (H' : Hp) : Prop :=
  (∀ a u, H a = some u → H' a = some u) ∧ (if o = true then ∃ a, v = .ref a ∧ H a = none ∧ relO G F H' d a else relF G F H' d v)
/-- an operation's reading -/
def rP (G : Gp) (p : Op) (xs : List V) (H : Hp) (Q : VK) : Prop :=
  ∃ F ds o d, relRs G F H ds xs ∧ prim p ds = some (o, d) ∧ ∀ v H', resOk G F H o d v H' → Q v H'

section
variable {G : Gp} {F : Addr → Prop} {H : Hp}
theorem rr1 {ds : List D} {x : V} (h : relRs G F H ds [x]) : ∃ a, ds = [a] ∧ relR G F H a x := by
  cases ds with
  | nil => cases h
  | cons a r =>
    obtain ⟨y, yr, e, h1, h2⟩ := h
    cases e
    cases r with
    | nil => exact ⟨a, rfl, h1⟩
    | cons b r => obtain ⟨z, zr, e, _⟩ := h2; cases e
theorem rr2 {ds : List D} {x y : V} (h : relRs G F H ds [x, y]) : ∃ a b, ds = [a, b] ∧ relR G F H a x ∧ relR G F H b y := by
  cases ds with
  | nil => cases h
  | cons a r =>
    obtain ⟨z, zr, e, h1, h2⟩ := h
    cases e
    obtain ⟨b, rfl, h3⟩ := rr1 h2
    exact ⟨a, b, rfl, h1, h3⟩
theorem rr3 {ds : List D} {x y z : V} (h : relRs G F H ds [x, y, z]) : ∃ a b c, ds = [a, b, c] ∧ relR G F H a x ∧ relR G F H b y ∧ relR G F H c z := by
  cases ds with
  | nil => cases h
  | cons a r =>
    obtain ⟨u, ur, e, h1, h2⟩ := h
    cases e
    obtain ⟨b, c, rfl, h3, h4⟩ := rr2 h2
    exact ⟨a, b, c, rfl, h1, h3, h4⟩
theorem rInt {i : Int} {x : V} (h : relR G F H (.int i) x) : x = .int i := by simpa only [relR, relF] using h
theorem rStr {i : Str} {x : V} (h : relR G F H (.str i) x) : x = .str i := by simpa only [relR, relF] using h
theorem rBl {i : Bool} {x : V} (h : relR G F H (.bl i) x) : x = .bl i := by simpa only [relR, relF] using h
theorem rNon {x : V} (h : relR G F H .non x) : x = .non := by simpa only [relR, relF] using h
theorem rTup {ds : List D} {x : V} (h : relR G F H (.tup ds) x) : ∃ a xs, x = .ref a ∧ SqT G.K H a xs ∧ relFs G F H ds xs := by simpa only [relR, relF] using h
theorem rLst {ds : List D} {x : V} (h : relR G F H (.lst ds) x) : ∃ a xs, x = .ref a ∧ Rd H a (.lst xs) ∧ relFs G F H ds xs := by simpa only [relR, relF] using h
/-- a value without an object -/
theorem res0 {d : D} {v : V} (h : relF G F H d v) : resOk G F H false d v H := ⟨fun _ _ e => e, by rw [if_neg Bool.false_ne_true]; exact h⟩
theorem resI {i : Int} : resOk G F H false (.int i) (.int i) H := res0 (by simp only [relF])
theorem resS {i : Str} : resOk G F H false (.str i) (.str i) H := res0 (by simp only [relF])
theorem resB {i : Bool} : resOk G F H false (.bl i) (.bl i) H := res0 (by simp only [relF])
theorem resN : resOk G F H false .non .non H := res0 (by simp only [relF])
theorem relFs_grow {H' : Hp} (g : ∀ a o, H a = some o → H' a = some o) {ds : List D} {xs : List V} (h : relFs G F H ds xs) : relFs G F H' ds xs := relFs_ext (M := fun _ => False) (.grow g) (fun _ z => z.elim) ds xs h
theorem relF_grow {H' : Hp} (g : ∀ a o, H a = some o → H' a = some o) {d : D} {x : V} (h : relF G F H d x) : relF G F H' d x := relF_ext (M := fun _ => False) (.grow g) (fun _ z => z.elim) d x h
/-- a new tuple -/
theorem resT {ds : List D} {xs : List V} {p : Addr} (hp : H p = none) (h : relFs G F H ds xs) : resOk G F H false (.tup ds) (.ref p) (upd H p (.tup xs)) := by
  refine ⟨grow_new hp, ?_⟩
  rw [if_neg Bool.false_ne_true]
  simp only [relF]
  exact ⟨p, xs, rfl, .inl (.inl upd_same), relFs_grow (grow_new hp) h⟩
/-- a new list -/
theorem resL {ds : List D} {xs : List V} {p : Addr} (hp : H p = none) (h : relFs G F H ds xs) : resOk G F H true (.lst ds) (.ref p) (upd H p (.lst xs)) := by
  refine ⟨grow_new hp, ?_⟩
  rw [if_pos rfl]
  exact ⟨p, rfl, hp, xs, upd_same, relFs_grow (grow_new hp) h⟩
mutual
theorem dpF : ∀ (d : D) (x : V), d.pl = true → relF G F H d x → Dp G.K H x d.py
  | .non, x, _, h => by simp only [relF] at h; subst h; exact .non
  | .bl b, x, _, h => by simp only [relF] at h; subst h; exact .bl b
  | .int i, x, _, h => by simp only [relF] at h; subst h; exact .int i
  | .str s, x, _, h => by simp only [relF] at h; subst h; exact .str s
  | .tup ds, x, hp, h => by
    simp only [relF] at h
    simp only [D.pl] at hp
    obtain ⟨a, xs, rfl, h1, h2⟩ := h
    exact .tup h1 (dpFs ds xs hp h2)
  | .lst ds, x, hp, h => by
    simp only [relF] at h
    simp only [D.pl] at hp
    obtain ⟨a, xs, rfl, _, h1, h2⟩ := h
    exact .lst (.inl h1) (dpFs ds xs hp h2)
  | .dct _ _, _, hp, _ => by simp [D.pl] at hp
  | .ins _ _ _, _, hp, _ => by simp [D.pl] at hp
theorem dpFs : ∀ (ds : List D) (xs : List V), D.pls ds = true → relFs G F H ds xs → DpAll G.K H xs (D.pys ds)
  | [], xs, _, h => by simp only [relFs] at h; subst h; exact .nil
  | d :: ds, xs, hp, h => by
    simp only [relFs] at h
    simp only [D.pls, Bool.and_eq_true] at hp
    obtain ⟨x, r, rfl, h1, h2⟩ := h
    exact .cons (dpF d x hp.1 h1) (dpFs ds r hp.2 h2)
end
theorem dpR {d : D} {x : V} (hp : d.pl = true) (h : relR G F H d x) : Dp G.K H x d.py := by
  cases d with
  | lst ds =>
    obtain ⟨a, xs, rfl, h1, h2⟩ := rLst h
    exact .lst (.inl h1) (dpFs ds xs (by simpa [D.pl] using hp) h2)
  | dct _ _ => simp [D.pl] at hp
  | _ => exact dpF (F := F) _ _ hp h
mutual
theorem plain_py : ∀ d : D, d.pl = true → d.py.plain = true
  | .non, _ => rfl
  | .bl _, _ => rfl
  | .int _, _ => rfl
  | .str _, _ => rfl
  | .tup ds, h => by
    simp only [D.pl] at h
    simp only [D.py, PyData.plain]
    exact plain_pys ds h
  | .lst ds, h => by
    simp only [D.pl] at h
    simp only [D.py, PyData.plain]
    exact plain_pys ds h
  | .dct _ _, h => by simp [D.pl] at h
  | .ins _ _ _, h => by simp [D.pl] at h
theorem plain_pys : ∀ ds : List D, D.pls ds = true → PyData.plainAll (D.pys ds) = true
  | [], _ => rfl
  | d :: ds, h => by
    simp only [D.pls, Bool.and_eq_true] at h
    simp only [D.pys, PyData.plainAll, plain_py d h.1, plain_pys ds h.2, Bool.and_self]
end
mutual
theorem dep_py : ∀ d : D, d.pl = true → d.py.depth = d.dep
  | .non, _ => rfl
  | .bl _, _ => rfl
  | .int _, _ => rfl
  | .str _, _ => rfl
  | .tup ds, h => by
    simp only [D.pl] at h
    simp only [D.py, PyData.depth, D.dep, dep_pys ds h]
  | .lst ds, h => by
    simp only [D.pl] at h
    simp only [D.py, PyData.depth, D.dep, dep_pys ds h]
  | .dct _ _, h => by simp [D.pl] at h
  | .ins _ _ _, h => by simp [D.pl] at h
theorem dep_pys : ∀ ds : List D, D.pls ds = true → PyData.depthAll (D.pys ds) = D.deps ds
  | [], _ => rfl
  | d :: ds, h => by
    simp only [D.pls, Bool.and_eq_true] at h
    simp only [D.pys, PyData.depthAll, D.deps, dep_py d h.1, dep_pys ds h.2]
end
theorem pls_all : ∀ ds : List D, D.pls ds = ds.all (·.pl)
  | [] => rfl
  | d :: ds => by simp only [D.pls, List.all_cons, pls_all ds]
theorem pys_map : ∀ ds : List D, D.pys ds = ds.map D.py
  | [] => rfl
  | d :: ds => by simp only [D.pys, List.map_cons, pys_map ds]
end

section
variable {X : Cx} {G : Gp} {pins : List (Addr × Obj)} {σ : L2.St} {H : Hp} {s : Shared} {F : Addr → Prop}
/-- what stands there, as data -/
theorem reads_of (hK : X.K = G.K) (I : Inv X pins σ H s) {d : D} {x : V} {u : Value} (hp : d.pl = true) (h : relR G F H d x) (r : RelV x u) : ∃ as, Reads s.heap u d.py as :=
  Dp.reads I d.py x u (hK ▸ dpR hp h) r
theorem readsAll_of (hK : X.K = G.K) (I : Inv X pins σ H s) {ds : List D} {xs : List V} {us : List Value} (hp : D.pls ds = true) (h : relFs G F H ds xs) (r : Vals xs us) : ∃ as, ReadsAll s.heap us (D.pys ds) as :=
  Dp.readsAll I (D.pys ds) xs us (hK ▸ dpFs ds xs hp h) r
end

/-! ### numbers and texts -/
section
variable {X : Cx} {G : Gp} {Q : VK}
theorem opImp {f : Value → Value → Sem Value} {r r' : R2} (h : OpR X f r) (i : ∀ x y H Q, r' x y H Q → r x y H Q) : OpR X f r' := fun pins s σ H x y v u Q I r1 r2 q => h pins s σ H x y v u Q I r1 r2 (i _ _ _ _ q)
theorem callImp {f : Value} {r r' : List V → Hp → VK → Prop} (h : CallR X f r) (i : ∀ xs H Q, r' xs H Q → r xs H Q) : CallR X f r' := fun pins s σ H xs us Q I r1 q => h pins s σ H xs us Q I r1 (i _ _ _ q)
/-- an operation on two ints -/
theorem opII {f : Value → Value → Sem Value} {g : Int → Int → Option Int} {p : Op} (hp : ∀ a b, prim p [a, b] = pII g a b) {r : R2} (h : OpR X f r)
    (i : ∀ a b c H Q, g a b = some c → Q (.int c) H → r (.int a) (.int b) H Q) : OpR X f (fun x y => rP G p [x, y]) := by
  refine opImp h fun x y H Q q => ?_
  obtain ⟨F, ds, o, d, hr, e, k⟩ := q
  obtain ⟨a, b, rfl, h1, h2⟩ := rr2 hr
  rw [hp] at e
  unfold pII at e
  split at e
  · cases hg : g _ _ with
    | none => rw [hg] at e; cases e
    | some c =>
      rw [hg] at e
      cases e
      rw [rInt h1, rInt h2]
      exact i _ _ _ _ _ hg (k _ _ resI)
  · cases e
theorem pr_sub : OpR X (binaryOp .Sub) (fun x y => rP G .sub [x, y]) := opII (fun _ _ => rfl) op_sub fun a b c H Q e q => by cases e; exact ⟨a, b, rfl, rfl, q⟩
theorem pr_bor : OpR X (binaryOp .BitOr) (fun x y => rP G .bor [x, y]) := opII (fun _ _ => rfl) op_or fun a b c H Q e q => by cases e; exact ⟨a, b, rfl, rfl, q⟩
theorem pr_fdiv : OpR X (binaryOp .FloorDiv) (fun x y => rP G .fdiv [x, y]) := opII (fun _ _ => rfl) op_fdivW fun a b c H Q e q => by
  unfold pFdiv at e
  split at e
  · rename_i h
    simp only [Bool.and_eq_true, decide_eq_true_eq] at h
    cases e
    exact ⟨a, b, rfl, rfl, ⟨h.1, h.2⟩, q⟩
  · cases e
theorem pr_mod : OpR X (binaryOp .Mod) (fun x y => rP G .mod [x, y]) := opII (fun _ _ => rfl) op_mod fun a b c H Q e q => by
  unfold pMod at e
  split at e
  · rename_i h
    cases e
    exact ⟨a, b, rfl, rfl, h, q⟩
  · cases e
theorem pr_pow : OpR X (binaryOp .Pow) (fun x y => rP G .pow [x, y]) := opII (fun _ _ => rfl) op_pow fun a b c H Q e q => by
  unfold pPow at e
  split at e
  · rename_i h
    simp only [Bool.and_eq_true, decide_eq_true_eq] at h
    cases e
    exact ⟨a, b, rfl, rfl, ⟨h.1.1, h.1.2, h.2⟩, q⟩
  · cases e
theorem pr_shl : OpR X (binaryOp .LShift) (fun x y => rP G .shl [x, y]) := opII (fun _ _ => rfl) op_shl fun a b c H Q e q => by
  unfold pShl at e
  split at e
  · rename_i h
    simp only [Bool.and_eq_true, decide_eq_true_eq] at h
    cases e
    exact ⟨a, b, rfl, rfl, ⟨h.1.1, h.1.2, h.2⟩, q⟩
  · cases e
theorem pr_add (hK : X.K = G.K) : OpR X (binaryOp .Add) (fun x y => rP G .add [x, y]) := by
  intro pins s σ H x y v u Q I rx ry q
  obtain ⟨F, ds, o, d, hr, e, k⟩ := q
  obtain ⟨a, b, rfl, h1, h2⟩ := rr2 hr
  rw [show prim .add [a, b] = pAdd a b from rfl] at e
  unfold pAdd at e
  split at e
  · cases e
    exact op_add pins s σ H x y v u Q I rx ry ⟨_, _, rInt h1, rInt h2, k _ _ resI⟩
  · split at e
    · rename_i hl
      cases e
      exact op_add_str pins s σ H x y v u Q I rx ry ⟨_, _, rStr h1, rStr h2, hl, k _ _ resS⟩
    · cases e
  · split at e
    · rename_i as bs hl
      cases e
      obtain ⟨p1, xs, rfl, t1, f1⟩ := rTup h1
      obtain ⟨p2, ys, rfl, t2, f2⟩ := rTup h2
      have l1 := relFs_length f1
      have l2 := relFs_length f2
      refine op_catA pins s σ H _ _ v u Q I rx ry ⟨p1, p2, xs, ys, rfl, rfl, hK ▸ t1, hK ▸ t2, by rw [l1, l2]; exact hl, fun z => ?_, fun _ z => ?_, fun _ _ p hp => k _ _ (resT hp (relFs_append f1 f2))⟩
      · have e1 : as = [] := List.length_eq_zero_iff.mp (by rw [← l1, z]; rfl)
        subst e1
        exact k _ _ (res0 (by simp only [relF, List.nil_append]; exact ⟨p2, ys, rfl, t2, f2⟩))
      · have e1 : bs = [] := List.length_eq_zero_iff.mp (by rw [← l2, z]; rfl)
        subst e1
        exact k _ _ (res0 (by simp only [relF, List.append_nil]; exact ⟨p1, xs, rfl, t1, f1⟩))
    · cases e
  · split at e
    · rename_i as bs hl
      cases e
      obtain ⟨p1, xs, rfl, t1, f1⟩ := rLst h1
      obtain ⟨p2, ys, rfl, t2, f2⟩ := rLst h2
      have l1 := relFs_length f1
      have l2 := relFs_length f2
      cases rx
      cases ry
      obtain ⟨z1, its, n, r, eo⟩ := t1.ok I.hok
      obtain ⟨z2, its2, n2, r2, eo2⟩ := t2.ok I.hok
      have q1 := r.length
      have q2 := r2.length
      refine PySem.P.add_list eo eo2 ?_ (by rw [List.size_toArray, List.size_toArray]; omega)
      have ea : its.toArray ++ its2.toArray = (its ++ its2).toArray := by simp
      rw [ea]
      exact ⟨.ref _, _, I.lnew (t' := s.toks) (r.append r2) (by rw [List.length_append]; omega), rfl, k _ _ (resL I.fresh (relFs_append f1 f2))⟩
    · cases e
  · cases e
end
end PF
set_option Elab.async false
set_option linter.all false
set_option maxRecDepth 100000
set_option maxHeartbeats 1000000
/-! PF3b: products, comparisons, membership, items, slices, lengths and conversions by values. -/
namespace PF
open PySem PySem.Spec PyProof.Rows L2

theorem mulOk_ok {i j : Int} (h : mulOk i j = true) : IntMulOk i j := by
  unfold mulOk bits at h
  simp only [Bool.or_eq_true, decide_eq_true_eq] at h
  rcases h with (h | h) | h
  · exact .of_left h
  · exact .of_right h
  · have h2 : Builtin.Int.intTooBig (Builtin.Int.intBits i + Builtin.Int.intBits j) = false := by
      unfold Builtin.Int.intTooBig bitsLine
      exact decide_eq_false (by have e : (2 : Nat) ^ 26 = 67108864 := by decide
                                have e2 : (2 : Nat) ^ 27 = 134217728 := by decide
                                omega)
    unfold IntMulOk
    rw [h2]
    simp
theorem tuple_mul1 (l : Addr) (items : Array Value) (n : Nat) (dd : Option Addr) (sl : Array (Option Value)) (u : Tok) :
    Meets (Builtin.«tuple.__mul__» ⟨[.ref l, .int 1 u], []⟩) (fun _ R s => s.heap.get? l = some { cls := .type "tuple", dict := dd, data := .seq items n, slots := sl } ∧
      R (.ok (.ret (Value.ref l))) s) :=
  .of_wp fun prog w A R s h => by
    obtain ⟨hp, g, d, tk, os⟩ := s
    obtain ⟨hl, h⟩ := h
    have f1 := AutoSeq1.idx_int
    have c1 : (items.isEmpty || (1 : Int) == 1) = true := by simp
    wp_walk using wpAny_loadPart' hl
    repeat (first
      | (refine wpAny_ite_false (decide_eq_false (by decide)) ?_; wp_walk using wpAny_loadPart' hl)
      | (refine wpAny_ite_true (by rw [c1]) ?_; wp_walk using wpAny_loadPart' hl))
    exact ⟨_, rfl, h⟩

theorem foldl_repN {α : Type} (its : List α) : ∀ (m : Nat) (acc : List α), List.foldl (fun x1 x2 => x1 ++ x2) acc.toArray (List.replicate m its.toArray) = (acc ++ (List.replicate m its).flatten).toArray
  | 0, acc => by simp
  | m + 1, acc => by
    rw [List.replicate_succ, List.foldl_cons, List.replicate_succ, List.flatten_cons]
    have e : acc.toArray ++ its.toArray = (acc ++ its).toArray := by simp
    rw [e, foldl_repN its m (acc ++ its), List.append_assoc]
theorem size_rep' {α : Type} (its : List α) (m : Nat) : List.foldl (fun x1 x2 => x1 ++ x2) #[] (List.replicate m its.toArray) = (List.replicate m its).flatten.toArray := by
  have := foldl_repN its m []
  simpa using this
section
variable {X : Cx} {G : Gp}
theorem pr_mul (hK : X.K = G.K) : OpR X (binaryOp .Mult) (fun x y => rP G .mul [x, y]) := by
  intro pins s σ H x y v u Q I rx ry q
  obtain ⟨Fz, ds, o, d, hr, e, k⟩ := q
  obtain ⟨a, b, rfl, h1, h2⟩ := rr2 hr
  rw [show prim .mul [a, b] = pMul a b from rfl] at e
  unfold pMul at e
  split at e
  · split at e
    · rename_i hm
      cases e
      obtain rfl := rInt h1
      obtain rfl := rInt h2
      obtain ⟨t, rfl⟩ := rx
      obtain ⟨t', rfl⟩ := ry
      exact mul_int ⟨.int _, H, I.tok _, ⟨_, rfl⟩, k _ _ resI⟩ (mulOk_ok hm)
    · cases e
  · split at e
    · rename_i as j hj
      obtain ⟨rfl, hne⟩ := hj
      cases e
      obtain ⟨p1, xs, rfl, t1, f1⟩ := rTup h1
      obtain rfl := rInt h2
      cases rx
      obtain ⟨t, rfl⟩ := ry
      obtain ⟨its, r, ⟨⟨cls, dd, data, sl⟩, ho, hc, n, hd⟩, hs⟩ := I.tuple (hK ▸ t1)
      simp only at hc hd
      subst hc hd
      exact wpAny_binaryOp_repeat_ref (T := "tuple") (U := "int") (by decide) ⟨_, ho, rfl⟩ (fun s' => typeIs_int s' 1 t) noFill_tuple_mul F.fills_int_mul F.slot_int_rmul repeat_tuple F.slot_int_index.lookup
        (call_meets F.slot_int_rmul (typeIs_int s 1 t) F.entry_int_rmul (F.args_int_rmul_2 _ _) (int_rmul_tuple 1 t p1 its.toArray n dd sl)
          ⟨ho, rfl, ⟨_, ho, rfl⟩, call_meets F.slot_tuple_mul ⟨_, ho, rfl⟩ F.entry_tuple_mul (F.args_tuple_mul_2 _ _) (tuple_mul1 p1 its.toArray n dd sl t)
            ⟨ho, .ref p1, H, I, rfl, k _ _ (res0 (by simp only [relF]; exact ⟨p1, xs, rfl, t1, f1⟩))⟩⟩)
    · split at e
      · rename_i as j _ hj
        simp only [Bool.and_eq_true, decide_eq_true_eq] at hj
        cases e
        obtain ⟨p1, xs, rfl, t1, f1⟩ := rTup h1
        obtain rfl := rInt h2
        have l1 := relFs_length f1
        exact op_repT pins s σ H _ _ v u Q I rx ry ⟨p1, j, xs, rfl, rfl, hK ▸ t1, fun z => hj.1.2 (List.length_eq_zero_iff.mp (by rw [← l1, z]; rfl)), hj.1.1.1, hj.1.1.2, by rw [l1]; exact hj.2,
          fun p hp => k _ _ (resT hp (relFs_rep f1 _))⟩
      · cases e
  · split at e
    · rename_i z j hj
      simp only [Bool.and_eq_true, decide_eq_true_eq] at hj
      cases e
      obtain rfl := rStr h1
      obtain rfl := rInt h2
      obtain ⟨t, rfl⟩ := rx
      obtain ⟨t', rfl⟩ := ry
      have hlen : (List.replicate j.toNat z.cps.toList).flatten.length = j.toNat * z.length := by
        rw [List.length_flatten, List.map_replicate, List.sum_replicate_nat]; rfl
      refine PySem.P.mul_str ?_ ?_ ?_ ?_
      · rw [decide_eq_false (by omega), decide_eq_false (by omega)]; rfl
      · intro hn hc hz
        have hj1 : 1 < j := by
          have : j ≠ 1 := fun q => by rw [q] at hc; simp at hc
          omega
        have : (z.length : Int) * j ≤ 2 ^ 63 - 1 := by
          have e1 : ((z.length * j.toNat : Nat) : Int) = (z.length : Int) * j := by rw [Int.natCast_mul, Int.toNat_of_nonneg (by omega)]
          have e2 := hj.2
          rw [sizeLine_eq] at e2
          omega
        have := Int.le_ediv_of_mul_le (by omega) this
        omega
      · intro hn hc
        unfold Builtin.Str.tooLong
        exact decide_eq_false (by have := hj.2; omega)
      · by_cases hn : j < 1
        · rw [if_pos hn]
          have e0 : j.toNat = 0 := by omega
          rw [e0] at k
          exact ⟨by decide, .str _, H, I.tok _, ⟨_, rfl⟩, k _ _ resS⟩
        · rw [if_neg hn]
          split
          · rename_i hc
            have key : (⟨(List.replicate j.toNat z.cps.toList).flatten.toArray⟩ : Str) = z := by
              rw [Bool.or_eq_true] at hc
              rcases hc with hc | hc
              · rw [beq_iff_eq.mp hc]; cases z; simp
              · have hz : z.length = 0 := beq_iff_eq.mp hc
                have : z.cps.toList = [] := List.length_eq_zero_iff.mp hz
                rw [this]
                obtain ⟨c⟩ := z
                have : c = #[] := by simpa using this
                subst this
                simp
            rw [key] at k
            exact ⟨.str _, H, I, ⟨_, rfl⟩, k _ _ resS⟩
          · have key : ((List.replicate j.toNat z.cps).foldl (· ++ ·) #[]) = (List.replicate j.toNat z.cps.toList).flatten.toArray := by
              have := size_rep' z.cps.toList j.toNat
              simpa using this
            rw [key]
            exact ⟨by show (List.toArray _).size ≤ _; rw [List.size_toArray, hlen]; have := hj.2; rw [Nat.mul_comm]; exact this, .str _, H, I.tok _, ⟨_, rfl⟩, k _ _ resS⟩
    · cases e
  · cases e
end

/-! ### comparisons -/
section
variable {X : Cx} {G : Gp}
theorem py_ne_none {d : D} (hp : d.pl = true) (h : d ≠ .non) : d.py ≠ .none := by
  cases d <;> simp_all [D.py, D.pl]
theorem eqOk_iff {a b : D} (h : eqOk a b = true) : a.pl = true ∧ b.pl = true ∧ min a.dep b.dep ≤ 60 := by
  simpa [eqOk, Bool.and_eq_true, and_assoc] using h
theorem pr_eq (hK : X.K = G.K) (hu : X.A.units + 64 < cLine) : OpR X (compareOp .Eq) (fun x y => rP G .eq [x, y]) := by
  intro pins s σ H x y v u Q I rx ry q
  obtain ⟨Fz, ds, o, d, hr, e, k⟩ := q
  obtain ⟨a, b, rfl, h1, h2⟩ := rr2 hr
  rw [show prim .eq [a, b] = pEq false a b from rfl] at e
  unfold pEq at e
  split at e
  · rename_i h
    cases e
    obtain ⟨p1, p2, hd⟩ := eqOk_iff h
    obtain ⟨as, r1⟩ := reads_of hK I p1 h1 rx
    obtain ⟨bs, r2⟩ := reads_of hK I p2 h2 ry
    exact SeqAt.eq_plain r1 r2 (plain_py a p1) (plain_py b p2) (by rw [dep_py a p1, dep_py b p2]; omega) ⟨.bl _, H, I, rfl, k _ _ resB⟩
  · cases e
theorem pr_ne (hK : X.K = G.K) (hu : X.A.units + 64 < cLine) : OpR X (compareOp .NotEq) (fun x y => rP G .ne [x, y]) := by
  intro pins s σ H x y v u Q I rx ry q
  obtain ⟨Fz, ds, o, d, hr, e, k⟩ := q
  obtain ⟨a, b, rfl, h1, h2⟩ := rr2 hr
  rw [show prim .ne [a, b] = pEq true a b from rfl] at e
  unfold pEq at e
  split at e
  · rename_i h
    cases e
    obtain ⟨p1, p2, hd⟩ := eqOk_iff h
    obtain ⟨as, r1⟩ := reads_of hK I p1 h1 rx
    obtain ⟨bs, r2⟩ := reads_of hK I p2 h2 ry
    exact SeqAt.ne_plain r1 r2 (plain_py a p1) (plain_py b p2) (by rw [dep_py a p1, dep_py b p2]; omega) ⟨.bl _, H, I, rfl, k _ _ resB⟩
  · cases e
theorem ltOk_iff {a b : D} (h : ltOk a b = true) : W.alike a.py b.py = true ∧ a ≠ .non ∧ a.pl = true ∧ b.pl = true ∧ min a.dep b.dep ≤ 60 := by
  simpa [ltOk, D.alk, Bool.and_eq_true, and_assoc] using h
/-- <, >=, >, <= by one road -/
theorem pr_lt0 {op : CmpOp} {p : Op} {neg : Bool} {sw : Bool} (hp : ∀ a b, prim p [a, b] = if sw then pLt neg b a else pLt neg a b) (hK : X.K = G.K) (hu : X.A.units + 64 < cLine)
    (rule : ∀ (s : Shared) (a b : Value) (da db : PyData) (as bs : List Addr) (Q : Value → Shared → Prop), Reads s.heap a da as → Reads s.heap b db bs → W.alike da db = true → da ≠ .none → X.A.units + min da.depth db.depth < cLine →
      Q (.bool (if neg then !(if sw then W.dataLt db da else W.dataLt da db) else (if sw then W.dataLt db da else W.dataLt da db))) s → wpAny (model X.prog X.w) X.A (compareOp op a b) Q X.xe s) :
    OpR X (compareOp op) (fun x y => rP G p [x, y]) := by
  intro pins s σ H x y v u Q I rx ry q
  obtain ⟨Fz, ds, o, d, hr, e, k⟩ := q
  obtain ⟨a, b, rfl, h1, h2⟩ := rr2 hr
  rw [hp] at e
  have go : ∀ a' b' : D, W.alike a'.py b'.py = true → a' ≠ .non → a'.pl = true → b'.pl = true → W.alike b'.py a'.py = true ∧ b'.py ≠ .none := fun a' b' h1 h2 h3 h4 => by
    have z := W.ne_none_both h1 (py_ne_none h3 h2)
    exact ⟨by rw [W.alike_comm]; exact h1, z⟩
  cases sw with
  | false =>
    simp only [Bool.false_eq_true, if_false] at e rule
    unfold pLt at e
    split at e
    · rename_i h
      obtain ⟨p0, p1, p2, p3, hd⟩ := ltOk_iff h
      obtain ⟨as, r1⟩ := reads_of hK I p2 h1 rx
      obtain ⟨bs, r2⟩ := reads_of hK I p3 h2 ry
      cases e
      exact rule s v u _ _ _ _ _ r1 r2 p0 (py_ne_none p2 p1) (by rw [dep_py a p2, dep_py b p3]; omega) ⟨.bl _, H, I, rfl, k _ _ resB⟩
    · cases e
  | true =>
    simp only [if_true] at e rule
    unfold pLt at e
    split at e
    · rename_i h
      obtain ⟨p0, p1, p2, p3, hd⟩ := ltOk_iff h
      obtain ⟨as, r1⟩ := reads_of hK I p3 h1 rx
      obtain ⟨bs, r2⟩ := reads_of hK I p2 h2 ry
      obtain ⟨z1, z2⟩ := go _ _ p0 p1 p2 p3
      cases e
      exact rule s v u _ _ _ _ _ r1 r2 z1 z2 (by rw [dep_py a p3, dep_py b p2]; omega) ⟨.bl _, H, I, rfl, k _ _ resB⟩
    · cases e
theorem pr_lt (hK : X.K = G.K) (hu : X.A.units + 64 < cLine) : OpR X (compareOp .Lt) (fun x y => rP G .lt [x, y]) :=
  pr_lt0 (neg := false) (sw := false) (fun _ _ => rfl) hK hu fun s a b da db as bs Q r1 r2 h1 h2 h3 q => W.lt_data r1 r2 h1 h2 h3 q
theorem pr_ge (hK : X.K = G.K) (hu : X.A.units + 64 < cLine) : OpR X (compareOp .GtE) (fun x y => rP G .ge [x, y]) :=
  pr_lt0 (neg := true) (sw := false) (fun _ _ => rfl) hK hu fun s a b da db as bs Q r1 r2 h1 h2 h3 q => W.ge_data r1 r2 h1 h2 h3 q
theorem pr_gt (hK : X.K = G.K) (hu : X.A.units + 64 < cLine) : OpR X (compareOp .Gt) (fun x y => rP G .gt [x, y]) :=
  pr_lt0 (neg := false) (sw := true) (fun _ _ => rfl) hK hu fun s a b da db as bs Q r1 r2 h1 h2 h3 q => W.gt_data r1 r2 h1 h2 h3 q
theorem pr_le (hK : X.K = G.K) (hu : X.A.units + 64 < cLine) : OpR X (compareOp .LtE) (fun x y => rP G .le [x, y]) :=
  pr_lt0 (neg := true) (sw := true) (fun _ _ => rfl) hK hu fun s a b da db as bs Q r1 r2 h1 h2 h3 q => W.le_data r1 r2 h1 h2 h3 q
theorem relF_non {F : Addr → Prop} {H : Hp} {a : D} {x : V} (h : relR G F H a x) : decide (a = .non) = decide (x = .non) := by
  cases a with
  | non => rw [rNon h]; simp
  | bl b => rw [rBl h]; simp
  | int b => rw [rInt h]; simp
  | str b => rw [rStr h]; simp
  | tup ds => obtain ⟨p, xs, rfl, _⟩ := rTup h; simp
  | lst ds => obtain ⟨p, xs, rfl, _⟩ := rLst h; simp
  | dct ks vs => obtain ⟨p, kx, vx, rfl, _⟩ := (show ∃ a kx vx, x = V.ref a ∧ _ from h); simp
  | ins c ns vs => simp [relR, relF] at h
end
/-! ### x in s -/
section
variable {X : Cx} {G : Gp}
theorem any_py (x : D) : ∀ ds : List D, (D.pys ds).any (fun y => PyData.eqv y x.py) = ds.any fun d => D.eq d x
  | [] => rfl
  | d :: ds => by simp only [D.pys, List.any_cons, any_py x ds]; rfl
theorem pyIn_some {x : D} {ds : List D} {b : Bool} (h : pyIn x ds = some b) : x.pl = true ∧ x.dep ≤ 60 ∧ D.pls ds = true ∧ b = ds.any fun d => D.eq d x := by
  unfold pyIn at h
  split at h
  · rename_i h1
    simp only [Bool.and_eq_true, decide_eq_true_eq] at h1
    cases h
    exact ⟨h1.1.1, h1.1.2, by rw [pls_all]; exact h1.2, rfl⟩
  · cases h
/-- in, not in; a dict apart -/
theorem pr_in0 {op : CmpOp} {p : Op} (neg : Bool) (hop : op = if neg then .NotIn else .In) (hp : ∀ a b, prim p [a, b] = pIn neg a b) (hK : X.K = G.K) (hu : X.A.units + 64 < cLine)
    (dct : OpR X (compareOp op) (fun x y H Q => ∃ F k ks vs, relR G F H k x ∧ relR G F H (.dct ks vs) y ∧ keyOk k ks = true ∧ Q (.bl (if neg then !dHas k ks else dHas k ks)) H)) :
    OpR X (compareOp op) (fun x y => rP G p [x, y]) := by
  intro pins s σ H x y v u Q I rx ry q
  obtain ⟨Fz, ds, o, d, hr, e, k⟩ := q
  obtain ⟨a, b, rfl, h1, h2⟩ := rr2 hr
  rw [hp] at e
  unfold pIn at e
  split at e
  · rename_i ds
    cases e1 : pyIn a ds with
    | none => rw [e1] at e; cases e
    | some w =>
      rw [e1] at e
      obtain ⟨z1, z2, z3, rfl⟩ := pyIn_some e1
      cases e
      obtain ⟨as, r1⟩ := reads_of hK I z1 h1 rx
      obtain ⟨bs, r2⟩ := reads_of hK I (d := .tup ds) (by simpa [D.pl] using z3) h2 ry
      have hd : X.A.units + 1 + min (PyData.depthAll (D.pys ds)) a.py.depth < cLine := by rw [dep_py a z1]; omega
      cases neg with
      | true =>
        rw [hop, if_pos rfl]
        refine SeqAt.notIn_tuple_data (xs := D.pys ds) r2 r1 (plain_pys ds z3) (plain_py a z1) hd ⟨.bl _, H, I, rfl, ?_⟩
        rw [any_py]; exact k _ _ resB
      | false =>
        rw [hop, if_neg Bool.false_ne_true]
        refine SeqAt.in_tuple_data (xs := D.pys ds) r2 r1 (plain_pys ds z3) (plain_py a z1) hd ⟨.bl _, H, I, rfl, ?_⟩
        rw [any_py]; exact k _ _ resB
  · rename_i ds
    cases e1 : pyIn a ds with
    | none => rw [e1] at e; cases e
    | some w =>
      rw [e1] at e
      obtain ⟨z1, z2, z3, rfl⟩ := pyIn_some e1
      cases e
      obtain ⟨as, r1⟩ := reads_of hK I z1 h1 rx
      obtain ⟨bs, r2⟩ := reads_of hK I (d := .lst ds) (by simpa [D.pl] using z3) h2 ry
      have hd : X.A.units + 1 + min (PyData.depthAll (D.pys ds)) a.py.depth < cLine := by rw [dep_py a z1]; omega
      cases neg with
      | true =>
        rw [hop, if_pos rfl]
        refine SeqAt.notIn_list_data (xs := D.pys ds) r2 r1 (plain_pys ds z3) (plain_py a z1) hd ⟨.bl _, H, I, rfl, ?_⟩
        rw [any_py]; exact k _ _ resB
      | false =>
        rw [hop, if_neg Bool.false_ne_true]
        refine SeqAt.in_list_data (xs := D.pys ds) r2 r1 (plain_pys ds z3) (plain_py a z1) hd ⟨.bl _, H, I, rfl, ?_⟩
        rw [any_py]; exact k _ _ resB
  · split at e
    · rename_i ks vs hk
      cases e
      exact dct pins s σ H x y v u Q I rx ry ⟨Fz, _, ks, vs, h1, h2, hk, k _ _ resB⟩
    · cases e
  · cases e
    cases neg with
    | true =>
      rw [hop, if_pos rfl]
      exact op_notin_str pins s σ H x y v u Q I rx ry ⟨_, _, rStr h1, rStr h2, k _ _ resB⟩
    | false =>
      rw [hop, if_neg Bool.false_ne_true]
      exact op_in_str pins s σ H x y v u Q I rx ry ⟨_, _, rStr h1, rStr h2, k _ _ resB⟩
  · cases e
end
/-! ### items, slices -/
section
variable {X : Cx} {G : Gp}
theorem ixImp {r r' : R2} (h : IxR X r) (i : ∀ x y H Q, r' x y H Q → r x y H Q) : IxR X r' := fun a b pins s σ H x y v u Q I r1 r2 q => h a b pins s σ H x y v u Q I r1 r2 (i _ _ _ _ q)
theorem slImp {r r' : V → Option Int → Option Int → Hp → VK → Prop} (h : SlR X r) (i : ∀ x lo hi H Q, r' x lo hi H Q → r x lo hi H Q) : SlR X r' := fun pins s σ H x v vl vu lo hi sl Q I r1 a b c q => h pins s σ H x v vl vu lo hi sl Q I r1 a b c (i _ _ _ _ _ q)
theorem relFs_atI {F : Addr → Prop} {H : Hp} {ds : List D} {xs : List V} {i : Int} {d : D} (h : relFs G F H ds xs) (e : atI ds i = some d) : ∃ x, atI xs i = some x ∧ relF G F H d x := by
  unfold atI at e ⊢
  rw [relFs_length h]
  cases q : ixN ds.length i with
  | none => rw [q] at e; cases e
  | some j =>
    rw [q] at e
    exact relFs_get h e
theorem pr_idx (hK : X.K = G.K)
    (dct : IxR X (fun x y H Q => ∃ F k ks vs w, relR G F H (.dct ks vs) x ∧ relR G F H k y ∧ keyOk k ks = true ∧ dGet k ks vs = some w ∧ ∀ z, relF G F H w z → Q z H)) : IxR X (fun x y => rP G .idx [x, y]) := by
  intro ve se pins s σ H x y v u Q I rx ry q hs
  obtain ⟨Fz, ds, o, d, hr, e, k⟩ := q
  obtain ⟨a, b, rfl, h1, h2⟩ := rr2 hr
  rw [show prim .idx [a, b] = pIdx a b from rfl] at e
  unfold pIdx at e
  split at e
  · rename_i ks vs
    split at e
    · rename_i hk
      cases e1 : dGet b ks vs with
      | none => rw [e1] at e; cases e
      | some w =>
        rw [e1] at e; cases e
        exact dct ve se pins s σ H x y v u Q I rx ry ⟨Fz, b, ks, vs, d, h1, h2, hk, e1, fun z rz => k _ _ (res0 rz)⟩ hs
    · cases e
  · cases e1 : idxD a b with
    | none => rw [e1] at e; cases e
    | some w =>
      rw [e1] at e; cases e
      unfold idxD at e1
      split at e1
      · obtain ⟨p, xs, rfl, t1, f1⟩ := rTup h1
        obtain rfl := rInt h2
        obtain ⟨z, ez, rz⟩ := relFs_atI f1 e1
        exact ix_tup ve se pins s σ H _ _ v u Q I rx ry ⟨p, xs, _, z, rfl, rfl, hK ▸ t1, ez, k _ _ (res0 rz)⟩ hs
      · obtain ⟨p, xs, rfl, t1, f1⟩ := rLst h1
        obtain rfl := rInt h2
        obtain ⟨z, ez, rz⟩ := relFs_atI f1 e1
        exact ix_list ve se pins s σ H _ _ v u Q I rx ry ⟨p, xs, _, z, rfl, rfl, .inl t1, ez, k _ _ (res0 rz)⟩ hs
      · rename_i z i _
        split at e1
        · rename_i hz
          cases e2 : atI z.cps.toList i with
          | none => rw [e2] at e1; cases e1
          | some c =>
            rw [e2] at e1; cases e1
            obtain rfl := rStr h1
            obtain rfl := rInt h2
            exact ix_str ve se pins s σ H _ _ v u Q I rx ry ⟨z, i, c, rfl, rfl, hz, e2, k _ _ resS⟩ hs
        · cases e1
      · cases e1
theorem relFs_cut {F : Addr → Prop} {H : Hp} {ds : List D} {xs : List V} (h : relFs G F H ds xs) (lo hi : Option Int) : relFs G F H (cutL ds lo hi) (cutV xs lo hi) := by
  unfold cutL cutV
  rw [relFs_length h]
  exact relFs_take _ (relFs_drop _ h)
/-- a[lo:hi] -/
theorem pr_cut (hK : X.K = G.K) : SlR X (fun x lo hi H Q => ∃ F a o d, relR G F H a x ∧ cutD a lo hi = some (o, d) ∧ ∀ v H', resOk G F H o d v H' → Q v H') := by
  intro pins s σ H x v vl vu lo hi sl Q I rx hs pl pu q
  obtain ⟨Fz, a, o, d, h1, e, k⟩ := q
  unfold cutD at e
  split at e
  · rename_i ds
    cases e
    obtain ⟨p, xs, rfl, t1, f1⟩ := rTup h1
    have l1 := relFs_length f1
    refine sl_tupA pins s σ H _ v vl vu lo hi sl Q I rx hs pl pu ⟨p, xs, rfl, hK ▸ t1, fun hw => ?_, fun _ q hq => k _ _ (resT hq (relFs_cut f1 lo hi))⟩
    have ew : cutL ds lo hi = ds := by
      unfold cutL
      rw [l1] at hw
      rw [hw.1, hw.2, List.drop_zero, Nat.sub_zero, List.take_length]
    rw [ew] at k
    exact k _ _ (res0 (by simp only [relF]; exact ⟨p, xs, rfl, t1, f1⟩))
  · rename_i ds
    cases e
    obtain ⟨p, xs, rfl, t1, f1⟩ := rLst h1
    exact sl_list pins s σ H _ v vl vu lo hi sl Q I rx hs pl pu ⟨p, xs, rfl, .inl t1, fun q hq => k _ _ (resL hq (relFs_cut f1 lo hi))⟩
  · split at e
    · rename_i z hz
      cases e
      exact sl_str pins s σ H x v vl vu lo hi sl Q I rx hs pl pu ⟨z, rStr h1, hz, k _ _ resS⟩
    · cases e
  · cases e
end
end PF
set_option Elab.async false
set_option linter.all false
set_option maxRecDepth 100000
set_option maxHeartbeats 1000000
/-! PF3c: built-ins by values. -/
namespace PF
open PySem PySem.Spec PyProof.Rows L2

section
variable {X : Cx} {G : Gp}
/-- a call of one argument, by what prim says -/
theorem call1 {f : Value} {p : Op} {g : D → Option (Bool × D)} (hp : ∀ a, prim p [a] = g a) {r : List V → Hp → VK → Prop} (h : CallR X f r)
    (i : ∀ F H a x o d Q, relR G F H a x → g a = some (o, d) → (∀ v H', resOk G F H o d v H' → Q v H') → r [x] H Q) : CallR X f (fun xs H Q => ∃ x, xs = [x] ∧ rP G p [x] H Q) :=
  callImp h fun xs H Q ⟨x, e1, Fz, ds, o, d, hr, e, k⟩ => by
    obtain ⟨a, rfl, h1⟩ := rr1 hr
    rw [hp] at e
    rw [e1]
    exact i Fz H a x o d Q h1 e k
theorem call2 {f : Value} {p : Op} {g : D → D → Option (Bool × D)} (hp : ∀ a b, prim p [a, b] = g a b) {r : List V → Hp → VK → Prop} (h : CallR X f r)
    (i : ∀ F H a b x y o d Q, relR G F H a x → relR G F H b y → g a b = some (o, d) → (∀ v H', resOk G F H o d v H' → Q v H') → r [x, y] H Q) : CallR X f (fun xs H Q => ∃ x y, xs = [x, y] ∧ rP G p [x, y] H Q) :=
  callImp h fun xs H Q ⟨x, y, e1, Fz, ds, o, d, hr, e, k⟩ => by
    obtain ⟨a, b, rfl, h1, h2⟩ := rr2 hr
    rw [hp] at e
    rw [e1]
    exact i Fz H a b x y o d Q h1 h2 e k
theorem pr_neg : UnR X (unaryOp .USub) (fun x H Q => rP G .neg [x] H Q) := fun pins s σ H x v Q I rx ⟨Fz, ds, o, d, hr, e, k⟩ => by
  obtain ⟨a, rfl, h1⟩ := rr1 hr
  rw [show prim .neg [a] = pNeg a from rfl] at e
  unfold pNeg at e
  split at e
  · cases e
    exact un_neg pins s σ H x v Q I rx ⟨_, rInt h1, k _ _ resI⟩
  · cases e
theorem pr_isN {y : V} : OpR X (compareOp .Is) (fun x y H Q => y = .non ∧ rP G .isN [x] H Q) := opImp op_isN fun x y H Q ⟨e0, Fz, ds, o, d, hr, e, k⟩ => by
  obtain ⟨a, rfl, h1⟩ := rr1 hr
  have e : ob (decide (a = .non)) = some (o, d) := e
  cases e
  refine ⟨e0, ?_⟩
  rw [relF_non h1] at k
  exact k _ _ resB
theorem pr_notN {y : V} : OpR X (compareOp .IsNot) (fun x y H Q => y = .non ∧ rP G .notN [x] H Q) := opImp op_notN fun x y H Q ⟨e0, Fz, ds, o, d, hr, e, k⟩ => by
  obtain ⟨a, rfl, h1⟩ := rr1 hr
  have e : ob (!decide (a = .non)) = some (o, d) := e
  cases e
  refine ⟨e0, ?_⟩
  rw [relF_non h1] at k
  exact k _ _ resB
theorem pr_len (hK : X.K = G.K) (dct : CallR X (.builtin "len") (fun xs H Q => ∃ x F ks vs, xs = [x] ∧ relR G F H (.dct ks vs) x ∧ Q (.int ks.length) H)) :
    CallR X (.builtin "len") (fun xs H Q => ∃ x, xs = [x] ∧ rP G .len [x] H Q) :=
  call1 (g := pLen) (fun _ => rfl) (call_len_seq.or (call_len_str.or dct)) fun Fz H a x o d Q h1 e k => by
    unfold pLen at e
    split at e
    · split at e
      · rename_i hz
        cases e
        exact .inr (.inl ⟨_, by rw [rStr h1], hz, k _ _ resI⟩)
      · cases e
    · cases e
      obtain ⟨p, xs, rfl, t1, f1⟩ := rTup h1
      exact .inl ⟨p, xs, rfl, .inr (hK ▸ t1), by rw [relFs_length f1]; exact k _ _ resI⟩
    · cases e
      obtain ⟨p, xs, rfl, t1, f1⟩ := rLst h1
      exact .inl ⟨p, xs, rfl, .inl (.inl t1), by rw [relFs_length f1]; exact k _ _ resI⟩
    · cases e
      exact .inr (.inr ⟨x, Fz, _, _, rfl, h1, k _ _ resI⟩)
    · cases e
theorem pr_int : CallR X (.type "int") (fun xs H Q => ∃ x, xs = [x] ∧ rP G .toInt [x] H Q) :=
  call1 (g := pInt) (fun _ => rfl) (call_int1.or call_int_str) fun Fz H a x o d Q h1 e k => by
    unfold pInt at e
    split at e
    · cases e
      exact .inl (.inl ⟨_, by rw [rInt h1], k _ _ resI⟩)
    · cases e
      exact .inl (.inr ⟨_, by rw [rBl h1], k _ _ resI⟩)
    · rename_i z
      split at e
      · rename_i hz
        cases e1 : PySem.intText? z with
        | none => rw [e1] at e; cases e
        | some n =>
          rw [e1] at e; cases e
          exact .inr ⟨z, n, by rw [rStr h1], e1, hz, k _ _ resI⟩
      · cases e
    · cases e
theorem pr_str : CallR X (.type "str") (fun xs H Q => ∃ x, xs = [x] ∧ rP G .toStr [x] H Q) :=
  call1 (g := pStr) (fun _ => rfl) call_str_int fun Fz H a x o d Q h1 e k => by
    unfold pStr at e
    split at e
    · split at e
      · rename_i hz
        cases e
        exact ⟨_, by rw [rInt h1], hz, k _ _ resS⟩
      · cases e
    · cases e
theorem pr_abs : CallR X (.builtin "abs") (fun xs H Q => ∃ x, xs = [x] ∧ rP G .abs [x] H Q) :=
  call1 (g := pAbs) (fun _ => rfl) call_abs fun Fz H a x o d Q h1 e k => by
    unfold pAbs at e
    split at e
    · cases e
      exact ⟨_, by rw [rInt h1], k _ _ resI⟩
    · cases e
theorem pII_inv {g : Int → Int → Option Int} {a b : D} {o : Bool} {d : D} (e : pII g a b = some (o, d)) : ∃ i j k, a = .int i ∧ b = .int j ∧ g i j = some k ∧ o = false ∧ d = .int k := by
  unfold pII at e
  split at e
  · rename_i i j
    cases hg : g i j with
    | none => rw [hg] at e; cases e
    | some c => rw [hg] at e; cases e; exact ⟨i, j, c, rfl, rfl, hg, rfl, rfl⟩
  · cases e
theorem pr_min2 (hc : X.calm = true) : CallR X (.builtin "min") (fun xs H Q => ∃ x y, xs = [x, y] ∧ rP G .min2 [x, y] H Q) :=
  call2 (fun _ _ => rfl) (call_min2 hc) fun Fz H a b x y o d Q h1 h2 e k => by
    obtain ⟨i, j, c, rfl, rfl, hg, rfl, rfl⟩ := pII_inv e
    cases hg
    exact ⟨i, j, by rw [rInt h1, rInt h2], k _ _ resI⟩
theorem pr_max2 (hc : X.calm = true) : CallR X (.builtin "max") (fun xs H Q => ∃ x y, xs = [x, y] ∧ rP G .max2 [x, y] H Q) :=
  call2 (fun _ _ => rfl) (call_max2 hc) fun Fz H a b x y o d Q h1 h2 e k => by
    obtain ⟨i, j, c, rfl, rfl, hg, rfl, rfl⟩ := pII_inv e
    cases hg
    exact ⟨i, j, by rw [rInt h1, rInt h2], k _ _ resI⟩
theorem ints_inv : ∀ {ds : List D} {ns : List Int}, ints? ds = some ns → ds = ns.map .int
  | [], ns, e => by cases e; rfl
  | .int i :: r, ns, e => by
    have e : (ints? r).map (i :: ·) = some ns := e
    cases e1 : ints? r with
    | none => rw [e1] at e; cases e
    | some ms => rw [e1] at e; cases e; rw [ints_inv e1]; rfl
  | .non :: _, _, e | .bl _ :: _, _, e | .str _ :: _, _, e | .tup _ :: _, _, e | .lst _ :: _, _, e | .dct _ _ :: _, _, e | .ins _ _ _ :: _, _, e => by cases e
theorem bls_inv : ∀ {ds : List D} {ns : List Bool}, bls? ds = some ns → ds = ns.map .bl
  | [], ns, e => by cases e; rfl
  | .bl i :: r, ns, e => by
    have e : (bls? r).map (i :: ·) = some ns := e
    cases e1 : bls? r with
    | none => rw [e1] at e; cases e
    | some ms => rw [e1] at e; cases e; rw [bls_inv e1]; rfl
  | .non :: _, _, e | .int _ :: _, _, e | .str _ :: _, _, e | .tup _ :: _, _, e | .lst _ :: _, _, e | .dct _ _ :: _, _, e | .ins _ _ _ :: _, _, e => by cases e
theorem strs_inv : ∀ {ds : List D} {ns : List Str}, strs? ds = some ns → ds = ns.map .str
  | [], ns, e => by cases e; rfl
  | .str i :: r, ns, e => by
    have e : (strs? r).map (i :: ·) = some ns := e
    cases e1 : strs? r with
    | none => rw [e1] at e; cases e
    | some ms => rw [e1] at e; cases e; rw [strs_inv e1]; rfl
  | .non :: _, _, e | .int _ :: _, _, e | .bl _ :: _, _, e | .tup _ :: _, _, e | .lst _ :: _, _, e | .dct _ _ :: _, _, e | .ins _ _ _ :: _, _, e => by cases e
theorem relFs_ints {F : Addr → Prop} {H : Hp} : ∀ {ns : List Int} {xs : List V}, relFs G F H (ns.map .int) xs → xs = ns.map V.int
  | [], xs, h => by simpa only [List.map_nil, relFs] using h
  | n :: ns, xs, h => by
    simp only [List.map_cons, relFs] at h
    obtain ⟨x, r, rfl, h1, h2⟩ := h
    simp only [relF] at h1
    rw [h1, relFs_ints h2]; rfl
theorem relFs_bls {F : Addr → Prop} {H : Hp} : ∀ {ns : List Bool} {xs : List V}, relFs G F H (ns.map .bl) xs → xs = ns.map V.bl
  | [], xs, h => by simpa only [List.map_nil, relFs] using h
  | n :: ns, xs, h => by
    simp only [List.map_cons, relFs] at h
    obtain ⟨x, r, rfl, h1, h2⟩ := h
    simp only [relF] at h1
    rw [h1, relFs_bls h2]; rfl
theorem relFs_strs {F : Addr → Prop} {H : Hp} : ∀ {ns : List Str} {xs : List V}, relFs G F H (ns.map .str) xs → xs = ns.map V.str
  | [], xs, h => by simpa only [List.map_nil, relFs] using h
  | n :: ns, xs, h => by
    simp only [List.map_cons, relFs] at h
    obtain ⟨x, r, rfl, h1, h2⟩ := h
    simp only [relF] at h1
    rw [h1, relFs_strs h2]; rfl
theorem lst_inv {a : D} {ds : List D} (e : lst? a = some ds) : a = .lst ds := by
  cases a <;> cases e
  rfl
theorem pr_sum (hc : X.calm = true) : CallR X (.builtin "sum") (fun xs H Q => ∃ x, xs = [x] ∧ rP G .sum [x] H Q) :=
  call1 (g := pSum) (fun _ => rfl) (cr_sum hc) fun Fz H a x o d Q h1 e k => by
    unfold pSum at e
    cases e1 : lst? a with
    | none => rw [e1] at e; cases e
    | some ds =>
      rw [e1] at e
      obtain rfl := lst_inv e1
      cases e2 : ints? ds with
      | none => rw [Option.bind_some, e2] at e; cases e
      | some ns =>
        rw [Option.bind_some, e2] at e
        cases e
        obtain rfl := ints_inv e2
        obtain ⟨p, xs, rfl, t1, f1⟩ := rLst h1
        rw [relFs_ints f1] at t1
        exact ⟨p, ns, rfl, .inl t1, k _ _ resI⟩
theorem pr_all (hc : X.calm = true) : CallR X (.builtin "all") (fun xs H Q => ∃ x, xs = [x] ∧ rP G .all [x] H Q) :=
  call1 (g := pAll (·.all id)) (fun _ => rfl) (cr_all hc) fun Fz H a x o d Q h1 e k => by
    unfold pAll at e
    cases e1 : lst? a with
    | none => rw [e1] at e; cases e
    | some ds =>
      rw [e1] at e
      obtain rfl := lst_inv e1
      cases e2 : bls? ds with
      | none => rw [Option.bind_some, e2] at e; cases e
      | some ns =>
        rw [Option.bind_some, e2] at e
        cases e
        obtain rfl := bls_inv e2
        obtain ⟨p, xs, rfl, t1, f1⟩ := rLst h1
        rw [relFs_bls f1] at t1
        exact ⟨p, ns, rfl, .inl t1, k _ _ resB⟩
theorem pr_any (hc : X.calm = true) : CallR X (.builtin "any") (fun xs H Q => ∃ x, xs = [x] ∧ rP G .any [x] H Q) :=
  call1 (g := pAll (·.any id)) (fun _ => rfl) (cr_any hc) fun Fz H a x o d Q h1 e k => by
    unfold pAll at e
    cases e1 : lst? a with
    | none => rw [e1] at e; cases e
    | some ds =>
      rw [e1] at e
      obtain rfl := lst_inv e1
      cases e2 : bls? ds with
      | none => rw [Option.bind_some, e2] at e; cases e
      | some ns =>
        rw [Option.bind_some, e2] at e
        cases e
        obtain rfl := bls_inv e2
        obtain ⟨p, xs, rfl, t1, f1⟩ := rLst h1
        rw [relFs_bls f1] at t1
        exact ⟨p, ns, rfl, .inl t1, k _ _ resB⟩
theorem seq_inv {a : D} {ds : List D} (e : seq? a = some ds) : a = .tup ds ∨ a = .lst ds := by
  cases a <;> cases e
  · exact .inl rfl
  · exact .inr rfl
theorem pr_tuple (hK : X.K = G.K) : CallR X (.type "tuple") (fun xs H Q => ∃ x, xs = [x] ∧ rP G .tuple [x] H Q) :=
  call1 (g := pTuple) (fun _ => rfl) call_tuple_of fun Fz H a x o d Q h1 e k => by
    unfold pTuple at e
    cases e1 : seq? a with
    | none => rw [e1] at e; cases e
    | some ds =>
      rw [e1] at e
      cases e
      rcases seq_inv e1 with rfl | rfl
      · obtain ⟨p, xs, rfl, t1, f1⟩ := rTup h1
        exact ⟨p, xs, rfl, .inr ⟨hK ▸ t1, k _ _ (res0 (by simp only [relF]; exact ⟨p, xs, rfl, t1, f1⟩))⟩⟩
      · obtain ⟨p, xs, rfl, t1, f1⟩ := rLst h1
        exact ⟨p, xs, rfl, .inl ⟨.inl t1, fun l hl => k _ _ (resT hl f1)⟩⟩
theorem its_inv {a : D} {ds : List D} (e : its? a = some ds) : a = .tup ds ∨ a = .lst ds ∨ ∃ vs, a = .dct ds vs := by
  cases a <;> cases e
  · exact .inl rfl
  · exact .inr (.inl rfl)
  · exact .inr (.inr ⟨_, rfl⟩)
theorem pr_list (hK : X.K = G.K) (dct : CallR X (.type "list") (fun xs H Q => ∃ x F ks vs, xs = [x] ∧ relR G F H (.dct ks vs) x ∧ ks.length ≤ sizeLine ∧ ∀ v H', resOk G F H true (.lst ks) v H' → Q v H')) :
    CallR X (.type "list") (fun xs H Q => ∃ x, xs = [x] ∧ rP G .list [x] H Q) :=
  call1 (g := pList) (fun _ => rfl) (call_list_of.or dct) fun Fz H a x o d Q h1 e k => by
    unfold pList at e
    cases e1 : its? a with
    | none => rw [e1] at e; cases e
    | some ds =>
      rw [e1, Option.bind_some] at e
      split at e
      · rename_i hz
        cases e
        rcases its_inv e1 with rfl | rfl | ⟨vs, rfl⟩
        · obtain ⟨p, xs, rfl, t1, f1⟩ := rTup h1
          exact .inl ⟨p, xs, rfl, .inr (hK ▸ t1), fun l hl => k _ _ (resL hl f1)⟩
        · obtain ⟨p, xs, rfl, t1, f1⟩ := rLst h1
          exact .inl ⟨p, xs, rfl, .inl (.inl t1), fun l hl => k _ _ (resL hl f1)⟩
        · exact .inr ⟨x, Fz, ds, vs, rfl, h1, hz, k⟩
      · cases e
/-! ### isinstance -/
def tyNm : Ty → String
  | .tInt => "int" | .tStr => "str" | .tBool => "bool" | .tTuple => "tuple" | .tList => "list"
def dNm : D → String
  | .non => "NoneType" | .bl _ => "bool" | .int _ => "int" | .str _ => "str" | .tup _ => "tuple" | .lst _ => "list" | _ => ""
theorem tyX_of {F : Addr → Prop} {H : Hp} {a : D} {x : V} (hf : flatTy a = true) (h : relR G F H a x) : TyX G.K H x (.type (dNm a)) := by
  cases a with
  | non => rw [rNon h]; exact .base .non
  | bl b => rw [rBl h]; exact .base (.bl b)
  | int b => rw [rInt h]; exact .base (.int b)
  | str b => rw [rStr h]; exact .base (.str b)
  | tup ds =>
    obtain ⟨p, xs, rfl, t1, _⟩ := rTup h
    rcases t1 with (t | ⟨o, t⟩) | ⟨o, its, n, t, c, _⟩
    · exact .base (.tup t)
    · exact .fTuple t
    · exact .kTuple t c
  | lst ds =>
    obtain ⟨p, xs, rfl, t1, _⟩ := rLst h
    rcases t1 with t | ⟨o, t⟩
    · exact .base (.lst t)
    · exact .base (.frz t)
  | dct _ _ => cases hf
  | ins _ _ _ => cases hf
theorem kit_is {K : PySem.W.Frag} {a : D} {t : Ty} (hf : flatTy a = true) : PySem.W.kitOne K (.type (dNm a)) (.type (tyNm t)) = some (isTy a t) := by
  cases a <;> first | cases hf | skip
  all_goals (cases t <;> simp only [dNm, tyNm, isTy] <;> exact kit_ty (by decide +kernel))
theorem kit_isAny {K : PySem.W.Frag} {a : D} (hf : flatTy a = true) : ∀ ts : List Ty, PySem.W.kitAny K (.type (dNm a)) (ts.map fun t => Value.type (tyNm t)) = some (ts.any (isTy a))
  | [] => rfl
  | t :: ts => by
    rw [List.map_cons, List.any_cons]
    refine kitAny_cons (kit_is hf) (fun e => by rw [e, Bool.false_or]; exact kit_isAny hf ts) fun e => by rw [e, Bool.true_or]
theorem clsV_all : ∀ ts : List Ty, Paired ClsV (ts.map fun t => V.ty (tyNm t)) (ts.map fun t => Value.type (tyNm t))
  | [] => .nil
  | t :: ts => .cons (.ty _) (clsV_all ts)
theorem pr_isi (hK : X.K = G.K) (t : Ty) : CallR X (.builtin "isinstance") (fun xs H Q => ∃ x, xs = [x, .ty (tyNm t)] ∧ rP G (.isinst [t]) [x] H Q) :=
  callImp call_isi fun xs H Q ⟨x, e0, Fz, ds, o, d, hr, e, k⟩ => by
    obtain ⟨a, rfl, h1⟩ := rr1 hr
    rw [show prim (.isinst [t]) [a] = pIsi [t] a from rfl] at e
    unfold pIsi at e
    split at e
    · rename_i hf
      cases e
      exact ⟨x, _, _, _, _, e0, .ty _, hK ▸ tyX_of hf h1, kit_is hf, by
        have : [t].any (isTy a) = isTy a t := by simp
        rw [this] at k
        exact k _ _ resB⟩
    · cases e
theorem pr_isiT (hK : X.K = G.K) (ts : List Ty) : CallR X (.builtin "isinstance") (fun xs H Q => ∃ x tp, xs = [x, .ref tp] ∧ H tp = some (.tup (ts.map fun t => V.ty (tyNm t))) ∧ rP G (.isinst ts) [x] H Q) :=
  callImp call_isiT fun xs H Q ⟨x, tp, e0, hT, Fz, ds, o, d, hr, e, k⟩ => by
    obtain ⟨a, rfl, h1⟩ := rr1 hr
    rw [show prim (.isinst ts) [a] = pIsi ts a from rfl] at e
    unfold pIsi at e
    split at e
    · rename_i hf
      cases e
      exact ⟨x, tp, _, _, _, _, e0, hT, clsV_all ts, hK ▸ tyX_of hf h1, kit_isAny hf ts, k _ _ resB⟩
    · cases e
/-! ### join, index, count -/
theorem pr_join : MtR X "str.join" (fun x xs H Q => ∃ y, xs = [y] ∧ rP G .join [x, y] H Q) := fun pins s σ H x xs v us Q I rx rs ⟨y, e0, Fz, ds, o, d, hr, e, k⟩ => by
  subst e0
  obtain ⟨a, b, rfl, h1, h2⟩ := rr2 hr
  rw [show prim .join [a, b] = pJoin a b from rfl] at e
  unfold pJoin at e
  split at e
  · rename_i z ds
    cases e1 : strs? ds with
    | none => rw [e1] at e; cases e
    | some ys =>
      rw [e1, Option.bind_some] at e
      split at e
      · rename_i hz
        cases e
        obtain rfl := strs_inv e1
        obtain ⟨p, xs, rfl, t1, f1⟩ := rLst h2
        rw [relFs_strs f1] at t1
        exact mt_join pins s σ H x _ v us Q I rx rs ⟨z, p, ys, rStr h1, rfl, .inl (.inl t1), hz, k _ _ resS⟩
      · cases e
  · cases e
theorem idxOf_some {x : D} : ∀ {ds : List D} {n : Nat}, idxOf x ds = some n → n < ds.length ∧ (∀ d, ds[n]? = some d → D.eq d x = true) ∧ ∀ m d, m < n → ds[m]? = some d → D.eq d x = false
  | [], _, e => by cases e
  | d :: ds, n, e => by
    unfold idxOf at e
    split at e
    · rename_i h
      cases e
      exact ⟨by simp, fun y hy => by simp at hy; subst hy; exact h, fun m _ hm => by omega⟩
    · rename_i h
      cases e1 : idxOf x ds with
      | none => rw [e1] at e; cases e
      | some k =>
        rw [e1] at e; cases e
        obtain ⟨h1, h2, h3⟩ := idxOf_some e1
        refine ⟨by simp only [List.length_cons]; omega, fun y hy => h2 y (by simpa using hy), fun m y hm hy => ?_⟩
        cases m with
        | zero => simp at hy; subst hy; simpa using h
        | succ m => exact h3 m y (Nat.lt_of_succ_lt_succ hm) (by simpa using hy)
theorem pys_get {ds : List D} {i : Nat} : (D.pys ds)[i]? = (ds[i]?).map D.py := by rw [pys_map, List.getElem?_map]
/-- what == answers, place by place -/
theorem eqs_at {s : Shared} {ds : List D} {us : List Value} {x : D} {u : Value} {as bs : List Addr} (hu : X.A.units + 64 < cLine) (hp : D.pls ds = true) (hx : x.pl = true) (hd : x.dep ≤ 60)
    (r1 : ReadsAll s.heap us (D.pys ds) as) (r2 : Reads s.heap u x.py bs) (j : Nat) (hj : j < us.toArray.size) : SeqAt.EqAt X.A.in1 s us.toArray[j] u (match ds[j]? with | some d => D.eq d x | none => false) := by
  have hl := W.readsAll_len (vs := us.toArray) (by simpa using r1)
  have hl2 : us.length = ds.length := by
    have : (D.pys ds).length = ds.length := by rw [pys_map, List.length_map]
    simpa [this] using hl
  have hj' : j < us.length := by simpa using hj
  obtain ⟨cs, q1, q2, q3, q4⟩ := W.readsAll_at r1 j us[j] (List.getElem?_eq_getElem hj')
  have hjd : j < ds.length := by omega
  have e1 : (D.pys ds).getD j .none = (ds[j]).py := by
    rw [List.getD_eq_getElem?_getD, pys_get, List.getElem?_eq_getElem hjd]; rfl
  rw [e1] at q1
  have hpj : (ds[j]).pl = true := by
    rw [pls_all] at hp
    exact List.all_eq_true.mp hp _ (List.getElem_mem hjd)
  rw [List.getElem?_eq_getElem hjd]
  have := SeqAt.eqAt_plain (ds[j]).py x.py X.A.in1 s us[j] u cs bs q1 r2 (plain_py _ hpj) (plain_py x hx) (by
    rw [dep_py x hx]
    show X.A.units + 1 + _ < _
    omega)
  exact this
theorem pr_indexL (hK : X.K = G.K) (hu : X.A.units + 64 < cLine) : MtR X "list.index" (fun x xs H Q => ∃ y F ds o d, xs = [y] ∧ relRs G F H [.lst ds, o] [x, y] ∧ pIndex (.lst ds) o = some (false, d) ∧ Q (match d with | .int i => .int i | _ => .non) H) := fun pins s σ H x xs v us Q I rx rs ⟨y, Fz, ds, b, d, e0, hr, e, k⟩ => by
  subst e0
  obtain ⟨a', b', e9, h1, h2⟩ := rr2 hr
  simp only [List.cons.injEq, and_true] at e9
  obtain ⟨rfl, rfl⟩ := e9
  unfold pIndex at e
  rw [show seq? (D.lst ds) = some ds from rfl, Option.bind_some] at e
  split at e
  · rename_i h
    simp only [Bool.and_eq_true, decide_eq_true_eq] at h
    cases e1 : idxOf b ds with
    | none => rw [e1] at e; cases e
    | some n =>
      rw [e1] at e; cases e
      obtain ⟨g1, g2, g3⟩ := idxOf_some e1
      have hpl : D.pls ds = true := by rw [pls_all]; exact h.2
      obtain ⟨p, ys, rfl, t1, f1⟩ := rLst h1
      obtain ⟨u, rfl, ry⟩ := vals1 rs
      cases rx
      obtain ⟨its, rv, ⟨o, m, ho, hc, _, hd⟩, hz⟩ := I.list (.inl t1)
      obtain ⟨as, q1⟩ := readsAll_of hK I hpl f1 rv
      obtain ⟨bs, q2⟩ := reads_of hK I h.1.1 h2 ry
      have l1 := relFs_length f1
      have l2 := rv.length
      obtain ⟨cls, dd, data, sl⟩ := o
      simp only at hc hd
      subst hc hd
      rw [sizeLine_eq] at hz
      refine call_meets F.slot_list_index ⟨_, ho, rfl⟩ F.entry_list_index (F.args_list_index_2 _ _)
        (SeqAt.list_index2_found p its.toArray m dd sl u (fun j => match ds[j]? with | some d => D.eq d b | none => false) n (by simp; omega) (Nat.zero_le _) (by omega) ?_ ?_) ⟨ho, fun j hj' => eqs_at hu hpl h.1.1 h.1.2 q1 q2 j hj', .int n, H, I.tok _, ⟨_, rfl⟩, k⟩
      · rw [List.getElem?_eq_getElem g1]; exact g2 _ (List.getElem?_eq_getElem g1)
      · intro m' hm _ hlt
        rw [List.getElem?_eq_getElem (by omega : m' < ds.length)]
        exact g3 m' _ hlt (List.getElem?_eq_getElem (by omega))
  · cases e
theorem pr_indexT (hK : X.K = G.K) (hu : X.A.units + 64 < cLine) : MtR X "tuple.index" (fun x xs H Q => ∃ y F ds o d, xs = [y] ∧ relRs G F H [.tup ds, o] [x, y] ∧ pIndex (.tup ds) o = some (false, d) ∧ Q (match d with | .int i => .int i | _ => .non) H) := fun pins s σ H x xs v us Q I rx rs ⟨y, Fz, ds, b, d, e0, hr, e, k⟩ => by
  subst e0
  obtain ⟨a', b', e9, h1, h2⟩ := rr2 hr
  simp only [List.cons.injEq, and_true] at e9
  obtain ⟨rfl, rfl⟩ := e9
  unfold pIndex at e
  rw [show seq? (D.tup ds) = some ds from rfl, Option.bind_some] at e
  split at e
  · rename_i h
    simp only [Bool.and_eq_true, decide_eq_true_eq] at h
    cases e1 : idxOf b ds with
    | none => rw [e1] at e; cases e
    | some n =>
      rw [e1] at e; cases e
      obtain ⟨g1, g2, g3⟩ := idxOf_some e1
      have hpl : D.pls ds = true := by rw [pls_all]; exact h.2
      obtain ⟨p, ys, rfl, t1, f1⟩ := rTup h1
      obtain ⟨u, rfl, ry⟩ := vals1 rs
      cases rx
      obtain ⟨its, rv, ⟨o, ho, hc, m, hd⟩, hz⟩ := I.tuple (hK ▸ t1)
      obtain ⟨as, q1⟩ := readsAll_of hK I hpl f1 rv
      obtain ⟨bs, q2⟩ := reads_of hK I h.1.1 h2 ry
      have l1 := relFs_length f1
      have l2 := rv.length
      obtain ⟨cls, dd, data, sl⟩ := o
      simp only at hc hd
      subst hc hd
      refine call_meets F.slot_tuple_index ⟨_, ho, rfl⟩ F.entry_tuple_index (F.args_tuple_index_2 _ _)
        (SeqAt.tuple_index2_found p its.toArray m dd sl u (fun j => match ds[j]? with | some d => D.eq d b | none => false) n (by simp; omega) (Nat.zero_le _) (by simp; omega) ?_ ?_) ⟨ho, fun j hj' => eqs_at hu hpl h.1.1 h.1.2 q1 q2 j hj', .int n, H, I.tok _, ⟨_, rfl⟩, k⟩
      · rw [List.getElem?_eq_getElem g1]; exact g2 _ (List.getElem?_eq_getElem g1)
      · intro m' hm _ hlt
        rw [List.getElem?_eq_getElem (by omega : m' < ds.length)]
        exact g3 m' _ hlt (List.getElem?_eq_getElem (by omega))
  · cases e
theorem countP_py (x : D) : ∀ ds : List D, (D.pys ds).countP (fun y => PyData.eqv y x.py) = ds.countP fun d => D.eq d x
  | [] => rfl
  | d :: ds => by simp only [D.pys, List.countP_cons, countP_py x ds]; rfl
theorem pr_countL (hK : X.K = G.K) (hu : X.A.units + 64 < cLine) : MtR X "list.count" (fun x xs H Q => ∃ y F ds o, xs = [y] ∧ relRs G F H [.lst ds, o] [x, y] ∧ (o.pl && decide (o.dep ≤ 60) && ds.all (·.pl)) = true ∧ Q (.int (ds.countP fun d => D.eq d o : Nat)) H) := fun pins s σ H x xs v us Q I rx rs ⟨y, Fz, ds, b, e0, hr, h, k⟩ => by
  subst e0
  obtain ⟨a', b', e9, h1, h2⟩ := rr2 hr
  simp only [List.cons.injEq, and_true] at e9
  obtain ⟨rfl, rfl⟩ := e9
  simp only [Bool.and_eq_true, decide_eq_true_eq] at h
  have hpl : D.pls ds = true := by rw [pls_all]; exact h.2
  obtain ⟨p, ys, rfl, t1, f1⟩ := rLst h1
  obtain ⟨u, rfl, ry⟩ := vals1 rs
  cases rx
  obtain ⟨its, rv, pl, hz⟩ := I.list (.inl t1)
  obtain ⟨as, q1⟩ := readsAll_of hK I hpl f1 rv
  obtain ⟨bs, q2⟩ := reads_of hK I h.1.1 h2 ry
  refine SeqAt.count_list_data (vs := its.toArray) pl.isList (by simpa using q1) q2 (plain_pys ds hpl) (plain_py _ h.1.1) (by rw [dep_py _ h.1.1]; omega) ⟨.int _, H, I.tok _, ⟨_, rfl⟩, ?_⟩
  rw [countP_py]; exact k
theorem pr_countT (hK : X.K = G.K) (hu : X.A.units + 64 < cLine) : MtR X "tuple.count" (fun x xs H Q => ∃ y F ds o, xs = [y] ∧ relRs G F H [.tup ds, o] [x, y] ∧ (o.pl && decide (o.dep ≤ 60) && ds.all (·.pl)) = true ∧ Q (.int (ds.countP fun d => D.eq d o : Nat)) H) := fun pins s σ H x xs v us Q I rx rs ⟨y, Fz, ds, b, e0, hr, h, k⟩ => by
  subst e0
  obtain ⟨a', b', e9, h1, h2⟩ := rr2 hr
  simp only [List.cons.injEq, and_true] at e9
  obtain ⟨rfl, rfl⟩ := e9
  simp only [Bool.and_eq_true, decide_eq_true_eq] at h
  have hpl : D.pls ds = true := by rw [pls_all]; exact h.2
  obtain ⟨p, ys, rfl, t1, f1⟩ := rTup h1
  obtain ⟨u, rfl, ry⟩ := vals1 rs
  cases rx
  obtain ⟨its, rv, pl, hz⟩ := I.tuple (hK ▸ t1)
  obtain ⟨as, q1⟩ := readsAll_of hK I hpl f1 rv
  obtain ⟨bs, q2⟩ := reads_of hK I h.1.1 h2 ry
  refine SeqAt.count_tuple_data (vs := its.toArray) pl (by simpa using q1) q2 (plain_pys ds hpl) (plain_py _ h.1.1) (by rw [dep_py _ h.1.1]; omega) ⟨.int _, H, I.tok _, ⟨_, rfl⟩, ?_⟩
  rw [countP_py]; exact k
end
end PF
set_option Elab.async false
set_option linter.all false
set_option maxRecDepth 100000
set_option maxHeartbeats 1000000
/-! PF3d: dicts by values. -/
namespace PF
open PySem PySem.Spec PyProof.Rows L2
section
variable {X : Cx} {G : Gp}
theorem dct_in (hP : X.prog = G.P) (hw : X.w = G.w) (hK : X.K = G.K) (hu : X.A.units + 64 < cLine) : OpR X (compareOp .In) (fun x y H Q => ∃ F k ks vs, relR G F H k x ∧ relR G F H (.dct ks vs) y ∧ keyOk k ks = true ∧ Q (.bl (if false then !dHas k ks else dHas k ks)) H) := fun _ _ _ _ _ _ _ _ _ _ _ _ ⟨_, _, _, _, _, h, _⟩ => (relR_dct h).elim
theorem dct_notIn (hP : X.prog = G.P) (hw : X.w = G.w) (hK : X.K = G.K) (hu : X.A.units + 64 < cLine) : OpR X (compareOp .NotIn) (fun x y H Q => ∃ F k ks vs, relR G F H k x ∧ relR G F H (.dct ks vs) y ∧ keyOk k ks = true ∧ Q (.bl (if true then !dHas k ks else dHas k ks)) H) := fun _ _ _ _ _ _ _ _ _ _ _ _ ⟨_, _, _, _, _, h, _⟩ => (relR_dct h).elim
theorem dct_idx (hP : X.prog = G.P) (hw : X.w = G.w) (hK : X.K = G.K) (hu : X.A.units + 64 < cLine) : IxR X (fun x y H Q => ∃ F k ks vs w, relR G F H (.dct ks vs) x ∧ relR G F H k y ∧ keyOk k ks = true ∧ dGet k ks vs = some w ∧ ∀ z, relF G F H w z → Q z H) := fun _ _ _ _ _ _ _ _ _ _ _ _ _ _ ⟨_, _, _, _, _, h, _⟩ _ => (relR_dct h).elim
theorem dct_len (hP : X.prog = G.P) (hw : X.w = G.w) (hK : X.K = G.K) : CallR X (.builtin "len") (fun xs H Q => ∃ x F ks vs, xs = [x] ∧ relR G F H (.dct ks vs) x ∧ Q (.int ks.length) H) := fun _ _ _ _ _ _ _ _ _ ⟨_, _, _, _, _, h, _⟩ => (relR_dct h).elim
theorem dct_list (hP : X.prog = G.P) (hw : X.w = G.w) (hK : X.K = G.K) : CallR X (.type "list") (fun xs H Q => ∃ x F ks vs, xs = [x] ∧ relR G F H (.dct ks vs) x ∧ ks.length ≤ sizeLine ∧ ∀ v H', resOk G F H true (.lst ks) v H' → Q v H') := fun _ _ _ _ _ _ _ _ _ ⟨_, _, _, _, _, h, _⟩ => (relR_dct h).elim
theorem dct_tru (hP : X.prog = G.P) (hw : X.w = G.w) (hK : X.K = G.K) : TruR X (fun x H Q => ∃ F ks vs, relR G F H (.dct ks vs) x ∧ Q (!ks.isEmpty) H) := fun _ _ _ _ _ _ _ _ _ ⟨_, _, _, h, _⟩ => (relR_dct h).elim
end
end PF
set_option Elab.async false
set_option linter.all false
set_option maxRecDepth 100000
set_option maxHeartbeats 1000000
/-! PF4: expressions. -/
namespace PF
open PySem PySem.Spec PyProof.Rows L2

/-! ### lists of arguments -/
def notStar : Expr → Bool
  | .Starred _ _ => false
  | _ => true
theorem star_cons {e : Expr} {es : List Expr} {env : PySem.Env} (h : notStar e = true) : starEach (e :: es) env = (false, eval e env) :: starEach es env := by
  cases e <;> first | rfl | cases h
theorem back_any {pos : Pos} {env : PySem.Env} : ∀ {es : List Expr}, es.all notStar = true → (backTo pos (starEach es env)).any (·.1) = false
  | [], _ => rfl
  | e :: es, h => by
    rw [List.all_cons, Bool.and_eq_true] at h
    rw [star_cons h.1]
    show (false || (backTo pos (starEach es env)).any (·.1)) = false
    rw [back_any h.2]; rfl
theorem back_all {pos : Pos} {env : PySem.Env} : ∀ {es : List Expr}, es.all notStar = true → (backTo pos (starEach es env)).all (fun x => !x.1) = true
  | [], _ => rfl
  | e :: es, h => by
    rw [List.all_cons, Bool.and_eq_true] at h
    rw [star_cons h.1]
    show (true && (backTo pos (starEach es env)).all (fun x => !x.1)) = true
    rw [back_all h.2]; rfl

section
variable {G : Gp} {Φ : Str → List Sl → FR} {γ : Str → Option D} {W : WX} {X : Cx} {σ : L2.St} {H : Hp}
theorem rdE_intro {m : E} {Q : VK} (h : rdE G Φ γ W m σ H Q) : ∃ F env, Rel G F H env σ ∧ kE G W F H env σ Q (ev Φ γ m env) := h
/-- .. of operands, late -/
theorem op_rdEs {p : Op} {es : List E} {Q : VK} (h : rdE G Φ γ W (.op p es) σ H Q) : rdEs G Φ γ W es σ H fun xs H' => rP G p xs H' Q := by
  obtain ⟨Fz, env, R, k⟩ := h
  refine ⟨Fz, env, R, ?_⟩
  rw [ev] at k
  cases hs : evs Φ γ es env with
  | st => rw [hs] at k; exact k
  | ex x e1 => rw [hs] at k; exact k
  | ok vs e1 =>
    rw [hs] at k
    intro F1 H1 xs p1 v1 n1
    simp only [REs.bd] at k
    cases hl : lates vs e1 with
    | none => rw [hl] at k; exact k.elim
    | some ds =>
      rw [hl] at k
      simp only [onE, primE] at k
      cases hp : prim p ds with
      | none => rw [hp] at k; exact k.elim
      | some q =>
        obtain ⟨o, d⟩ := q
        rw [hp] at k
        refine ⟨F1, ds, o, d, lates_ok v1 p1.rel hl, hp, fun v H2 res => ?_⟩
        have p2 := p1.trans (Pst.grow p1.rel res.1)
        have k : kE G W Fz H env σ Q (.ok (flOf o) d e1) := k
        refine k F1 H2 v p2 ?_ ?_
        · cases o with
          | false =>
            have r := res.2
            rw [if_neg Bool.false_ne_true] at r
            exact r
          | true =>
            have r := res.2
            rw [if_pos rfl] at r
            obtain ⟨a, e, n, ro⟩ := r
            exact ⟨a, e, fun z => p1.rel.fin a z n, fun z => p1.rel.there z n, ro⟩
        · intro ef a ea
          cases o with
          | false => cases ef
          | true =>
            have r := res.2
            rw [if_pos rfl] at r
            obtain ⟨b, e, n, ro⟩ := r
            rw [e] at ea; cases ea
            exact p1.ext.alive a n
theorem op1 {p : Op} {a : E} {Q : VK} (h : rdE G Φ γ W (.op p [a]) σ H Q) : rdE G Φ γ W a σ H fun x H1 => rP G p [x] H1 Q := by
  obtain ⟨Fz, env, R, k⟩ := rdEs_cons (op_rdEs h)
  exact ⟨Fz, env, R, k.imp fun v H h => rdEs_nil h⟩
theorem rdE_mono {m : E} {Q Q' : VK} (h : rdE G Φ γ W m σ H Q) (i : ∀ v H, Q v H → Q' v H) : rdE G Φ γ W m σ H Q' := by
  obtain ⟨Fz, env, R, k⟩ := h
  exact ⟨Fz, env, R, k.imp i⟩
theorem op2 {p : Op} {a b : E} {Q : VK} (h : rdE G Φ γ W (.op p [a, b]) σ H Q) : rdE G Φ γ W a σ H fun x H1 => rdE G Φ γ W b σ H1 fun y H2 => rP G p [x, y] H2 Q :=
  rdE_mono (rdEs_cons (op_rdEs h)) fun _ _ h => rdE_mono (rdEs_cons h) fun _ _ h => rdEs_nil h
theorem op3 {p : Op} {a b c : E} {Q : VK} (h : rdE G Φ γ W (.op p [a, b, c]) σ H Q) : rdE G Φ γ W a σ H fun x H1 => rdE G Φ γ W b σ H1 fun y H2 => rdE G Φ γ W c σ H2 fun z H3 => rP G p [x, y, z] H3 Q :=
  rdE_mono (rdEs_cons (op_rdEs h)) fun _ _ h => rdE_mono (rdEs_cons h) fun _ _ h => rdE_mono (rdEs_cons h) fun _ _ h => rdEs_nil h
end

/-! ### names -/
section
variable {G : Gp} {Φ : Str → List Sl → FR} {γ : Str → Option D} {W : WX} {X : Cx} {F : Addr → Prop} {H : Hp} {env : Env} {σ : L2.St}
theorem slAt_some {i : Nat} {v : V} (h : slAt σ i = some v) : σ[i]? = some (some v) := by
  unfold slAt at h
  cases e : σ[i]? with
  | none => rw [e] at h; cases h
  | some o => rw [e] at h; simp only [Option.getD_some] at h; rw [h]
/-- an owned slot is frozen -/
theorem Pst.frz {i : Nat} {d : D} (R : Rel G F H env σ) (e : getS env i = .ow d) : ∃ a, slAt σ i = some (.ref a) ∧ Pst G F H env σ (fun b => F b ∨ b = a) H (setS env i (.fr d)) σ ∧ relF G (fun b => F b ∨ b = a) H d (.ref a) := by
  have q := R.slot i
  rw [e] at q
  obtain ⟨a, h1, h2, h3⟩ := q
  have hi : i < env.length := getS_lt (by rw [e]; exact fun z => nomatch z)
  have hr : relF G (fun b => F b ∨ b = a) H d (.ref a) := relF_of_relO (relO_sub (fun _ z => .inl z) h3) (.inr rfl)
  have own : ∀ j, isOwn (getS (setS env i (.fr d)) j) = true → j ≠ i ∧ isOwn (getS env j) = true := fun j hj => by
    by_cases hji : i = j
    · subst hji; rw [getS_set_self hi] at hj; cases hj
    · rw [getS_set_ne hji] at hj; exact ⟨fun z => hji z.symm, hj⟩
  have na : ∀ j, isOwn (getS (setS env i (.fr d)) j) = true → slAt σ j ≠ some (.ref a) := fun j hj z => by
    obtain ⟨h4, h5⟩ := own j hj
    exact h4 (R.one j i a h5 (by rw [e]; rfl) z h1)
  have there := (relO_there h3).1
  have hMl : ∀ b, Ml (setS env i (.fr d)) σ b → Ml env σ b := fun b ⟨j, h4, h5⟩ => ⟨j, (own j h4).2, h5⟩
  refine ⟨a, h1, ⟨⟨fun _ _ h _ => h, fun _ h => h, fun _ h => .inl h, fun b h => h.elim .inl fun z => .inr (.inl ⟨i, d, e, by rw [z]; exact h1⟩)⟩, ⟨by rw [setS_length]; exact R.len, fun j => ?_, fun j k b hj hk => R.one j k b (own j hj).2 (own k hk).2, fun b h => ?_⟩, fun b h => .inl (hMl b h), fun b ⟨j, d', h4, h5⟩ => ?_, fun j d' h => ?_⟩, hr⟩
  · by_cases hji : i = j
    · subst hji; rw [getS_set_self hi]; exact ⟨_, h1, hr⟩
    · rw [getS_set_ne hji]
      have q := R.slot j
      have naj := na j
      rw [getS_set_ne hji] at naj
      cases z : getS env j with
      | non => trivial
      | fr x =>
        rw [z] at q
        obtain ⟨v, h4, h5⟩ := q
        exact ⟨v, h4, relF_sub (fun _ z => .inl z) x v h5⟩
      | ow x =>
        rw [z] at q naj
        obtain ⟨v, h4, h6, h5⟩ := q
        exact ⟨v, h4, fun k => k.elim h6 fun k => naj rfl (by rw [h4, k]), relO_sub (fun _ z => .inl z) h5⟩
      | lk x =>
        rw [z] at q naj
        obtain ⟨v, h4, h6, h5⟩ := q
        exact ⟨v, h4, fun k => k.elim h6 fun k => naj rfl (by rw [h4, k]), relO_sub (fun _ z => .inl z) h5⟩
  · rcases h with h | h
    · exact R.fin b h
    · obtain ⟨o, ho⟩ := there
      rw [h, ho]; exact fun z => nomatch z
  · have hj : j ≠ i := (own j (by rw [h4]; rfl)).1
    rw [getS_set_ne (Ne.symm hj)] at h4
    exact .inl ⟨j, d', h4, h5⟩
  · have hj : j ≠ i := (own j (by rw [h]; rfl)).1
    rw [getS_set_ne (Ne.symm hj)] at h
    exact ⟨h, rfl⟩
theorem e_var {i : Nat} {x : Str} {pos : Pos} (hN : X.N[i]? = some x) (hv : Vis X.env.scope x) (hd : (x == ("__debug__" : Str)) = false) (hcd : (x == ("__classdict__" : Str)) = false) : PE X (.Name x pos) (rdE G Φ γ W (.var i)) :=
  PE.imp (pe_var hN hv hd hcd) fun σ H Q ⟨F, env, R, k⟩ => by
    rw [ev] at k
    cases e : getS env i with
    | non => rw [e] at k; exact k.elim
    | lk d => rw [e] at k; exact k.elim
    | fr d =>
      rw [e] at k
      have q := R.slot i
      rw [e] at q
      obtain ⟨v, h1, h2⟩ := q
      exact ⟨v, slAt_some h1, k F H v (.refl R) h2 fun z => nomatch z⟩
    | ow d =>
      rw [e] at k
      obtain ⟨a, h1, p, r⟩ := Pst.frz R e
      exact ⟨_, slAt_some h1, k _ H _ p r fun z => nomatch z⟩
theorem e_pk {i : Nat} {x : Str} {pos : Pos} (hN : X.N[i]? = some x) (hv : Vis X.env.scope x) (hd : (x == ("__debug__" : Str)) = false) (hcd : (x == ("__classdict__" : Str)) = false) : PE X (.Name x pos) (rdE G Φ γ W (.pk i)) :=
  PE.imp (pe_var hN hv hd hcd) fun σ H Q ⟨F, env, R, k⟩ => by
    rw [ev] at k
    cases e : (getS env i).d? with
    | none => rw [e] at k; exact k.elim
    | some d =>
      rw [e] at k
      have q := R.slot i
      have : ∃ v, slAt σ i = some v := by
        cases z : getS env i with
        | non => rw [z] at e; cases e
        | fr d => rw [z] at q; obtain ⟨v, h1, _⟩ := q; exact ⟨v, h1⟩
        | ow d => rw [z] at q; obtain ⟨v, h1, _⟩ := q; exact ⟨_, h1⟩
        | lk d => rw [z] at q; obtain ⟨v, h1, _⟩ := q; exact ⟨_, h1⟩
      obtain ⟨v, h1⟩ := this
      exact ⟨v, slAt_some h1, k F H v (.refl R) h1 fun z => nomatch z⟩
theorem e_lit {e : Expr} {d : D} {v : V} (h : PE X e (tC v)) (r : ∀ F H, relF G F H d v) : PE X e (rdE G Φ γ W (.lit d)) :=
  PE.imp h fun σ H Q ⟨F, env, R, k⟩ => by
    rw [ev] at k
    exact k F H v (.refl R) (r F H) fun z => nomatch z
theorem e_gl {e : Expr} {x : Str} {d : D} {v : V} (h : PE X e (tC v)) (hx : γ x = some d) (r : ∀ F H, relF G F H d v) : PE X e (rdE G Φ γ W (.gl x)) :=
  PE.imp h fun σ H Q ⟨F, env, R, k⟩ => by
    rw [ev, hx] at k
    exact k F H v (.refl R) (r F H) fun z => nomatch z
end
end PF
set_option Elab.async false
set_option linter.all false
set_option maxRecDepth 100000
set_option maxHeartbeats 1000000
/-! PF4b: operators, tests, displays, subscripts, calls of built-ins. -/
namespace PF
open PySem PySem.Spec PyProof.Rows L2

section
variable {G : Gp} {Φ : Str → List Sl → FR} {γ : Str → Option D} {W : WX} {X : Cx} {a b c : Expr} {ma mb mc : E} {pos : Pos}
theorem e_bin {op : Operator} {p : Op} (ho : OpR X (binaryOp op) (fun x y => rP G p [x, y])) (ha : PE X a (rdE G Φ γ W ma)) (hb : PE X b (rdE G Φ γ W mb)) : PE X (.BinOp a op b pos) (rdE G Φ γ W (.op p [ma, mb])) :=
  PE.imp (pe_op ho ha hb) fun _ _ _ h => op2 h
theorem e_un {op : UnaryOp} {p : Op} (ho : UnR X (unaryOp op) (fun x => rP G p [x])) (ha : PE X a (rdE G Φ γ W ma)) : PE X (.UnaryOp op a pos) (rdE G Φ γ W (.op p [ma])) :=
  PE.imp (pe_un ho ha) fun _ _ _ h => op1 h
theorem e_cmp {op : CmpOp} {p : Op} (ho : OpR X (compareOp op) (fun x y => rP G p [x, y])) (ha : PE X a (rdE G Φ γ W ma)) (hb : PE X b (rdE G Φ γ W mb)) (hm : behindInMarks op b = false) : PE X (.Compare a [op] [b] pos) (rdE G Φ γ W (.op p [ma, mb])) :=
  PE.imp (pe_cmpR ho ha hb hm) fun _ _ _ h => op2 h
theorem e_is {op : CmpOp} {p : Op} {j pos'} (ho : OpR X (compareOp op) (fun x y H Q => y = .non ∧ rP G p [x] H Q)) (ha : PE X a (rdE G Φ γ W ma)) : PE X (.Compare a [op] [.Constant .none j pos'] pos) (rdE G Φ γ W (.op p [ma])) :=
  PE.imp (pe_cmpR ho ha pe_non (by rfl)) fun _ _ _ h => rdE_mono (op1 h) fun _ _ h => ⟨rfl, h⟩
theorem e_ix (hr : IxR X (fun x y => rP G .idx [x, y])) (ha : PE X a (rdE G Φ γ W ma)) (hb : PE X b (rdE G Φ γ W mb)) (hs : PlainIx b) : PE X (.Subscript a b pos) (rdE G Φ γ W (.op .idx [ma, mb])) :=
  PE.imp (pe_ix hr ha hb hs) fun _ _ _ h => op2 h
theorem callR1 {f : Value} {p : Op} (hp : ∀ ds r, prim p ds = some r → ∃ a, ds = [a]) (h : CallR X f (fun xs H Q => ∃ x, xs = [x] ∧ rP G p [x] H Q)) : CallR X f (fun xs H Q => rP G p xs H Q) :=
  callImp h fun xs H Q h => by
    obtain ⟨Fz, ds, o, d, hr, e, k⟩ := h
    obtain ⟨a, rfl⟩ := hp ds _ e
    obtain ⟨x, r, e1, h1, h2⟩ := hr
    have e2 : r = [] := h2
    subst e2
    exact ⟨x, e1, Fz, [a], o, d, ⟨x, [], rfl, h1, rfl⟩, e, k⟩
theorem e_callB {p : Op} {id : String} {x : Str} {p1 : Pos} (hc : CallR X (.builtin id) (fun xs H Q => ∃ x, xs = [x] ∧ rP G p [x] H Q)) (hg : Gl X x) (hm : X.mg x = none) (hv : bootBuiltins x = some (.builtin id)) (ha : PE X a (rdE G Φ γ W ma)) (ns : notStar a = true)
    (hn : x ≠ "__name__") (hdb : (x == ("__debug__" : Str)) = false) : PE X (.Call (.Name x p1) [a] [] pos) (rdE G Φ γ W (.op p [ma])) :=
  PE.imp (pe_callB hc hg hm hv (pa_cons ha pa_nil (star_cons ns)) hn hdb (star_cons ns) rfl) fun _ _ _ h => rdE_mono (op1 h) fun v _ h => ⟨v, rfl, h⟩
theorem e_callT {p : Op} {id : String} {x : Str} {p1 : Pos} (hc : CallR X (.type id) (fun xs H Q => ∃ x, xs = [x] ∧ rP G p [x] H Q)) (hg : Gl X x) (hm : X.mg x = none) (hv : bootBuiltins x = some (.type id)) (ha : PE X a (rdE G Φ γ W ma)) (ns : notStar a = true)
    (hn : x ≠ "__name__") (hdb : (x == ("__debug__" : Str)) = false) : PE X (.Call (.Name x p1) [a] [] pos) (rdE G Φ γ W (.op p [ma])) :=
  PE.imp (pe_callTy hc hg hm hv (pa_cons ha pa_nil (star_cons ns)) hn hdb (star_cons ns) rfl) fun _ _ _ h => rdE_mono (op1 h) fun v _ h => ⟨v, rfl, h⟩
theorem e_callB2 {p : Op} {id : String} {x : Str} {p1 : Pos} (hc : CallR X (.builtin id) (fun xs H Q => ∃ x y, xs = [x, y] ∧ rP G p [x, y] H Q)) (hg : Gl X x) (hm : X.mg x = none) (hv : bootBuiltins x = some (.builtin id)) (ha : PE X a (rdE G Φ γ W ma)) (hb : PE X b (rdE G Φ γ W mb)) (ns : notStar a = true) (ns2 : notStar b = true)
    (hn : x ≠ "__name__") (hdb : (x == ("__debug__" : Str)) = false) : PE X (.Call (.Name x p1) [a, b] [] pos) (rdE G Φ γ W (.op p [ma, mb])) :=
  PE.imp (pe_callB hc hg hm hv (pa_cons ha (pa_cons hb pa_nil (star_cons ns2)) (star_cons ns)) hn hdb (star_cons ns) (back_any (by simp [ns2]))) fun _ _ _ h => rdE_mono (op2 h) fun v _ h => rdE_mono h fun w _ h => ⟨v, w, rfl, h⟩

/-! ### isinstance -/
theorem rP_up {p : Op} {xs : List V} {H : Hp} {Q : VK} {q : Addr} {u : HO} (hp : ∀ ds o d, prim p ds = some (o, d) → o = false) (hq : H q = none) (h : rP G p xs H Q) : rP G p xs (upd H q u) (fun v H' => Q v H') := by
  obtain ⟨Fz, ds, o, d, hr, e, k⟩ := h
  obtain rfl := hp _ _ _ e
  have up : ∀ {ds : List D} {xs : List V}, relRs G Fz H ds xs → relRs G Fz (upd H q u) ds xs := by
    intro ds
    induction ds with
    | nil => intro xs h; exact h
    | cons d r ih =>
      intro xs ⟨x, xr, e, h1, h2⟩
      refine ⟨x, xr, e, ?_, ih h2⟩
      have g := grow_new (o := u) hq
      cases d with
      | lst ds =>
        obtain ⟨a, ys, e, h1, h2⟩ := rLst h1
        exact ⟨a, ys, e, Rd_ext (M := fun _ => False) (F := Fz) (F' := Fz) (.grow g) (fun z => z) h1, relFs_grow g h2⟩
      | dct ks vs =>
        obtain ⟨a, kx, vx, e, h1, h2, h3⟩ := (show ∃ a kx vx, _ from h1)
        exact ⟨a, kx, vx, e, DHolds_ext (M := fun _ => False) (F := Fz) (F' := Fz) (.grow g) (fun z => z) h1, relFs_grow g h2, relFs_grow g h3⟩
      | _ => exact relR_of_relF (relF_grow (F := Fz) g h1)
  refine ⟨Fz, ds, false, d, up hr, e, fun v H' r => k v H' ⟨fun a u' e => r.1 a u' (grow_new hq a u' e), r.2⟩⟩
theorem isinst_fr {ts : List Ty} : ∀ ds o d, prim (.isinst ts) ds = some (o, d) → o = false := fun ds o d e => by
  have : ∃ a, ds = [a] := by
    rcases ds with _ | ⟨a, _ | ⟨b, r⟩⟩
    · cases e
    · exact ⟨a, rfl⟩
    · cases e
  obtain ⟨a, rfl⟩ := this
  rw [show prim (.isinst ts) [a] = pIsi ts a from rfl] at e
  unfold pIsi at e
  split at e
  · cases e; rfl
  · cases e
theorem pe_tynm {t : Ty} {p1 : Pos} (hg : Gl X (tyNm t)) (hm : X.mg (tyNm t) = none) : PE X (.Name (tyNm t) p1) (tC (.ty (tyNm t))) :=
  pe_bltn hg hm (u := .type (tyNm t)) (by cases t <;> rfl) rfl (by cases t <;> decide) (by cases t <;> decide)
theorem e_isi {t : Ty} {x : Str} {p1 p2 : Pos} (hK : X.K = G.K) (hg : Gl X "isinstance") (hm : X.mg "isinstance" = none) (hgt : Gl X (tyNm t)) (hmt : X.mg (tyNm t) = none) (ha : PE X a (rdE G Φ γ W ma)) (ns : notStar a = true) :
    PE X (.Call (.Name "isinstance" p1) [a, .Name (tyNm t) p2] [] pos) (rdE G Φ γ W (.op (.isinst [t]) [ma])) :=
  PE.imp (pe_callB (pr_isi hK t) hg hm rfl (pa_cons ha (pa_cons (pe_tynm hgt hmt) pa_nil) (star_cons ns)) (by decide) (by decide) (star_cons ns) rfl) fun _ _ _ h => rdE_mono (op1 h) fun v _ h => ⟨v, rfl, h⟩
def tyNames : List Ty → List Pos → List Expr
  | t :: ts, p :: ps => .Name (tyNm t) p :: tyNames ts ps
  | _, _ => []
theorem pa_tys : ∀ {ts : List Ty} {ps : List Pos}, ts.length = ps.length → (∀ t ∈ ts, Gl X (tyNm t) ∧ X.mg (tyNm t) = none) → PA X (tyNames ts ps) (fun _ H Q => Q (ts.map fun t => V.ty (tyNm t)) H)
  | [], [], _, _ => PA.imp pa_nil fun _ _ _ h => h
  | t :: ts, p :: ps, hl, h => PA.imp (pa_cons (pe_tynm (h t List.mem_cons_self).1 (h t List.mem_cons_self).2) (pa_tys (by simpa using hl) fun u hu => h u (List.mem_cons_of_mem _ hu)) rfl) fun _ _ _ h => h
theorem e_isiT {ts : List Ty} {ps : List Pos} {x : Str} {p1 p2 : Pos} {x1} (hK : X.K = G.K) (hg : Gl X "isinstance") (hm : X.mg "isinstance" = none) (hl : ts.length = ps.length) (hz : ts.length ≤ 10) (hts : ∀ t ∈ ts, Gl X (tyNm t) ∧ X.mg (tyNm t) = none) (ha : PE X a (rdE G Φ γ W ma)) (ns : notStar a = true) :
    PE X (.Call (.Name "isinstance" p1) [a, .Tuple (tyNames ts ps) x1 p2] [] pos) (rdE G Φ γ W (.op (.isinst ts) [ma])) :=
  PE.imp (pe_callB (pr_isiT hK ts) hg hm rfl (pa_cons ha (pa_cons (pe_tup (pa_tys hl hts)) pa_nil) (star_cons ns)) (by decide) (by decide) (star_cons ns) rfl) fun _ _ _ h => rdE_mono (op1 h) fun v H1 h =>
    ⟨by rw [List.length_map, sizeLine_eq]; omega, fun q hq => ⟨v, q, rfl, upd_same, rP_up isinst_fr hq h⟩⟩

/-! ### slices -/
theorem rInt' {F : Addr → Prop} {H : Hp} {d : D} {x : V} {i : Int} (h : relR G F H d x) (e : int? d = some i) : x = .int i := by
  cases d with
  | int j => cases e; exact rInt h
  | _ => cases e
theorem cut_rP {H : Hp} {Q : VK} {x : V} {lo hi : Option Int} {Fz : Addr → Prop} {d0 : D} {o : Bool} {d : D} (h1 : relR G Fz H d0 x) (e : cutD d0 lo hi = some (o, d)) (k : ∀ v H', resOk G Fz H o d v H' → Q v H') :
    ∃ F a o d, relR G F H a x ∧ cutD a lo hi = some (o, d) ∧ ∀ v H', resOk G F H o d v H' → Q v H' := ⟨Fz, d0, o, d, h1, e, k⟩
theorem oI_some {d : D} {o : Option Int} (h : oI d = some o) : ∃ i, int? d = some i ∧ o = some i := by
  unfold oI at h
  cases e : int? d with
  | none => rw [e] at h; cases h
  | some i => rw [e] at h; cases h; exact ⟨i, rfl, rfl⟩
theorem e_slLo {p2 : Pos} (hK : X.K = G.K) (ha : PE X a (rdE G Φ γ W ma)) (hb : PE X b (rdE G Φ γ W mb)) : PE X (.Subscript a (.Slice (some b) none none p2) pos) (rdE G Φ γ W (.op .slLo [ma, mb])) :=
  PE.imp (pe_slice (pr_cut hK) ha (po_some hb) po_none) fun _ _ _ h => rdE_mono (op2 h) fun x H1 h => rdE_mono h fun y H2 ⟨Fz, ds, o, d, hr, e, k⟩ => by
    obtain ⟨u, v, rfl, h1, h2⟩ := rr2 hr
    rw [show prim .slLo [u, v] = pCut (oI v) (some none) u from rfl] at e
    unfold pCut at e
    cases e1 : oI v with
    | none => rw [e1] at e; cases e
    | some l =>
      rw [e1] at e
      obtain ⟨i, e2, rfl⟩ := oI_some e1
      exact ⟨i, rInt' h2 e2, Fz, u, o, d, h1, e, k⟩
theorem e_slHi {p2 : Pos} (hK : X.K = G.K) (ha : PE X a (rdE G Φ γ W ma)) (hb : PE X b (rdE G Φ γ W mb)) : PE X (.Subscript a (.Slice none (some b) none p2) pos) (rdE G Φ γ W (.op .slHi [ma, mb])) :=
  PE.imp (pe_slice (pr_cut hK) ha po_none (po_some hb)) fun _ _ _ h => rdE_mono (op2 h) fun x H1 h => rdE_mono h fun y H2 ⟨Fz, ds, o, d, hr, e, k⟩ => by
    obtain ⟨u, v, rfl, h1, h2⟩ := rr2 hr
    rw [show prim .slHi [u, v] = pCut (some none) (oI v) u from rfl] at e
    unfold pCut at e
    cases e1 : oI v with
    | none => rw [e1] at e; cases e
    | some l =>
      rw [e1] at e
      obtain ⟨i, e2, rfl⟩ := oI_some e1
      exact ⟨i, rInt' h2 e2, Fz, u, o, d, h1, e, k⟩
/-- one after another -/
theorem kE_bd {r : RE} {kk : Fl → D → Env → RE} {Q Q1 : VK} {F : Addr → Prop} {H : Hp} {env : Env} {σ : L2.St} (k : kE G W F H env σ Q (r.bd kk))
    (i : ∀ f d e1, r = .ok f d e1 → ∀ F1 H1 v, Pst G F H env σ F1 H1 e1 σ → vOk G F1 H1 e1 σ f d v → vNew H f v → kE G W F1 H1 e1 σ Q (kk f d e1) → Q1 v H1) : kE G W F H env σ Q1 r := by
  cases r with
  | ok f d e1 => exact fun F1 H1 v p vo n => i f d e1 rfl F1 H1 v p vo n (kE.back p k)
  | ex x e1 => exact k
  | st => exact k
theorem e_sl {p2 : Pos} (hK : X.K = G.K) (ha : PE X a (rdE G Φ γ W ma)) (hb : PE X b (rdE G Φ γ W mb)) (hc : PE X c (rdE G Φ γ W mc)) : PE X (.Subscript a (.Slice (some b) (some c) none p2) pos) (rdE G Φ γ W (.sl ma mb mc)) :=
  PE.imp (pe_slice (pr_cut hK) ha (po_some hb) (po_some hc)) fun σ H Q ⟨F, env, R, k⟩ => by
    rw [ev] at k
    refine ⟨F, env, R, kE_bd k fun fa da e1 _ F1 H1 x p1 v1 n1 k1 => ⟨F1, e1, p1.rel, kE_bd k1 fun fb db e2 _ F2 H2 y p2 v2 n2 k2 => ?_⟩⟩
    cases hi : late fb db e2 with
    | none => rw [hi] at k2; exact k2.elim
    | some di =>
      rw [hi] at k2
      cases di with
      | int i =>
        have r2 := rInt (v2.late p2.rel hi)
        refine ⟨i, r2, F2, e2, p2.rel, kE_bd k2 fun fc dc e3 _ F3 H3 z p3 v3 n3 k3 => ?_⟩
        cases hj : late fc dc e3 with
        | none => rw [hj] at k3; exact k3.elim
        | some dj =>
          rw [hj] at k3
          cases dj with
          | int j =>
            have r3 := rInt (v3.late p3.rel hj)
            refine ⟨j, r3, ?_⟩
            cases hx : late fa da e3 with
            | none => simp only [intE, hx] at k3; exact k3.elim
            | some dx =>
              simp only [intE, hx, onE, primE] at k3
              have r1 := ((v1.step p1.rel p2).step p2.rel p3).late p3.rel hx
              cases hq : cutD dx (some i) (some j) with
              | none => rw [hq] at k3; exact k3.elim
              | some q =>
                obtain ⟨o, d⟩ := q
                rw [hq] at k3
                have k3 : kE G W F3 H3 e3 σ Q (.ok (flOf o) d e3) := k3
                refine ⟨F3, dx, o, d, r1, hq, fun v H4 res => k3 F3 H4 v (Pst.grow p3.rel res.1) ?_ ?_⟩
                · cases o with
                  | false => have r := res.2; rw [if_neg Bool.false_ne_true] at r; exact r
                  | true =>
                    have r := res.2; rw [if_pos rfl] at r
                    obtain ⟨a, e, n, ro⟩ := r
                    exact ⟨a, e, fun z => p3.rel.fin a z n, fun z => p3.rel.there z n, ro⟩
                · intro ef a ea
                  cases o with
                  | false => cases ef
                  | true =>
                    have r := res.2; rw [if_pos rfl] at r
                    obtain ⟨b, e, n, ro⟩ := r
                    rw [e] at ea; cases ea; exact n
          | _ => exact k3.elim
      | _ => exact k2.elim
end

/-! ### tests -/
section
variable {G : Gp} {Φ : Str → List Sl → FR} {γ : Str → Option D} {W : WX} {X : Cx} {a b c : Expr} {ma mb mc : E} {pos : Pos}
theorem kT_imp {Q Q' : Bool → Hp → Prop} {F : Addr → Prop} {H : Hp} {env : Env} {σ : L2.St} (i : ∀ b H, Q b H → Q' b H) : ∀ {r : RT}, kT G W F H env σ Q r → kT G W F H env σ Q' r
  | .ok _ _, h => fun F' H' p => i _ _ (h F' H' p)
  | .ex _ _, h => h
  | .st, h => h
/-- a test whose value is True or False -/
theorem rdT_bl {m : E} {σ : L2.St} {H : Hp} {Q : Bool → Hp → Prop} (hb : ∀ env f d e1, ev Φ γ m env = .ok f d e1 → f = .fr ∧ ∃ b, d = .bl b) (h : rdT G Φ γ W m σ H Q) : rdE G Φ γ W m σ H fun x H' => ∃ k, x = .bl k ∧ Q k H' := by
  obtain ⟨F, env, R, k⟩ := h
  refine ⟨F, env, R, ?_⟩
  unfold evT RE.truth at k
  cases e : ev Φ γ m env with
  | st => rw [e] at k; exact k
  | ex x e1 => rw [e] at k; exact k
  | ok f d e1 =>
    rw [e] at k
    obtain ⟨rfl, b, rfl⟩ := hb _ _ _ _ e
    intro F1 H1 v p1 v1 n1
    have v1 : relF G F1 H1 (.bl b) v := v1
    simp only [relF] at v1
    exact ⟨b, v1, k F1 H1 p1⟩
/-- the operations that answer True or False -/
def isCmp : Op → Bool
  | .eq | .ne | .lt | .le | .gt | .ge | .isIn | .notIn | .isN | .notN => true
  | _ => false
theorem prim_cmp {p : Op} (hp : isCmp p = true) {ds : List D} {o : Bool} {d : D} (e : prim p ds = some (o, d)) : o = false ∧ ∃ b, d = .bl b := by
  have ob_ : ∀ {b : Bool}, ob b = some (o, d) → o = false ∧ ∃ b, d = .bl b := fun {b} e => by cases e; exact ⟨rfl, _, rfl⟩
  have eq_ : ∀ {n : Bool} {a b : D}, pEq n a b = some (o, d) → o = false ∧ ∃ b, d = .bl b := fun {n a b} e => by
    unfold pEq at e
    split at e
    · exact ob_ e
    · cases e
  have lt_ : ∀ {n : Bool} {a b : D}, pLt n a b = some (o, d) → o = false ∧ ∃ b, d = .bl b := fun {n a b} e => by
    unfold pLt at e
    split at e
    · exact ob_ e
    · cases e
  have in_ : ∀ {n : Bool} {a b : D}, pIn n a b = some (o, d) → o = false ∧ ∃ b, d = .bl b := fun {n a b} e => by
    unfold pIn at e
    split at e
    · rename_i ds
      cases e1 : pyIn a ds with
      | none => rw [e1] at e; cases e
      | some w => rw [e1] at e; exact ob_ e
    · rename_i ds
      cases e1 : pyIn a ds with
      | none => rw [e1] at e; cases e
      | some w => rw [e1] at e; exact ob_ e
    · split at e
      · exact ob_ e
      · cases e
    · exact ob_ e
    · cases e
  unfold prim at e
  split at e <;> first
    | exact eq_ e
    | exact lt_ e
    | exact in_ e
    | exact ob_ e
    | cases hp
    | cases e
theorem ev_cmp {p : Op} (hp : isCmp p = true) {es : List E} : ∀ env f d e1, ev Φ γ (.op p es) env = .ok f d e1 → f = .fr ∧ ∃ b, d = .bl b := fun env f d e1 e => by
  rw [ev] at e
  cases hs : evs Φ γ es env with
  | st => rw [hs] at e; cases e
  | ex x e2 => rw [hs] at e; cases e
  | ok vs e2 =>
    rw [hs] at e
    simp only [REs.bd] at e
    cases hl : lates vs e2 with
    | none => rw [hl] at e; cases e
    | some ds =>
      rw [hl] at e
      simp only [onE, primE] at e
      cases hq : prim p ds with
      | none => rw [hq] at e; cases e
      | some q =>
        obtain ⟨o, d'⟩ := q
        rw [hq] at e
        obtain ⟨rfl, b, rfl⟩ := prim_cmp hp hq
        cases e
        exact ⟨rfl, b, rfl⟩
theorem t_cmp {op : CmpOp} {p : Op} (hp : isCmp p = true) (ho : OpR X (compareOp op) (fun x y => rP G p [x, y])) (ha : PE X a (rdE G Φ γ W ma)) (hb : PE X b (rdE G Φ γ W mb)) (hm : behindInMarks op b = false) : PT X (.Compare a [op] [b] pos) (rdT G Φ γ W (.op p [ma, mb])) :=
  PT.imp (pt_cmpR ho ha hb hm) fun _ _ _ h => op2 (rdT_bl (ev_cmp hp) h)
theorem t_is {op : CmpOp} {p : Op} {j pos'} (hp : isCmp p = true) (ho : OpR X (compareOp op) (fun x y H Q => y = .non ∧ rP G p [x] H Q)) (ha : PE X a (rdE G Φ γ W ma)) : PT X (.Compare a [op] [.Constant .none j pos'] pos) (rdT G Φ γ W (.op p [ma])) :=
  PT.imp (pt_cmpR ho ha pe_non (by rfl)) fun _ _ _ h => rdE_mono (op1 (rdT_bl (ev_cmp hp) h)) fun _ _ h => ⟨rfl, h⟩
/-- a value's truth -/
theorem tru_all (hP : X.prog = G.P) (hw : X.w = G.w) (hK : X.K = G.K) : TruR X (fun x H Q => ∃ F d b, relR G F H d x ∧ truthy d = some b ∧ Q b H) := by
  intro pins s σ H x v Q I rx ⟨Fz, d, b, h, e, q⟩
  cases d with
  | non => cases e; exact tru_ok pins s σ H x v Q I rx ⟨false, (by rw [rNon h]; rfl), q⟩
  | bl k => cases e; exact tru_ok pins s σ H x v Q I rx ⟨b, (by rw [rBl h]; rfl), q⟩
  | int k => cases e; exact tru_ok pins s σ H x v Q I rx ⟨_, (by rw [rInt h]; rfl), q⟩
  | str k =>
    rw [show PF.truthy (.str k) = (if k.length ≤ sizeLine then some (k.length != 0) else none) from rfl] at e
    split at e
    · rename_i hz
      cases e
      have key : (k.length != 0) = ((k.length : Int) != 0) := by
        rw [Bool.eq_iff_iff]
        simp only [bne_iff_ne, ne_eq]
        omega
      refine tru_ok pins s σ H x v Q I rx ⟨k.length != 0, (by rw [rStr h]; exact ⟨hz, key⟩), q⟩
    · cases e
  | tup ds =>
    cases e
    obtain ⟨p, xs, rfl, t1, f1⟩ := rTup h
    refine tru_ok pins s σ H _ v Q I rx ⟨!ds.isEmpty, .inr (.inl ⟨xs, hK ▸ t1, ?_⟩), q⟩
    have := relFs_length f1
    cases ds <;> cases xs <;> simp_all
  | lst ds =>
    cases e
    obtain ⟨p, xs, rfl, t1, f1⟩ := rLst h
    refine tru_ok pins s σ H _ v Q I rx ⟨!ds.isEmpty, .inl ⟨xs, .inl t1, ?_⟩, q⟩
    have := relFs_length f1
    cases ds <;> cases xs <;> simp_all
  | dct ks vs =>
    cases e
    exact dct_tru hP hw hK pins s σ H x v Q I rx ⟨Fz, ks, vs, h, q⟩
  | ins _ _ _ => cases e
theorem t_val (hP : X.prog = G.P) (hw : X.w = G.w) (hK : X.K = G.K) (ha : PE X a (rdE G Φ γ W ma)) (he : ∀ whole, isTrue a X.env whole = (do let v ← whole; standAt a.pos; holding [v] (PySem.truthy v))) : PT X a (rdT G Φ γ W ma) :=
  PT.imp (pt_truthR ha (tru_all hP hw hK) he) fun σ H Q ⟨F, env, R, k⟩ => by
    unfold evT RE.truth at k
    refine ⟨F, env, R, ?_⟩
    cases e : ev Φ γ ma env with
    | st => rw [e] at k; exact k
    | ex x e1 => rw [e] at k; exact k
    | ok f d e1 =>
      rw [e] at k
      simp only [RE.bdT] at k
      intro F1 H1 v p1 v1 n1
      cases hl : late f d e1 with
      | none => rw [hl] at k; exact k.elim
      | some d1 =>
        rw [hl, Option.bind_some] at k
        cases ht : PF.truthy d1 with
        | none => rw [ht] at k; exact k.elim
        | some b =>
          rw [ht] at k
          exact ⟨F1, d1, b, v1.late p1.rel hl, ht, k F1 H1 p1⟩
/-- not -/
theorem e_not (ha : PE X a (rdE G Φ γ W ma)) : PE X (.UnaryOp .Not a pos) (rdE G Φ γ W (.not_ ma)) :=
  PE.imp (pe_not ha) fun σ H Q ⟨F, env, R, k⟩ => by
    rw [ev] at k
    refine ⟨F, env, R, kE_bd k fun f d e1 _ F1 H1 v p1 v1 n1 k1 => ?_⟩
    cases hl : late f d e1 with
    | none => rw [hl] at k1; exact k1.elim
    | some d1 =>
      rw [hl] at k1
      cases d1 with
      | bl b => exact ⟨b, rBl (v1.late p1.rel hl), k1 F1 H1 _ (.refl p1.rel) (by simp only [vOk, relF]) fun z => nomatch z⟩
      | _ => exact k1.elim
theorem t_not (ha : PT X a (rdT G Φ γ W ma)) : PT X (.UnaryOp .Not a pos) (rdT G Φ γ W (.not_ ma)) :=
  PT.imp (pt_not ha) fun σ H Q ⟨F, env, R, k⟩ => by
    refine ⟨F, env, R, ?_⟩
    unfold evT RE.truth at k ⊢
    rw [ev] at k
    cases e : ev Φ γ ma env with
    | st => rw [e] at k; exact k
    | ex x e1 => rw [e] at k; exact k
    | ok f d e1 =>
      rw [e] at k
      simp only [RE.bd, RE.bdT] at k ⊢
      cases hl : late f d e1 with
      | none => rw [hl] at k; exact k.elim
      | some d1 =>
        rw [hl] at k
        cases d1 with
        | bl b => exact fun F1 H1 p1 => k F1 H1 p1
        | _ => exact k.elim
/-- a if c else b -/
theorem e_ife (hc : PT X c (rdT G Φ γ W mc)) (ha : PE X a (rdE G Φ γ W ma)) (hb : PE X b (rdE G Φ γ W mb)) : PE X (.IfExp c a b pos) (rdE G Φ γ W (.ife mc ma mb)) :=
  PE.imp (pe_ifExp hc ha hb) fun σ H Q ⟨F, env, R, k⟩ => by
    rw [ev] at k
    refine ⟨F, env, R, ?_⟩
    unfold evT
    cases e : (ev Φ γ mc env).truth with
    | st => rw [e] at k; exact k
    | ex x e1 => rw [e] at k; exact k
    | ok t e1 =>
      rw [e] at k
      simp only [RT.bd] at k
      intro F1 H1 p1
      cases t with
      | true => rw [if_pos rfl] at k ⊢; exact ⟨F1, e1, p1.rel, kE.back p1 k⟩
      | false => rw [if_neg Bool.false_ne_true] at k ⊢; exact ⟨F1, e1, p1.rel, kE.back p1 k⟩
/-- and, or -/
def rdEB (G : Gp) (Φ : Str → List Sl → FR) (γ : Str → Option D) (W : WX) (c : Bool) (ms : List E) : TE := fun σ H Q => ∃ F env, Rel G F H env σ ∧ kE G W F H env σ Q (evB Φ γ c ms env)
def rdTB (G : Gp) (Φ : Str → List Sl → FR) (γ : Str → Option D) (W : WX) (c : Bool) (ms : List E) : TT := fun σ H Q => ∃ F env, Rel G F H env σ ∧ kT G W F H env σ Q (evB Φ γ c ms env).truth
theorem e_boo {cj : Bool} {es : List Expr} {op : BoolOp} {ms : List E} (h : PE X (.BoolOp op es pos) (rdEB G Φ γ W cj ms)) : PE X (.BoolOp op es pos) (rdE G Φ γ W (.boo cj ms)) :=
  PE.imp h fun σ H Q ⟨F, env, R, k⟩ => ⟨F, env, R, by rw [ev] at k; exact k⟩
theorem t_boo {cj : Bool} {es : List Expr} {op : BoolOp} {ms : List E} (h : PW X (.BoolOp op es pos) (rdTB G Φ γ W cj ms)) : PT X (.BoolOp op es pos) (rdT G Φ γ W (.boo cj ms)) :=
  PT.imp h.pt fun σ H Q ⟨F, env, R, k⟩ => ⟨F, env, R, by unfold evT at k; rw [ev] at k; exact k⟩
theorem eb_one {cj : Bool} {op : BoolOp} (ha : PE X a (rdE G Φ γ W ma)) : PE X (.BoolOp op [a] pos) (rdEB G Φ γ W cj [ma]) :=
  PE.imp (pe_one ha) fun σ H Q ⟨F, env, R, k⟩ => ⟨F, env, R, by simp only [evB] at k; exact k⟩
theorem tb_and1 (ha : PT X a (rdT G Φ γ W ma)) : PW X (.BoolOp .And [a] pos) (rdTB G Φ γ W true [ma]) :=
  PW.imp (pw_and1 ha) fun σ H Q ⟨F, env, R, k⟩ => ⟨F, env, R, by simp only [evB] at k; exact k⟩
theorem tb_or1 (ha : PT X a (rdT G Φ γ W ma)) : PW X (.BoolOp .Or [a] pos) (rdTB G Φ γ W false [ma]) :=
  PW.imp (pw_or1 ha) fun σ H Q ⟨F, env, R, k⟩ => ⟨F, env, R, by simp only [evB] at k; exact k⟩
theorem eb_and {rest : List Expr} {m2 : E} {ms : List E} (ha : PE X a (rdE G Φ γ W ma)) (hb : PE X (.BoolOp .And (b :: rest) pos) (rdEB G Φ γ W true (m2 :: ms))) : PE X (.BoolOp .And (a :: b :: rest) pos) (rdEB G Φ γ W true (ma :: m2 :: ms)) :=
  PE.imp (pe_and ha hb) fun σ H Q ⟨F, env, R, k⟩ => by
    simp only [evB] at k
    refine ⟨F, env, R, kE_bd k fun f d e1 _ F1 H1 v p1 v1 n1 k1 => ?_⟩
    cases hl : late f d e1 with
    | none => rw [hl] at k1; exact k1.elim
    | some d1 =>
      rw [hl] at k1
      cases d1 with
      | bl q =>
        refine ⟨q, rBl (v1.late p1.rel hl), ?_⟩
        cases q with
        | true => rw [if_pos rfl]; exact ⟨F1, e1, p1.rel, k1⟩
        | false => rw [if_neg Bool.false_ne_true]; exact k1 F1 H1 _ (.refl p1.rel) (by simp only [vOk, relF]) fun z => nomatch z
      | _ => exact k1.elim
theorem eb_or {rest : List Expr} {m2 : E} {ms : List E} (ha : PE X a (rdE G Φ γ W ma)) (hb : PE X (.BoolOp .Or (b :: rest) pos) (rdEB G Φ γ W false (m2 :: ms))) : PE X (.BoolOp .Or (a :: b :: rest) pos) (rdEB G Φ γ W false (ma :: m2 :: ms)) :=
  PE.imp (pe_or ha hb) fun σ H Q ⟨F, env, R, k⟩ => by
    simp only [evB] at k
    refine ⟨F, env, R, kE_bd k fun f d e1 _ F1 H1 v p1 v1 n1 k1 => ?_⟩
    cases hl : late f d e1 with
    | none => rw [hl] at k1; exact k1.elim
    | some d1 =>
      rw [hl] at k1
      cases d1 with
      | bl q =>
        refine ⟨q, rBl (v1.late p1.rel hl), ?_⟩
        cases q with
        | false => rw [if_neg Bool.false_ne_true]; exact ⟨F1, e1, p1.rel, k1⟩
        | true => rw [if_pos rfl]; exact k1 F1 H1 _ (.refl p1.rel) (by simp only [vOk, relF]) fun z => nomatch z
      | _ => exact k1.elim
theorem tb_and {rest : List Expr} {m2 : E} {ms : List E} (ha : PT X a (rdT G Φ γ W ma)) (hb : PW X (.BoolOp .And (b :: rest) pos) (rdTB G Φ γ W true (m2 :: ms))) : PW X (.BoolOp .And (a :: b :: rest) pos) (rdTB G Φ γ W true (ma :: m2 :: ms)) :=
  PW.imp (pw_and ha hb) fun σ H Q ⟨F, env, R, k⟩ => by
    simp only [evB] at k
    refine ⟨F, env, R, ?_⟩
    unfold evT RE.truth at *
    cases e : ev Φ γ ma env with
    | st => rw [e] at k; exact k
    | ex x e1 => rw [e] at k; exact k
    | ok f d e1 =>
      rw [e] at k
      simp only [RE.bd, RE.bdT] at k ⊢
      cases hl : late f d e1 with
      | none => rw [hl] at k; exact k.elim
      | some d1 =>
        rw [hl] at k
        cases d1 with
        | bl q =>
          intro F1 H1 p1
          cases q with
          | true => rw [if_pos rfl]; exact ⟨F1, e1, p1.rel, kT.back p1 k⟩
          | false => rw [if_neg Bool.false_ne_true]; exact k F1 H1 p1
        | _ => exact k.elim
theorem tb_or {rest : List Expr} {m2 : E} {ms : List E} (ha : PT X a (rdT G Φ γ W ma)) (hb : PW X (.BoolOp .Or (b :: rest) pos) (rdTB G Φ γ W false (m2 :: ms))) : PW X (.BoolOp .Or (a :: b :: rest) pos) (rdTB G Φ γ W false (ma :: m2 :: ms)) :=
  PW.imp (pw_or ha hb) fun σ H Q ⟨F, env, R, k⟩ => by
    simp only [evB] at k
    refine ⟨F, env, R, ?_⟩
    unfold evT RE.truth at *
    cases e : ev Φ γ ma env with
    | st => rw [e] at k; exact k
    | ex x e1 => rw [e] at k; exact k
    | ok f d e1 =>
      rw [e] at k
      simp only [RE.bd, RE.bdT] at k ⊢
      cases hl : late f d e1 with
      | none => rw [hl] at k; exact k.elim
      | some d1 =>
        rw [hl] at k
        cases d1 with
        | bl q =>
          intro F1 H1 p1
          cases q with
          | false => rw [if_neg Bool.false_ne_true]; exact ⟨F1, e1, p1.rel, kT.back p1 k⟩
          | true => rw [if_pos rfl]; exact k F1 H1 p1
        | _ => exact k.elim
/-! ### displays -/
theorem e_tup {es : List Expr} {ms : List E} {x1} (h : PA X es (rdEs G Φ γ W ms)) : PE X (.Tuple es x1 pos) (rdE G Φ γ W (.tup ms)) :=
  PE.imp (pe_tup h) fun σ H Q ⟨F, env, R, k⟩ => by
    rw [ev] at k
    refine ⟨F, env, R, ?_⟩
    cases hs : evs Φ γ ms env with
    | st => rw [hs] at k; exact k
    | ex x e1 => rw [hs] at k; exact k
    | ok vs e1 =>
      rw [hs] at k
      intro F1 H1 xs p1 v1 n1
      simp only [REs.bd, storedE] at k
      cases hq : PF.stored vs with
      | none => rw [hq] at k; exact k.elim
      | some ds =>
        rw [hq] at k
        simp only [onE] at k
        obtain ⟨p2, r2⟩ := freeze p1 v1 n1 hq
        split at k
        · rename_i hz
          rw [relFs_length r2]
          refine ⟨hz, fun p hp => ?_⟩
          have g := grow_new (o := .tup xs) hp
          refine k _ _ _ (p2.trans (Pst.grow p2.rel g)) ?_ fun z => nomatch z
          have := (resT (G := G) hp r2).2
          rw [if_neg Bool.false_ne_true] at this
          exact this
        · exact k.elim
theorem e_lst {es : List Expr} {ms : List E} (h : PA X es (rdEs G Φ γ W ms)) : PE X (.List es pos) (rdE G Φ γ W (.lst ms)) :=
  PE.imp (pe_lst h) fun σ H Q ⟨F, env, R, k⟩ => by
    rw [ev] at k
    refine ⟨F, env, R, ?_⟩
    cases hs : evs Φ γ ms env with
    | st => rw [hs] at k; exact k
    | ex x e1 => rw [hs] at k; exact k
    | ok vs e1 =>
      rw [hs] at k
      intro F1 H1 xs p1 v1 n1
      simp only [REs.bd, storedE] at k
      cases hq : PF.stored vs with
      | none => rw [hq] at k; exact k.elim
      | some ds =>
        rw [hq] at k
        simp only [onE] at k
        obtain ⟨p2, r2⟩ := freeze p1 v1 n1 hq
        split at k
        · rename_i hz
          rw [relFs_length r2]
          refine ⟨hz, fun p hp => ?_⟩
          have g := grow_new (o := .lst xs) hp
          refine k _ _ _ (p2.trans (Pst.grow p2.rel g)) ⟨p, rfl, fun z => p2.rel.fin p z hp, fun z => p2.rel.there z hp, xs, upd_same, relFs_grow g r2⟩ fun _ a ea => by cases ea; exact p1.ext.alive p hp
        · exact k.elim
end
end PF
set_option Elab.async false
set_option linter.all false
set_option maxRecDepth 100000
set_option maxHeartbeats 1000000
/-! PF4c: what changes a slot's object; calls of defs; what is walked. -/
namespace PF
open PySem PySem.Spec PyProof.Rows L2

section
variable {G : Gp} {Φ : Str → List Sl → FR} {γ : Str → Option D} {W : WX} {X : Cx} {F F' : Addr → Prop} {H H' : Hp} {env : Env} {σ : L2.St}
theorem Rel.ow_at (R : Rel G F H env σ) {i : Nat} {d : D} (e : getS env i = .ow d) : ∃ a, slAt σ i = some (.ref a) ∧ ¬ F a ∧ relO G F H d a := by
  have q := R.slot i
  rw [e] at q
  exact q
/-- the object of an owned slot is written -/
theorem Pst.write {i : Nat} {d d' : D} {a : Addr} {o : HO} (R : Rel G F H env σ) (e : getS env i = .ow d) (ha : slAt σ i = some (.ref a)) (r : relO G F (upd H a o) d' a) : Pst G F H env σ F (upd H a o) (setS env i (.ow d')) σ := by
  have hi : i < env.length := getS_lt (by rw [e]; exact fun z => nomatch z)
  obtain ⟨a', h1, h2, h3⟩ := R.ow_at e
  rw [ha] at h1; cases h1
  have m : Mo env σ a := ⟨i, d, e, ha⟩
  have E : Ext (Mo env σ) F H F (upd H a o) := ⟨fun b u hb n => by rw [upd_ne (fun z => n (by rw [z]; exact m))]; exact hb, fun b hb => by
    by_cases z : b = a
    · subst z; rw [upd_same] at hb; cases hb
    · rw [upd_ne z] at hb; exact hb, fun _ h => h, fun _ h => .inl h⟩
  have Ea : Ext (fun b => b = a) F H F (upd H a o) := ⟨fun b u hb n => by rw [upd_ne n]; exact hb, E.alive, fun _ h => h, fun _ h => .inl h⟩
  have apa : Apart (fun b => b = a) F H := fun b hb => by rw [hb]; exact R.apart a m
  have get : ∀ j, getS (setS env i (.ow d')) j = if i = j then .ow d' else getS env j := fun j => by
    rw [getS_setS]
    by_cases z : i = j
    · rw [if_pos ⟨z, hi⟩, if_pos z]
    · rw [if_neg fun q => z q.1, if_neg z]
  have own : ∀ j, isOwn (getS (setS env i (.ow d')) j) = true → isOwn (getS env j) = true := fun j hj => by
    rw [get] at hj
    split at hj
    · rename_i z; subst z; rw [e]; rfl
    · exact hj
  refine ⟨E, ⟨by rw [setS_length]; exact R.len, fun j => ?_, fun j k b hj hk => R.one j k b (own j hj) (own k hk), fun b hb hn => ?_⟩, fun b ⟨j, h4, h5⟩ => .inl ⟨j, own j h4, h5⟩, fun b ⟨j, d2, h4, h5⟩ => ?_, fun j d2 h => ?_⟩
  · rw [get]
    split
    · rename_i z; subst z; exact ⟨a, ha, h2, r⟩
    · rename_i z
      have q := R.slot j
      have nea : isOwn (getS env j) = true → ∀ b, slAt σ j = some (.ref b) → b ≠ a := fun hj b hb hz => by
        subst hz
        exact z (R.one i j b (by rw [e]; rfl) hj ha hb)
      cases hs : getS env j with
      | non => trivial
      | fr x =>
        rw [hs] at q
        obtain ⟨v, h4, h5⟩ := q
        exact ⟨v, h4, relF_ext Ea apa x v h5⟩
      | ow x =>
        rw [hs] at q nea
        obtain ⟨v, h4, h6, h5⟩ := q
        exact ⟨v, h4, h6, relO_ext Ea apa (nea rfl v h4) h5⟩
      | lk x =>
        rw [hs] at q nea
        obtain ⟨v, h4, h6, h5⟩ := q
        exact ⟨v, h4, h6, relO_ext Ea apa (nea rfl v h4) h5⟩
  · exact R.fin b hb (E.alive b hn)
  · rw [get] at h4
    split at h4
    · rename_i z; subst z; exact .inl ⟨_, d, e, h5⟩
    · exact .inl ⟨j, d2, h4, h5⟩
  · rw [get] at h
    split at h
    · cases h
    · exact ⟨h, rfl⟩
/-- the parts of an owned object stay as it is written -/
theorem relFs_upd {i : Nat} {d : D} {a : Addr} {o : HO} (R : Rel G F H env σ) (e : getS env i = .ow d) (ha : slAt σ i = some (.ref a)) {ds : List D} {xs : List V} (h : relFs G F H ds xs) : relFs G F (upd H a o) ds xs :=
  relFs_ext (M := fun b => b = a) (F := F) ⟨fun b u hb n => by rw [upd_ne n]; exact hb, fun b hb => by
    by_cases z : b = a
    · subst z; rw [upd_same] at hb; cases hb
    · rw [upd_ne z] at hb; exact hb, fun _ h => h, fun _ h => .inl h⟩ (fun b hb => by rw [hb]; exact R.apart a ⟨i, d, e, ha⟩) ds xs h
theorem relF_upd {i : Nat} {d : D} {a : Addr} {o : HO} (R : Rel G F H env σ) (e : getS env i = .ow d) (ha : slAt σ i = some (.ref a)) {x : D} {v : V} (h : relF G F H x v) : relF G F (upd H a o) x v := by
  have := relFs_upd (o := o) R e ha (ds := [x]) (xs := [v]) (by simp only [relFs]; exact ⟨v, [], rfl, h, rfl⟩)
  simp only [relFs] at this
  obtain ⟨y, r, e1, h1, _⟩ := this
  cases e1; exact h1
/-! ### methods that change -/
/-- a method by values: the object before, the arguments; the new object and the answer -/
def rMu (G : Gp) (m : Mu) (v : V) (xs : List V) (H : Hp) (Q : VK) : Prop := ∃ F a d ds d' r, v = .ref a ∧ relO G F H d a ∧ relFs G F H ds xs ∧ muD m d ds = some (d', r) ∧
  (∀ o, (∀ es ys, relFs G F H es ys → relFs G F (upd H a o) es ys)) ∧
  ∀ o v', relO G F (upd H a o) d' a → relF G F (upd H a o) r v' → Q v' (upd H a o)
theorem mu_rd {m : Mu} {i : Nat} {ms : List E} {Q : VK} (h : rdE G Φ γ W (.mu m i ms) σ H Q) : (∃ F env, Rel G F H env σ ∧ slotFits m (getS env i) = true ∧ True) ∧ ∃ a, slAt σ i = some (.ref a) ∧ rdEs G Φ γ W ms σ H fun xs H2 => rMu G m (.ref a) xs H2 Q := by
  obtain ⟨Fz, env, R, k⟩ := h
  rw [ev] at k
  split at k
  · rename_i hfit
    refine ⟨⟨Fz, env, R, hfit, trivial⟩, ?_⟩
    have : ∃ d, getS env i = .ow d := by
      cases e : getS env i with
      | ow d => exact ⟨d, rfl⟩
      | _ => rw [e] at hfit; cases hfit
    obtain ⟨d0, e0⟩ := this
    obtain ⟨a, ha, _, _⟩ := R.ow_at e0
    refine ⟨a, ha, Fz, env, R, ?_⟩
    cases hs : evs Φ γ ms env with
    | st => rw [hs] at k; exact k
    | ex x e1 => rw [hs] at k; exact k
    | ok vs e1 =>
      rw [hs] at k
      intro F1 H1 xs p1 v1 n1
      simp only [REs.bd, storedE] at k
      cases hq : PF.stored vs with
      | none => rw [hq] at k; exact k.elim
      | some ds =>
        rw [hq] at k
        simp only [onE, muE] at k
        obtain ⟨p2, r2⟩ := freeze p1 v1 n1 hq
        cases ho : getS e1 i with
        | ow d =>
          rw [ho] at k
          simp only [owOf] at k
          cases hm : muD m d ds with
          | none => rw [hm] at k; exact k.elim
          | some q =>
            obtain ⟨d', r⟩ := q
            rw [hm] at k
            obtain ⟨a', h1, h2, h3⟩ := p2.rel.ow_at ho
            rw [ha] at h1; cases h1
            refine ⟨_, a, d, ds, d', r, rfl, h3, r2, hm, fun o es ys h => relFs_upd p2.rel ho ha h, fun o v' ro rv => ?_⟩
            exact k _ _ v' (p2.trans (Pst.write p2.rel ho ha ro)) rv fun z => nomatch z
        | non => rw [ho] at k; exact k.elim
        | fr _ => rw [ho] at k; exact k.elim
        | lk _ => rw [ho] at k; exact k.elim
  · exact k.elim
theorem fits_lst {m : Mu} {s : Sl} (hm : muIsDict m = false) (h : slotFits m s = true) : ∃ ds, s = .ow (.lst ds) := by
  cases s with
  | ow d =>
    cases d with
    | lst ds => exact ⟨ds, rfl⟩
    | dct ks vs => rw [show slotFits m (.ow (.dct ks vs)) = muIsDict m from rfl, hm] at h; cases h
    | _ => cases h
  | _ => cases h
theorem relO_lst {ds : List D} {a : Addr} (h : relO G F H (.lst ds) a) : ∃ xs, H a = some (.lst xs) ∧ relFs G F H ds xs := h
theorem relO_lst_mk {ds : List D} {a : Addr} {xs : List V} (h : relFs G F (upd H a (.lst xs)) ds xs) : relO G F (upd H a (.lst xs)) (.lst ds) a := ⟨xs, upd_same, h⟩
end
section
variable {G : Gp} {X : Cx}
theorem mu_append : MtR X "list.append" (fun x xs H Q => xs.length = 1 ∧ rMu G .append x xs H Q) := fun pins s σ H x xs v us Q I rx rs ⟨hl, Fz, a, d, ds, d', r, e0, ho, hr, hm, hu, k⟩ => by
  cases d with
  | lst es =>
    rcases ds with _ | ⟨d1, _ | ⟨d2, rest⟩⟩
    · cases hm
    · rw [show muD .append (.lst es) [d1] = (if es.length < sizeLine then some (.lst (es ++ [d1]), .non) else none) from rfl] at hm
      split at hm
      · rename_i hz
        cases hm
        obtain ⟨ys, h1, h2⟩ := relO_lst ho
        simp only [relFs] at hr
        obtain ⟨y, yr, rfl, h3, rfl⟩ := hr
        refine mt_append pins s σ H x _ v us Q I rx rs ⟨a, ys, y, e0, rfl, h1, by rw [relFs_length h2]; exact hz, k _ _ (relO_lst_mk (hu _ _ _ (relFs_append h2 (by simp only [relFs]; exact ⟨y, [], rfl, h3, rfl⟩)))) (by simp only [relF])⟩
      · cases hm
    · cases hm
  | _ => cases hm
theorem mu_extend : MtR X "list.extend" (fun x xs H Q => xs.length = 1 ∧ rMu G .extend x xs H Q) := fun pins s σ H x xs v us Q I rx rs ⟨hl, Fz, a, d, ds, d', r, e0, ho, hr, hm, hu, k⟩ => by
  have go : ∃ es fs, d = .lst es ∧ ds = [.lst fs] ∧ es.length + fs.length ≤ sizeLine ∧ d' = .lst (es ++ fs) ∧ r = .non := by
    unfold muD at hm
    split at hm <;> first
      | (rename_i es fs _
         split at hm
         · rename_i h
           cases hm
           exact ⟨es, fs, rfl, rfl, h, rfl, rfl⟩
         · cases hm)
      | simp at *
  obtain ⟨es, fs, rfl, rfl, hz, rfl, rfl⟩ := go
  obtain ⟨ys, h1, h2⟩ := relO_lst ho
  simp only [relFs, relF] at hr
  obtain ⟨y, yr, rfl, ⟨b, zs, rfl, hFb, t, h3⟩, rfl⟩ := hr
  subst e0
  cases rx
  obtain ⟨u, rfl, ru⟩ := rs.one
  cases ru
  have l1 := relFs_length h2
  have l2 := relFs_length h3
  obtain ⟨z, its, n, r, hl, e⟩ := I.lstM h1
  obtain ⟨z2, its2, n2, r2, e2⟩ := t.ok I.hok
  have hl2 := r2.length
  have hsz : its.toArray.size + its2.toArray.size ≤ sizeLine := by rw [List.size_toArray, List.size_toArray]; omega
  have hlong : ¬ (!its.toArray.isEmpty && Builtin.List.listTooLong (its.toArray.size + its2.toArray.size)) = true := by
    rw [notLongL hsz, Bool.and_false]
    exact Bool.false_ne_true
  refine call_meets F.slot_list_extend ⟨_, e, rfl⟩ F.entry_list_extend (F.args_list_extend_2 _ _)
    (AutoSeq1.list_extend_list_list_0 a its.toArray n b its2.toArray n2 hlong (by rw [List.size_toArray]; omega) (by omega)) ⟨e, e2, ?_⟩
  refine ⟨.non, _, I.lset (its' := its ++ its2) h1 e (by simp) (r.append r2) ?_, rfl, k _ _ (relO_lst_mk (hu _ _ _ (relFs_append h2 h3))) (by simp only [relF])⟩
  rw [List.length_append]
  omega
theorem mu_insert : MtR X "list.insert" (fun x xs H Q => xs.length = 2 ∧ rMu G .insert x xs H Q) := fun pins s σ H x xs v us Q I rx rs ⟨hl, Fz, a, d, ds, d', r, e0, ho, hr, hm, hu, k⟩ => by
  have go : ∃ es i d1, d = .lst es ∧ ds = [.int i, d1] ∧ 0 ≤ i ∧ i.toNat ≤ es.length ∧ es.length < sizeLine ∧ d' = .lst (es.take i.toNat ++ d1 :: es.drop i.toNat) ∧ r = .non := by
    unfold muD at hm
    split at hm <;> first
      | (rename_i es i d1 _
         split at hm
         · rename_i h
           simp only [Bool.and_eq_true, decide_eq_true_eq] at h
           cases hm
           exact ⟨es, i, d1, rfl, rfl, h.1.1, h.1.2, h.2, rfl, rfl⟩
         · cases hm)
      | simp at *
  obtain ⟨es, i, d1, rfl, rfl, h0, hle, hz, rfl, rfl⟩ := go
  obtain ⟨ys, h1, h2⟩ := relO_lst ho
  simp only [relFs] at hr
  obtain ⟨y1, yr, rfl, h3, y2, yr2, rfl, h4, rfl⟩ := hr
  simp only [relF] at h3
  subst h3
  have l := relFs_length h2
  have hz2 : es.length < 16777216 := by rw [← sizeLine_eq]; exact hz
  refine mt_insert pins s σ H x _ v us Q I rx rs ⟨a, ys, i, y2, e0, rfl, h1, by rw [l]; exact hz, h0, by omega, k _ _ (relO_lst_mk (hu _ _ _ ?_)) (by simp only [relF])⟩
  rw [List.append_assoc]
  exact relFs_append (relFs_take _ h2) (by simp only [List.singleton_append, relFs]; exact ⟨y2, _, rfl, h4, relFs_drop _ h2⟩)
theorem mu_pop : MtR X "list.pop" (fun x xs H Q => xs.length = 0 ∧ rMu G .pop x xs H Q) := fun pins s σ H x xs v us Q I rx rs ⟨hl, Fz, a, d, ds, d', r, e0, ho, hr, hm, hu, k⟩ => by
  have go : ∃ es, d = .lst es ∧ ds = [] ∧ es[es.length - 1]? = some r ∧ d' = .lst es.dropLast := by
    unfold muD at hm
    split at hm <;> first
      | (rename_i es _
         cases e1 : es[es.length - 1]? with
         | none => rw [e1] at hm; cases hm
         | some y => rw [e1] at hm; cases hm; exact ⟨es, rfl, rfl, e1, rfl⟩)
      | simp at *
  obtain ⟨es, rfl, rfl, hy, rfl⟩ := go
  obtain ⟨ys, h1, h2⟩ := relO_lst ho
  have hr : xs = [] := by simpa only [relFs] using hr
  subst hr
  obtain ⟨y, e1, h3⟩ := relFs_get h2 hy
  refine mt_pop pins s σ H x _ v us Q I rx rs ⟨a, ys, y, e0, rfl, h1, by rw [relFs_length h2]; exact e1, k _ _ (relO_lst_mk (hu _ _ _ (relFs_dropLast h2))) ?_⟩
  have := hu (.lst ys.dropLast) [r] [y] (by simp only [relFs]; exact ⟨y, [], rfl, h3, rfl⟩)
  simp only [relFs] at this
  obtain ⟨z, _, e, h, _⟩ := this
  cases e; exact h
theorem mu_popAt : MtR X "list.pop" (fun x xs H Q => xs.length = 1 ∧ rMu G .popAt x xs H Q) := fun pins s σ H x xs v us Q I rx rs ⟨hl, Fz, a, d, ds, d', r, e0, ho, hr, hm, hu, k⟩ => by
  have go : ∃ es i, d = .lst es ∧ ds = [.int i] ∧ 0 ≤ i ∧ i < 2 ^ 62 ∧ es[i.toNat]? = some r ∧ d' = .lst (es.eraseIdx i.toNat) := by
    unfold muD at hm
    split at hm <;> first
      | (rename_i es i _
         split at hm
         · rename_i h
           simp only [Bool.and_eq_true, decide_eq_true_eq] at h
           cases e1 : es[i.toNat]? with
           | none => rw [e1] at hm; cases hm
           | some y => rw [e1] at hm; cases hm; exact ⟨es, i, rfl, rfl, h.1, h.2, e1, rfl⟩
         · cases hm)
      | simp at *
  obtain ⟨es, i, rfl, rfl, h0, hb, hy, rfl⟩ := go
  obtain ⟨ys, h1, h2⟩ := relO_lst ho
  simp only [relFs] at hr
  obtain ⟨y1, yr, rfl, h4, rfl⟩ := hr
  simp only [relF] at h4
  subst h4
  obtain ⟨y, e1, h3⟩ := relFs_get h2 hy
  have hlt : i.toNat < ys.length := (List.getElem?_eq_some_iff.mp e1).1
  refine mt_popAt pins s σ H x _ v us Q I rx rs ⟨a, ys, i, i.toNat, y, e0, rfl, h1, by omega, by omega, ?_, e1, k _ _ (relO_lst_mk (hu _ _ _ (relFs_eraseIdx _ h2))) ?_⟩
  · unfold seqIndex?
    have ei : (if i < 0 then i + (ys.length : Int) else i) = i := if_neg (by omega)
    have e : (decide (0 ≤ i) && decide (i < (ys.length : Int))) = true := by
      rw [Bool.and_eq_true, decide_eq_true_eq, decide_eq_true_eq]; omega
    simp only [ei]
    rw [if_pos e]
  · have := hu (.lst (ys.eraseIdx i.toNat)) [r] [y] (by simp only [relFs]; exact ⟨y, [], rfl, h3, rfl⟩)
    simp only [relFs] at this
    obtain ⟨z, _, e, h, _⟩ := this
    cases e; exact h
theorem mu_reverse : MtR X "list.reverse" (fun x xs H Q => xs.length = 0 ∧ rMu G .reverse x xs H Q) := fun pins s σ H x xs v us Q I rx rs ⟨hl, Fz, a, d, ds, d', r, e0, ho, hr, hm, hu, k⟩ => by
  have go : ∃ es, d = .lst es ∧ ds = [] ∧ r = .non ∧ d' = .lst es.reverse := by
    unfold muD at hm
    split at hm <;> first
      | (rename_i es _; cases hm; exact ⟨es, rfl, rfl, rfl, rfl⟩)
      | simp at *
  obtain ⟨es, rfl, rfl, rfl, rfl⟩ := go
  obtain ⟨ys, h1, h2⟩ := relO_lst ho
  have hr : xs = [] := by simpa only [relFs] using hr
  subst hr
  exact mt_reverse pins s σ H x _ v us Q I rx rs ⟨a, ys, e0, rfl, h1, k _ _ (relO_lst_mk (hu _ _ _ (relFs_reverse h2))) (by simp only [relF])⟩
end
end PF
set_option Elab.async false
set_option linter.all false
set_option maxRecDepth 100000
set_option maxHeartbeats 1000000
/-! PF4d: calls of methods, calls of defs. -/
namespace PF
open PySem PySem.Spec PyProof.Rows L2

section
variable {G : Gp} {Φ : Str → List Sl → FR} {γ : Str → Option D} {W : WX} {X : Cx} {a b : Expr} {ma mb : E} {i : Nat} {x name : Str} {p1 apos cpos : Pos} {id : String} {m : Mu}
theorem few_ok {es : List Expr} {env : PySem.Env} (h : es.all notStar = true) (hl : es.length < 30) : ((backTo cpos (starEach es env)).all (fun x => !x.1) && (backToKw cpos (keywordEach [] env)).all (fun x => x.1.isSome)
      && decide (es.length + ([] : List Keyword).length + (if ([] : List Keyword).isEmpty then 0 else 1) < 30)) = true := by
  rw [back_all h]
  have e : keywordEach [] env = [] := rfl
  rw [e]
  simp [backToKw, hl]
theorem mu_ty {ms : List E} {σ : L2.St} {H : Hp} {Q : VK} (hK : X.K = G.K) (hd : muIsDict m = false) (h : rdE G Φ γ W (.mu m i ms) σ H Q) : ∃ a, σ[i]? = some (some (.ref a)) ∧ tyV X.K "list" (.ref a) H ∧ rdEs G Φ γ W ms σ H fun xs H2 => rMu G m (.ref a) xs H2 Q := by
  obtain ⟨⟨Fz, env, R, hf, _⟩, a, ha, h2⟩ := mu_rd h
  refine ⟨a, slAt_some ha, ?_, h2⟩
  obtain ⟨ds, e⟩ := fits_lst hd hf
  obtain ⟨b, hb, _, r⟩ := R.ow_at e
  rw [ha] at hb; cases hb
  obtain ⟨xs, h3, _⟩ := relO_lst r
  exact .inl ⟨rfl, xs, .inl (.inl h3)⟩
theorem e_mu0 (hK : X.K = G.K) (hd : muIsDict m = false) (slot : Slot "list" name id) (hty : typeOf (.builtin id) = pure (.type "method_descriptor")) (hm : MtR X id (fun x xs H Q => xs.length = 0 ∧ rMu G m x xs H Q))
    (hN : X.N[i]? = some x) (hv : Vis X.env.scope x) (hdb : (x == ("__debug__" : Str)) = false) (hcd : (x == ("__classdict__" : Str)) = false) (hline : (apos.endLine == cpos.line) = true) :
    PE X (.Call (.Attribute (.Name x p1) name apos) [] [] cpos) (rdE G Φ γ W (.mu m i [])) :=
  PE.imp (pe_bm0 F.plainAttrs_list slot hty hm (pe_var hN hv hdb hcd) rfl hline) fun σ H Q h => by
    obtain ⟨a, h1, h2, h3⟩ := mu_ty hK hd h
    exact ⟨_, h1, h2, rfl, rdEs_nil h3⟩
theorem e_mu1 (hK : X.K = G.K) (hd : muIsDict m = false) (slot : Slot "list" name id) (hty : typeOf (.builtin id) = pure (.type "method_descriptor")) (hm : MtR X id (fun x xs H Q => xs.length = 1 ∧ rMu G m x xs H Q))
    (hN : X.N[i]? = some x) (hv : Vis X.env.scope x) (hdb : (x == ("__debug__" : Str)) = false) (hcd : (x == ("__classdict__" : Str)) = false) (hline : (apos.endLine == cpos.line) = true) (ha : PE X a (rdE G Φ γ W ma)) (ns : notStar a = true) :
    PE X (.Call (.Attribute (.Name x p1) name apos) [a] [] cpos) (rdE G Φ γ W (.mu m i [ma])) :=
  PE.imp (pe_bm F.plainAttrs_list slot hty hm (pe_var hN hv hdb hcd) (pa_cons ha pa_nil (star_cons ns)) rfl (few_ok (by simp [ns]) (by simp)) hline (star_cons ns) rfl) fun σ H Q h => by
    obtain ⟨a, h1, h2, h3⟩ := mu_ty hK hd h
    exact ⟨_, h1, h2, rdE_mono (rdEs_cons h3) fun v _ h => ⟨rfl, rdEs_nil h⟩⟩
theorem e_mu2 (hK : X.K = G.K) (hd : muIsDict m = false) (slot : Slot "list" name id) (hty : typeOf (.builtin id) = pure (.type "method_descriptor")) (hm : MtR X id (fun x xs H Q => xs.length = 2 ∧ rMu G m x xs H Q))
    (hN : X.N[i]? = some x) (hv : Vis X.env.scope x) (hdb : (x == ("__debug__" : Str)) = false) (hcd : (x == ("__classdict__" : Str)) = false) (hline : (apos.endLine == cpos.line) = true) (ha : PE X a (rdE G Φ γ W ma)) (ns : notStar a = true) (hb : PE X b (rdE G Φ γ W mb)) (ns2 : notStar b = true) :
    PE X (.Call (.Attribute (.Name x p1) name apos) [a, b] [] cpos) (rdE G Φ γ W (.mu m i [ma, mb])) :=
  PE.imp (pe_bm F.plainAttrs_list slot hty hm (pe_var hN hv hdb hcd) (pa_cons ha (pa_cons hb pa_nil (star_cons ns2)) (star_cons ns)) rfl (few_ok (by simp [ns, ns2]) (by simp)) hline (star_cons ns) (back_any (by simp [ns2]))) fun σ H Q h => by
    obtain ⟨a, h1, h2, h3⟩ := mu_ty hK hd h
    exact ⟨_, h1, h2, rdE_mono (rdEs_cons h3) fun v _ h => rdE_mono (rdEs_cons h) fun _ _ h => ⟨rfl, rdEs_nil h⟩⟩
theorem e_join {z : Str} (ha : PE X a (rdE G Φ γ W (.lit (.str z)))) (hb : PE X b (rdE G Φ γ W mb)) (ns2 : notStar b = true) (hbase : attributeBase a "join" X.env (eval a X.env) = eval a X.env) (hline : (apos.endLine == cpos.line) = true) :
    PE X (.Call (.Attribute a "join" apos) [b] [] cpos) (rdE G Φ γ W (.op .join [.lit (.str z), mb])) :=
  PE.imp (pe_bm F.plainAttrs_str F.slot_str_join F.type_str_join (pr_join (G := G)) ha (pa_cons hb pa_nil (star_cons ns2)) hbase (few_ok (by simp [ns2]) (by simp)) hline (star_cons ns2) rfl) fun σ H Q h => by
    have h2 := op2 h
    obtain ⟨F, env, R, k⟩ := h2
    refine ⟨F, env, R, ?_⟩
    rw [ev] at k ⊢
    intro F1 H1 v p1 v1 n1
    have v1' : relF G F1 H1 (.str z) v := v1
    simp only [relF] at v1'
    subst v1'
    exact ⟨rfl, rdE_mono (k F1 H1 _ p1 v1 n1) fun y _ h => ⟨y, rfl, h⟩⟩
end

/-! ### calls -/
section
variable {G : Gp} {F F' : Addr → Prop} {H H' : Hp} {env e2 : Env} {σ : L2.St}
theorem vOks_len : ∀ {vs : List (Fl × D)} {xs : List V}, vOks G F H env σ vs xs → xs.length = vs.length
  | [], xs, h => by have e : xs = [] := h; subst e; rfl
  | (f, d) :: r, _, ⟨x, xr, e, _, h⟩ => by rw [e, List.length_cons, List.length_cons, vOks_len h]
theorem vOks_get : ∀ {vs : List (Fl × D)} {xs : List V} {j : Nat} {q : Fl × D}, vOks G F H env σ vs xs → vs[j]? = some q → ∃ x, xs[j]? = some x ∧ vOk G F H env σ q.1 q.2 x
  | [], _, _, _, _, e => by simp at e
  | (f, d) :: r, _, 0, q, ⟨x, xr, e, h1, h2⟩, hq => by
    simp at hq; subst hq; subst e
    exact ⟨x, rfl, h1⟩
  | (f, d) :: r, _, j + 1, q, ⟨x, xr, e, h1, h2⟩, hq => by
    subst e
    obtain ⟨y, e1, e2⟩ := vOks_get (j := j) h2 (by simpa using hq)
    exact ⟨y, by simpa using e1, e2⟩
theorem lend_len : ∀ (vs : List (Fl × D)) (e : Env), (lend vs e).length = vs.length
  | [], _ => rfl
  | (.pl i, d) :: r, e => by rw [lend, List.length_cons, List.length_cons, lend_len r e]
  | (.fr, d) :: r, e => by rw [lend, List.length_cons, List.length_cons, lend_len r e]; exact fun _ z => nomatch z
  | (.ow, d) :: r, e => by rw [lend, List.length_cons, List.length_cons, lend_len r e]; exact fun _ z => nomatch z
/-- what is lent at j -/
theorem lend_get : ∀ (vs : List (Fl × D)) (e : Env) (j : Nat), getS (lend vs e) j = match vs[j]? with
    | some (.pl i, _) => getS e i
    | some (_, d) => .fr d
    | none => .non
  | [], _, j => by cases j <;> rfl
  | (.pl i, d) :: r, e, 0 => rfl
  | (.fr, d) :: r, e, 0 => rfl
  | (.ow, d) :: r, e, 0 => rfl
  | (.pl i, d) :: r, e, j + 1 => lend_get r e j
  | (.fr, d) :: r, e, j + 1 => lend_get r e j
  | (.ow, d) :: r, e, j + 1 => lend_get r e j
theorem places_get : ∀ {vs : List (Fl × D)} {j i : Nat} {d : D}, vs[j]? = some (.pl i, d) → i ∈ places vs
  | [], _, _, _, e => by simp at e
  | (.pl k, d) :: r, 0, i, _, e => by simp at e; rw [e.1]; exact List.mem_cons_self
  | (.fr, d) :: r, 0, i, _, e => by simp at e
  | (.ow, d) :: r, 0, i, _, e => by simp at e
  | (.pl k, d) :: r, j + 1, i, _, e => List.mem_cons_of_mem _ (places_get (j := j) (by simpa using e))
  | (.fr, d) :: r, j + 1, i, _, e => places_get (j := j) (vs := r) (by simpa using e)
  | (.ow, d) :: r, j + 1, i, _, e => places_get (j := j) (vs := r) (by simpa using e)
theorem places_of : ∀ {vs : List (Fl × D)} {i : Nat}, i ∈ places vs → ∃ (j : Nat) (d : D), vs[j]? = some (.pl i, d)
  | [], _, h => by simp [places] at h
  | (.pl k, d) :: r, i, h => by
    rcases List.mem_cons.mp h with e | h
    · exact ⟨0, d, by rw [e]; rfl⟩
    · obtain ⟨j, d', e⟩ := places_of h
      exact ⟨j + 1, d', by simpa using e⟩
  | (.fr, d) :: r, i, h => by
    obtain ⟨j, d', e⟩ := places_of (vs := r) h
    exact ⟨j + 1, d', by simpa using e⟩
  | (.ow, d) :: r, i, h => by
    obtain ⟨j, d', e⟩ := places_of (vs := r) h
    exact ⟨j + 1, d', by simpa using e⟩
theorem nodupN_cons {a : Nat} {r : List Nat} (h : nodupN (a :: r) = true) : a ∉ r ∧ nodupN r = true := by
  unfold nodupN at h
  simp only [Bool.and_eq_true, Bool.not_eq_true', List.contains_eq_mem, decide_eq_false_iff_not] at h
  exact h
theorem places_inj : ∀ {vs : List (Fl × D)} {j k i : Nat} {d d' : D}, nodupN (places vs) = true → vs[j]? = some (.pl i, d) → vs[k]? = some (.pl i, d') → j = k
  | [], _, _, _, _, _, _, e, _ => by simp at e
  | (.pl q, u) :: r, 0, 0, _, _, _, _, _, _ => rfl
  | (.pl q, u) :: r, 0, k + 1, i, d, d', h, e1, e2 => by
    simp at e1
    have := places_get (vs := r) (j := k) (by simpa using e2)
    rw [← e1.1] at this
    exact absurd this (nodupN_cons h).1
  | (.pl q, u) :: r, j + 1, 0, i, d, d', h, e1, e2 => by
    simp at e2
    have := places_get (vs := r) (j := j) (by simpa using e1)
    rw [← e2.1] at this
    exact absurd this (nodupN_cons h).1
  | (.pl q, u) :: r, j + 1, k + 1, i, d, d', h, e1, e2 => congrArg (· + 1) (places_inj (vs := r) (nodupN_cons h).2 (by simpa using e1) (by simpa using e2))
  | (.fr, u) :: r, 0, _, i, d, d', h, e1, e2 => by simp at e1
  | (.ow, u) :: r, 0, _, i, d, d', h, e1, e2 => by simp at e1
  | (.fr, u) :: r, j + 1, 0, i, d, d', h, e1, e2 => by simp at e2
  | (.ow, u) :: r, j + 1, 0, i, d, d', h, e1, e2 => by simp at e2
  | (.fr, u) :: r, j + 1, k + 1, i, d, d', h, e1, e2 => congrArg (· + 1) (places_inj (vs := r) h (by simpa using e1) (by simpa using e2))
  | (.ow, u) :: r, j + 1, k + 1, i, d, d', h, e1, e2 => congrArg (· + 1) (places_inj (vs := r) h (by simpa using e1) (by simpa using e2))
theorem slAt_map {xs : List V} {j : Nat} : slAt (xs.map some) j = xs[j]? := by
  unfold slAt
  rw [List.getElem?_map]
  cases xs[j]? <;> rfl
/-- the slots that the callee sees -/
theorem lend_rel {vs : List (Fl × D)} {xs : List V} (hs : ∀ a, F a → F' a) (hF : ∀ a, owAt vs xs a → F' a) (v : vOks G F H env σ vs xs) (R : Rel G F' H env σ) (nd : nodupN (places vs) = true) : Rel G F' H (lend vs env) (xs.map some) := by
  have own : ∀ j, isOwn (getS (lend vs env) j) = true → ∃ i d, vs[j]? = some (.pl i, d) ∧ isOwn (getS env i) = true ∧ slAt σ i = slAt (xs.map some) j := fun j hj => by
    rw [lend_get] at hj
    cases q : vs[j]? with
    | none => rw [q] at hj; cases hj
    | some w =>
      obtain ⟨f, d⟩ := w
      cases f with
      | pl i =>
        rw [q] at hj
        obtain ⟨x, e1, e2⟩ := vOks_get v q
        have e2 : slAt σ i = some x := e2
        exact ⟨i, d, rfl, hj, by rw [slAt_map, e1, e2]⟩
      | fr => rw [q] at hj; cases hj
      | ow => rw [q] at hj; cases hj
  refine ⟨by rw [lend_len, List.length_map, vOks_len v], fun j => ?_, fun j k a hj hk ej ek => ?_, R.fin⟩
  · rw [lend_get, slAt_map]
    cases q : vs[j]? with
    | none => trivial
    | some w =>
      obtain ⟨f, d⟩ := w
      obtain ⟨x, e1, e2⟩ := vOks_get v q
      cases f with
      | pl i =>
        have e2 : slAt σ i = some x := e2
        have := R.slot i
        rw [e2] at this
        rw [e1]
        exact this
      | fr => rw [e1]; exact ⟨x, rfl, relF_sub hs d x e2⟩
      | ow =>
        rw [e1]
        obtain ⟨a, ea, _, _, r⟩ := e2
        have at_ : owAt vs xs a := by
          have go : ∀ (vs : List (Fl × D)) (xs : List V) (j : Nat), vs[j]? = some (.ow, d) → xs[j]? = some x → owAt vs xs a := by
            intro vs
            induction vs with
            | nil => intro xs j h; simp at h
            | cons w r ih =>
              intro xs j h1 h2
              cases xs with
              | nil => simp at h2
              | cons y yr =>
                cases j with
                | zero => simp at h1 h2; subst h1; subst h2; exact .inl ⟨rfl, ea⟩
                | succ j => exact .inr (ih yr j (by simpa using h1) (by simpa using h2))
          exact go vs xs j q e1
        subst ea
        exact ⟨_, rfl, relF_of_relO (relO_sub hs r) (hF a at_)⟩
  · obtain ⟨i, d, q1, q2, q3⟩ := own j hj
    obtain ⟨i', d', q4, q5, q6⟩ := own k hk
    have := R.one i i' a q2 q5 (q3.trans ej) (q6.trans ek)
    subst this
    exact places_inj nd q1 q4
theorem back_len : ∀ {vs : List (Fl × D)} {outs : List Sl} {e e2 : Env}, back vs outs e = some e2 → e2.length = e.length
  | [], _, _, _, h => by cases h; rfl
  | (.pl i, d) :: r, o :: outs, e, e2, h => by
    unfold back at h
    split at h
    · cases h
    · rw [back_len h, setS_length]
  | (.pl i, d) :: r, [], _, _, h => by cases h
  | (.fr, d) :: r, _ :: outs, e, e2, h => back_len (vs := r) (outs := outs) h
  | (.ow, d) :: r, _ :: outs, e, e2, h => back_len (vs := r) (outs := outs) h
  | (.fr, d) :: r, [], e, e2, h => back_len (vs := r) (outs := []) h
  | (.ow, d) :: r, [], e, e2, h => back_len (vs := r) (outs := []) h
/-- what came back -/
theorem back_get : ∀ {vs : List (Fl × D)} {outs : List Sl} {e e2 : Env}, back vs outs e = some e2 → nodupN (places vs) = true → (∀ i ∈ places vs, i < e.length) → ∀ i,
    (∀ (j : Nat) (d : D), vs[j]? = some (.pl i, d) → getS e2 i = getS outs j) ∧ (i ∉ places vs → getS e2 i = getS e i)
  | [], _, _, _, h, _, _, i => by cases h; exact ⟨fun j d e => by simp at e, fun _ => rfl⟩
  | (.pl k, d) :: r, o :: outs, e, e2, h, nd, hl, i => by
    unfold back at h
    split at h
    · cases h
    · obtain ⟨n1, n2⟩ := nodupN_cons nd
      have ih := back_get h n2 (fun q hq => by rw [setS_length]; exact hl q (List.mem_cons_of_mem _ hq))
      refine ⟨fun j d' e1 => ?_, fun hi => ?_⟩
      · cases j with
        | zero =>
          simp at e1
          obtain ⟨rfl, _⟩ := e1
          rw [(ih k).2 n1, getS_set_self (hl k List.mem_cons_self)]; rfl
        | succ j => exact (ih i).1 j d' (by simpa using e1)
      · have hi : i ≠ k ∧ i ∉ places r := by
          have : i ∉ k :: places r := hi
          simpa [not_or] using this
        rw [(ih i).2 hi.2, getS_set_ne (Ne.symm hi.1)]
  | (.pl i, d) :: r, [], _, _, h, _, _, _ => by cases h
  | (.fr, d) :: r, o :: outs, e, e2, h, nd, hl, i => by
    have ih := back_get (vs := r) (outs := outs) h nd hl i
    refine ⟨fun j d' e1 => ?_, ih.2⟩
    cases j with
    | zero => simp at e1
    | succ j => exact ih.1 j d' (by simpa using e1)
  | (.ow, d) :: r, o :: outs, e, e2, h, nd, hl, i => by
    have ih := back_get (vs := r) (outs := outs) h nd hl i
    refine ⟨fun j d' e1 => ?_, ih.2⟩
    cases j with
    | zero => simp at e1
    | succ j => exact ih.1 j d' (by simpa using e1)
  | (.fr, d) :: r, [], e, e2, h, nd, hl, i => by
    have ih := back_get (vs := r) (outs := []) h nd hl i
    refine ⟨fun j d' e1 => ?_, ih.2⟩
    cases j with
    | zero => simp at e1
    | succ j => rw [ih.1 j d' (by simpa using e1)]; cases j <;> rfl
  | (.ow, d) :: r, [], e, e2, h, nd, hl, i => by
    have ih := back_get (vs := r) (outs := []) h nd hl i
    refine ⟨fun j d' e1 => ?_, ih.2⟩
    cases j with
    | zero => simp at e1
    | succ j => rw [ih.1 j d' (by simpa using e1)]; cases j <;> rfl
/-- behind a call, in the caller's slots -/
theorem back_pst {vs : List (Fl × D)} {xs : List V} {outs : List Sl} (v : ∀ (j i : Nat) (d : D), vs[j]? = some (.pl i, d) → ∃ x, xs[j]? = some x ∧ slAt σ i = some x) (R : Rel G F H env σ) (nd : nodupN (places vs) = true) (RL : Rel G F H (lend vs env) (xs.map some))
    (P : Pst G F H (lend vs env) (xs.map some) F' H' outs (xs.map some)) (hb : back vs outs env = some e2) : Pst G F H env σ F' H' e2 σ := by
  have hlt : ∀ i ∈ places vs, i < env.length := fun i hi => by
    obtain ⟨j, d, e⟩ := places_of hi
    obtain ⟨x, _, e2⟩ := v j i d e
    have := slAt_some e2
    rw [R.len]
    exact (List.getElem?_eq_some_iff.mp this).1
  have bg := back_get hb nd hlt
  -- the two kinds of slots
  have kind : ∀ i, (∃ j d x, vs[j]? = some (.pl i, d) ∧ xs[j]? = some x ∧ slAt σ i = some x ∧ getS e2 i = getS outs j ∧ getS (lend vs env) j = getS env i) ∨ (i ∉ places vs ∧ getS e2 i = getS env i) := fun i => by
    by_cases hi : i ∈ places vs
    · obtain ⟨j, d, e⟩ := places_of hi
      obtain ⟨x, e1, e2⟩ := v j i d e
      exact .inl ⟨j, d, x, e, e1, e2, (bg i).1 j d e, by rw [lend_get, e]⟩
    · exact .inr ⟨hi, (bg i).2 hi⟩
  have lendAt : ∀ j, isOwn (getS (lend vs env) j) = true → ∃ i d x, vs[j]? = some (.pl i, d) ∧ xs[j]? = some x ∧ slAt σ i = some x ∧ getS (lend vs env) j = getS env i := fun j hj => by
    have hj' := hj
    rw [lend_get] at hj
    cases q : vs[j]? with
    | none => rw [q] at hj; cases hj
    | some w =>
      obtain ⟨f, d⟩ := w
      cases f with
      | pl i =>
        obtain ⟨x, e1, e2⟩ := v j i d q
        exact ⟨i, d, x, rfl, e1, e2, by rw [lend_get, q]⟩
      | fr => rw [q] at hj; cases hj
      | ow => rw [q] at hj; cases hj
  have mlE : ∀ a, Ml (lend vs env) (xs.map some) a → ∃ i, i ∈ places vs ∧ isOwn (getS env i) = true ∧ slAt σ i = some (.ref a) := fun a ⟨j, h1, h2⟩ => by
    obtain ⟨i, d, x, e1, e2, e3, e4⟩ := lendAt j h1
    rw [slAt_map, e2] at h2; cases h2
    exact ⟨i, places_get e1, by rw [← e4]; exact h1, e3⟩
  have moE : ∀ a, Mo (lend vs env) (xs.map some) a → Mo env σ a := fun a ⟨j, d', h1, h2⟩ => by
    obtain ⟨i, d, x, e1, e2, e3, e4⟩ := lendAt j (by rw [h1]; rfl)
    rw [slAt_map, e2] at h2; cases h2
    exact ⟨i, d', by rw [← e4]; exact h1, e3⟩
  have apart' : ∀ i, i ∉ places vs → isOwn (getS env i) = true → ∀ a, slAt σ i = some (.ref a) → ¬ Ml (lend vs env) (xs.map some) a := fun i hi ho a ha m => by
    obtain ⟨i', h1, h2, h3⟩ := mlE a m
    have := R.one i i' a ho h2 ha h3
    subst this
    exact hi h1
  have alive : ∀ i, isOwn (getS env i) = true → ∀ a, slAt σ i = some (.ref a) → H a ≠ none := fun i ho a ha => R.there ⟨i, ho, ha⟩
  have notF' : ∀ i, i ∉ places vs → isOwn (getS env i) = true → ∀ a, slAt σ i = some (.ref a) → ¬ F a → ¬ F' a := fun i hi ho a ha nF z => by
    rcases P.ext.new a z with z | z | z
    · exact nF z
    · exact apart' i hi ho a ha z.ml
    · exact alive i ho a ha z
  refine ⟨P.ext.weak moE, ⟨by rw [back_len hb]; exact R.len, fun i => ?_, fun i i' a hi hi' ea ea' => ?_, P.rel.fin⟩, fun a ⟨i, h1, h2⟩ => ?_, fun a ⟨i, d, h1, h2⟩ => ?_, fun i d h => ?_⟩
  · rcases kind i with ⟨j, d, x, e1, e2, e3, e4, _⟩ | ⟨h1, h2⟩
    · rw [e4, e3]
      have := P.rel.slot j
      rw [slAt_map, e2] at this
      exact this
    · rw [h2]
      have q := R.slot i
      have ap := apart' i h1
      have nf := notF' i h1
      cases hs : getS env i with
      | non => trivial
      | fr y =>
        rw [hs] at q
        obtain ⟨u, h4, h5⟩ := q
        exact ⟨u, h4, relF_ext P.ext RL.apart y u h5⟩
      | ow y =>
        rw [hs] at q ap nf
        obtain ⟨u, h4, h6, h5⟩ := q
        exact ⟨u, h4, nf rfl u h4 h6, relO_ext P.ext RL.apart (fun z => ap rfl u h4 z.ml) h5⟩
      | lk y =>
        rw [hs] at q ap nf
        obtain ⟨u, h4, h6, h5⟩ := q
        exact ⟨u, h4, nf rfl u h4 h6, relO_ext P.ext RL.apart (fun z => ap rfl u h4 z.ml) h5⟩
  · -- one slot alone
    have mixed : ∀ (i i' : Nat) (j : Nat) (d : D) (x : V), vs[j]? = some (.pl i, d) → xs[j]? = some x → slAt σ i = some x → isOwn (getS outs j) = true → i' ∉ places vs → isOwn (getS env i') = true → slAt σ i = some (.ref a) → slAt σ i' = some (.ref a) → False := fun i i' j d x e1 e2 e3 ho hn hi' ea ea' => by
      rw [e3] at ea; cases ea
      rcases P.mo a ⟨j, ho, by rw [slAt_map]; exact e2⟩ with z | z
      · exact apart' i' hn hi' a ea' z
      · exact alive i' hi' a ea' z
    rcases kind i with ⟨j, d, x, e1, e2, e3, e4, e5⟩ | ⟨h1, h2⟩
    · rcases kind i' with ⟨j', d', x', e1', e2', e3', e4', e5'⟩ | ⟨h1', h2'⟩
      · rw [e4] at hi; rw [e4'] at hi'
        have ea2 := ea; have ea2' := ea'
        rw [e3] at ea2; cases ea2
        rw [e3'] at ea2'; cases ea2'
        have := P.rel.one j j' a hi hi' (by rw [slAt_map]; exact e2) (by rw [slAt_map]; exact e2')
        subst this
        rw [e1] at e1'; cases e1'; rfl
      · rw [e4] at hi; rw [h2'] at hi'
        exact (mixed i i' j d x e1 e2 e3 hi h1' hi' ea ea').elim
    · rcases kind i' with ⟨j', d', x', e1', e2', e3', e4', e5'⟩ | ⟨h1', h2'⟩
      · rw [e4'] at hi'; rw [h2] at hi
        exact (mixed i' i j' d' x' e1' e2' e3' hi' h1 hi ea' ea).elim
      · rw [h2] at hi; rw [h2'] at hi'
        exact R.one i i' a hi hi' ea ea'
  · rcases kind i with ⟨j, d, x, e1, e2, e3, e4, _⟩ | ⟨h3, h4⟩
    · rw [e4] at h1
      rw [e3] at h2; cases h2
      rcases P.mo a ⟨j, h1, by rw [slAt_map]; exact e2⟩ with z | z
      · obtain ⟨i2, _, h5, h6⟩ := mlE a z
        exact .inl ⟨i2, h5, h6⟩
      · exact .inr z
    · rw [h4] at h1
      exact .inl ⟨i, h1, h2⟩
  · rcases kind i with ⟨j, d', x, e1, e2, e3, e4, _⟩ | ⟨h3, h4⟩
    · rw [e4] at h1
      rw [e3] at h2; cases h2
      rcases P.mw a ⟨j, d, h1, by rw [slAt_map]; exact e2⟩ with z | z
      · exact .inl (moE a z)
      · exact .inr z
    · rw [h4] at h1
      exact .inl ⟨i, d, h1, h2⟩
  · rcases kind i with ⟨j, d', x, e1, e2, e3, e4, e5⟩ | ⟨h3, h4⟩
    · rw [e4] at h
      rw [← e5]
      exact ⟨(P.lk j d h).1, rfl⟩
    · rw [h4] at h; exact ⟨h, rfl⟩
end
end PF
set_option Elab.async false
set_option linter.all false
set_option maxRecDepth 100000
set_option maxHeartbeats 1000000
/-! PF4e: calls of defs; what is walked. -/
namespace PF
open PySem PySem.Spec PyProof.Rows L2

/-- what a def is handed, what it answers -/
def kF (G : Gp) (F : Addr → Prop) (H : Hp) (as : List Sl) (vs : List V) (Q : VK) (E : XK) : FR → Prop
  | .ok o d outs => ∀ F' H' v, Pst G F H as (vs.map some) F' H' outs (vs.map some) →
      (if o = true then ∃ a, v = .ref a ∧ ¬ F' a ∧ H a = none ∧ ¬ Ml outs (vs.map some) a ∧ relO G F' H' d a else relF G F' H' d v) → Q v H'
  | .ex x outs => ∀ F' H' cls dd, Pst G F H as (vs.map some) F' H' outs (vs.map some) → exOk G F' H' x cls dd → E cls dd H'
  | .st => False
def spOf (G : Gp) (φ : List Sl → FR) (n : Nat) : Sp := fun vs H Q E => vs.length = n ∧ ∃ F as, Rel G F H as (vs.map some) ∧ kF G F H as vs Q E (φ as)
theorem spOf_len {G : Gp} {φ : List Sl → FR} {n : Nat} : ∀ vs H Q E, spOf G φ n vs H Q E → vs.length = n := fun _ _ _ _ h => h.1

section
variable {G : Gp} {Φ : Str → List Sl → FR} {γ : Str → Option D} {W : WX} {X : Cx} {σ : L2.St} {H : Hp} {f : Str} {ms : List E} {Q : VK} {n : Nat}
theorem call_rd (hn : ∀ as, Φ f as ≠ .st → as.length = n) (h : rdE G Φ γ W (.call f ms) σ H Q) : rdEs G Φ γ W ms σ H fun xs H1 => spOf G (Φ f) n xs H1 Q (WE W σ) := by
  obtain ⟨F, env, R, k⟩ := h
  refine ⟨F, env, R, ?_⟩
  rw [ev] at k
  cases hs : evs Φ γ ms env with
  | st => rw [hs] at k; exact k
  | ex x e1 => rw [hs] at k; exact k
  | ok vs e1 =>
    rw [hs] at k
    intro F1 H1 xs p1 v1 n1
    simp only [REs.bd] at k
    split at k
    · rename_i nd
      have pz : Pst G F H env σ (fun a => F1 a ∨ owAt vs xs a) H1 e1 σ := p1.freeze fun a z => let q := owAt_facts v1 n1 z; ⟨q.2.1, q.2.2.1, .inr q.2.2.2⟩
      have RL := lend_rel (F' := fun a => F1 a ∨ owAt vs xs a) (fun _ z => .inl z) (fun _ z => .inr z) v1 pz.rel nd
      have vv : ∀ (j i : Nat) (d : D), vs[j]? = some (.pl i, d) → ∃ x, xs[j]? = some x ∧ slAt σ i = some x := fun j i d e => by
        obtain ⟨x, e1, e2⟩ := vOks_get v1 e
        exact ⟨x, e1, e2⟩
      have hne : Φ f (lend vs e1) ≠ .st := fun z => by rw [z] at k; exact k
      refine ⟨by rw [vOks_len v1, ← lend_len vs e1]; exact hn _ hne, _, lend vs e1, RL, ?_⟩
      cases hf : Φ f (lend vs e1) with
      | st => exact hne hf
      | ex x outs =>
        rw [hf] at k
        simp only [callE] at k
        cases hb : back vs outs e1 with
        | none => rw [hb] at k; exact k.elim
        | some e2 =>
          rw [hb] at k
          intro F3 H3 cls dd P hx
          exact k F3 H3 cls dd (pz.trans (back_pst vv pz.rel nd RL P hb)) hx
      | ok o d outs =>
        rw [hf] at k
        simp only [callE] at k
        cases hb : back vs outs e1 with
        | none => rw [hb] at k; exact k.elim
        | some e2 =>
          rw [hb] at k
          intro F3 H3 v P hv
          have P2 := back_pst vv pz.rel nd RL P hb
          have k : kE G W F H env σ Q (.ok (flOf o) d e2) := k
          refine k F3 H3 v (pz.trans P2) ?_ ?_
          · cases o with
            | false => rw [if_neg Bool.false_ne_true] at hv; exact hv
            | true =>
              rw [if_pos rfl] at hv
              obtain ⟨a, ea, nF, hnew, nM, r⟩ := hv
              refine ⟨a, ea, nF, fun ⟨i, h1, h2⟩ => ?_, r⟩
              have hlt : ∀ i ∈ places vs, i < e1.length := fun i hi => by
                obtain ⟨j, d, e⟩ := places_of hi
                obtain ⟨x, _, e2⟩ := vv j i d e
                rw [pz.rel.len]
                exact (List.getElem?_eq_some_iff.mp (slAt_some e2)).1
              have bg := back_get hb nd hlt i
              by_cases hi : i ∈ places vs
              · obtain ⟨j, d', e⟩ := places_of hi
                obtain ⟨x, e3, e4⟩ := vv j i d' e
                rw [bg.1 j d' e] at h1
                rw [h2] at e4; cases e4
                exact nM ⟨j, h1, by rw [slAt_map]; exact e3⟩
              · rw [bg.2 hi] at h1
                exact pz.rel.there ⟨i, h1, h2⟩ hnew
          · intro ef a ea
            cases o with
            | false => cases ef
            | true =>
              rw [if_pos rfl] at hv
              obtain ⟨b, eb, nF, hnew, nM, r⟩ := hv
              rw [eb] at ea; cases ea
              exact pz.ext.alive a hnew
    · exact k.elim
variable {mg : Str → Option Value} {base : Heap} {k : Nat}
/-- the program around a def: its names, its constants, its defs -/
structure Top (G : Gp) (mg : Str → Option Value) (base : Heap) (Φ : Str → List Sl → FR) (γ : Str → Option D) (bns : List Str) (fns : Str → Bool) (k : Nat) : Prop where
  gl : ∀ x d, γ x = some d → ∃ u v, mg x = some u ∧ RelV v u ∧ ∀ F H, relF G F H d v
  bn : ∀ x ∈ bns, mg x = none
  fn : ∀ f, fns f = true → ∃ fa fd ps, mg f = some (.ref fa) ∧ PySem.W.keepIn G.K (.ref fa) = true ∧ Binds G.K fd ps [] ∧ (∀ as, Φ f as ≠ .st → as.length = ps.length) ∧ FnOk G.P G.w G.K mg base (L2.CX G.P G.w) k fa fd ps (spOf G (Φ f) ps.length)
/-- a scope: its names, the names whose cells are its own -/
structure Sc where
  scope : Scope
  fn : Str → Bool
/-- the context -/
structure Cok (G : Gp) (mg : Str → Option Value) (base : Heap) (N : List Str) (k : Nat) (sc : Sc) (X : Cx) (W : WX) : Prop where
  P : X.prog = G.P
  w : X.w = G.w
  K : X.K = G.K
  mg : X.mg = mg
  base : X.base = base
  names : X.N = N
  scope : X.env.scope = sc.scope
  fn : X.fn = sc.fn
  room : Room k X.A
  calm : X.calm = true
  nd : N.Nodup
  tk : Takes X W
theorem e_call {bns : List Str} {fns : Str → Bool} {N : List Str} {sc : Sc} (T : Top G mg base Φ γ bns fns k) (C : Cok G mg base N k sc X W) {p pos : Pos} {e : Expr} {es : List Expr} {m : E} {ms : List E} (hf : fns f = true) (hg : Gl X f) (hdb : (f == ("__debug__" : Str)) = false) (ns : (e :: es).all notStar = true)
    (h : PA X (e :: es) (rdEs G Φ γ W (m :: ms))) : PE X (.Call (.Name f p) (e :: es) [] pos) (rdE G Φ γ W (.call f (m :: ms))) := by
  obtain ⟨fa, fd, ps, h1, h2, h3, h4, h5⟩ := T.fn f hf
  rw [List.all_cons, Bool.and_eq_true] at ns
  have FF : FnOk X.prog X.w X.K X.mg X.base (L2.CX X.prog X.w) k fa fd ps (spOf G (Φ f) ps.length) := by rw [C.P, C.w, C.K, C.mg, C.base]; exact h5
  refine PE.imp (pe_callSD (dvs := []) (ds := []) (E := WE W) FF C.room hg (by rw [C.mg]; exact h1) (by rw [C.K]; exact h2) (by rw [C.K]; exact h3) .nil (fun σ => passAt C.tk σ) h hdb (star_cons ns.1) (back_any ns.2)) fun σ H Q h => ?_
  have := call_rd h4 h
  show rdEs G Φ γ W (m :: ms) σ H fun vs H1 => spOf G (Φ f) ps.length (vs ++ []) H1 Q (WE W σ)
  simp only [List.append_nil]
  exact this
theorem e_call0 {bns : List Str} {fns : Str → Bool} {N : List Str} {sc : Sc} (T : Top G mg base Φ γ bns fns k) (C : Cok G mg base N k sc X W) {p pos : Pos} (hf : fns f = true) (hg : Gl X f) (hdb : (f == ("__debug__" : Str)) = false) :
    PE X (.Call (.Name f p) [] [] pos) (rdE G Φ γ W (.call f [])) := by
  obtain ⟨fa, fd, ps, h1, h2, h3, h4, h5⟩ := T.fn f hf
  have FF : FnOk X.prog X.w X.K X.mg X.base (L2.CX X.prog X.w) k fa fd ps (spOf G (Φ f) ps.length) := by rw [C.P, C.w, C.K, C.mg, C.base]; exact h5
  refine ⟨fun pins s σ H Q I h => ?_⟩
  refine wpAny_Call_Name_kw (ld_glob I hg (by rw [C.mg]; exact h1) ?_ hdb)
  exact PySem.W.callWith_K0 I.kIn (by rw [C.K]; exact h2) (run_fnSD (dvs := []) (ds := []) (us := []) (E := WE W) FF C.room (by rw [C.K]; exact h3) .nil (passAt C.tk σ) I .nil (rdEs_nil (call_rd h4 h)))
end

/-! ### what is walked -/
section
variable (G : Gp)
/-- the iterator J yields ds, whatever becomes of the slots that are not locked -/
def ItOk (F : Addr → Prop) (H : Hp) (e : Env) (σ : L2.St) (ds : List D) (ls : List Nat) (J : L2.It) : Prop :=
  ∀ F2 H2, Ext (Mo (lockAll ls e) σ) F H F2 H2 → ∀ i : Nat, (ds.length ≤ i → J.stop i H2) ∧ ∀ d, ds[i]? = some d → J.go i H2 ∧ ∀ x H3, J.yld i H2 x H3 → (∀ a o, H2 a = some o → H3 a = some o) ∧ relF G F2 H3 d x
def kI (W : WX) (F : Addr → Prop) (H : Hp) (env : Env) (σ : L2.St) (R : L2.It → Hp → Prop) : RI → Prop
  | .ok ds ls e' => ∀ F' H' J, Pst G F H env σ F' H' e' σ → ItOk G F' H' e' σ ds ls J → R J H'
  | .ex x e' => ∀ F' H' cls dd, Pst G F H env σ F' H' e' σ → exOk G F' H' x cls dd → W cls dd σ H'
  | .st => False
def rdI (Φ : Str → List Sl → FR) (γ : Str → Option D) (W : WX) (m : It) : TI := fun σ H R => ∃ F env, Rel G F H env σ ∧ kI G W F H env σ R (evI Φ γ m env)
end
section
variable {G : Gp} {Φ : Str → List Sl → FR} {γ : Str → Option D} {W : WX} {X : Cx} {F : Addr → Prop} {H : Hp} {env : Env} {σ : L2.St} {e : Expr} {m : E} {tg : Expr}
theorem pi_or {it : Expr} {t t' : TI} (h : PI X tg it t) (h' : PI X tg it t') : PI X tg it (fun σ H R => t σ H R ∨ t' σ H R) := ⟨fun pins s σ H R I q => q.elim (h.run pins s σ H R I) (h'.run pins s σ H R I)⟩
theorem lockS_get (e : Env) (i j : Nat) : getS (lockS e i) j = if i = j then (match getS e j with | .ow d => .lk d | s => s) else getS e j := by
  unfold lockS
  cases h : getS e i with
  | ow d =>
    show getS (setS e i (.lk d)) j = _
    have hi : i < e.length := getS_lt (by rw [h]; exact fun z => nomatch z)
    rw [getS_setS]
    by_cases z : i = j
    · subst z; rw [if_pos ⟨rfl, hi⟩, if_pos rfl, h]
    · rw [if_neg fun q => z q.1, if_neg z]
  | _ =>
    show getS e j = _
    split
    · rename_i z; subst z; rw [h]
    · rfl
theorem Mo_lockS {e : Env} {i : Nat} {a : Addr} (h : Mo (lockS e i) σ a) : Mo e σ a ∧ ∀ d, getS e i = .ow d → slAt σ i = some (.ref a) → ∃ j, j ≠ i ∧ isOwn (getS e j) = true ∧ slAt σ j = some (.ref a) := by
  obtain ⟨j, d, h1, h2⟩ := h
  rw [lockS_get] at h1
  split at h1
  · rename_i z
    subst z
    cases q : getS e i <;> rw [q] at h1 <;> cases h1
  · rename_i z
    exact ⟨⟨j, d, h1, h2⟩, fun _ _ _ => ⟨j, fun q => z q.symm, by rw [h1]; rfl, h2⟩⟩
/-- a value that is walked is not written: it is shared, new, or its slot is locked -/
theorem walk_at {f : Fl} {d : D} {v : V} {a : Addr} {d' : D} (R : Rel G F H env σ) (h : vOk G F H env σ f d v) (e : v = .ref a) (hl : late f d env = some d') (hd : (∃ ds, d' = .lst ds) ∨ ∃ ks vs, d' = .dct ks vs) : ¬ Mo (lockAll (lockOf f) env) σ a := by
  cases f with
  | fr =>
    cases hl
    have : F a := by
      rcases hd with ⟨ds, rfl⟩ | ⟨ks, vs, rfl⟩
      · simp only [vOk, relF] at h
        obtain ⟨b, xs, e1, hF, _⟩ := h
        rw [e] at e1; cases e1; exact hF
      · simp only [vOk, relF] at h
        obtain ⟨b, kx, vx, e1, hF, _⟩ := h
        rw [e] at e1; cases e1; exact hF
    exact fun m => (R.apart a m).1 this
  | ow =>
    obtain ⟨b, e1, _, nM, _⟩ := h
    rw [e] at e1; cases e1
    exact fun m => nM m.ml
  | pl i =>
    have h : slAt σ i = some v := h
    subst e
    show ¬ Mo (lockS env i) σ a
    intro m
    obtain ⟨m1, m2⟩ := Mo_lockS m
    have q := R.slot i
    have hl : (getS env i).d? = some d' := hl
    cases hs : getS env i with
    | non => rw [hs] at hl; cases hl
    | fr x =>
      rw [hs] at hl q
      cases hl
      obtain ⟨u, h1, h2⟩ := q
      rw [h] at h1; cases h1
      have : F a := by
        rcases hd with ⟨ds, rfl⟩ | ⟨ks, vs, rfl⟩
        · simp only [relF] at h2
          obtain ⟨b, xs, e1, hF, _⟩ := h2
          cases e1; exact hF
        · simp only [relF] at h2
          obtain ⟨b, kx, vx, e1, hF, _⟩ := h2
          cases e1; exact hF
      exact (R.apart a m1).1 this
    | ow x =>
      obtain ⟨j, hj, h1, h2⟩ := m2 x hs h
      exact hj (R.one j i a h1 (by rw [hs]; rfl) h2 h)
    | lk x =>
      obtain ⟨j, d2, h1, h2⟩ := m1
      have : j = i := R.one j i a (by rw [h1]; rfl) (by rw [hs]; rfl) h2 h
      subst this
      rw [hs] at h1; cases h1
theorem apart_lock (R : Rel G F H env σ) (ls : List Nat) : ∀ a, Mo (lockAll ls env) σ a → Mo env σ a := by
  have go : ∀ (ls : List Nat) (e : Env) a, Mo (ls.foldl lockS e) σ a → Mo e σ a := by
    intro ls
    induction ls with
    | nil => intro e a h; exact h
    | cons i r ih => intro e a h; exact (Mo_lockS (ih _ a h)).1
  exact go ls env
theorem ap_lock (R : Rel G F H env σ) (ls : List Nat) : Apart (Mo (lockAll ls env) σ) F H := fun a h => R.apart a (apart_lock R ls a h)
theorem SqL_rd {K : PySem.W.Frag} {a : Addr} {xs : List V} (h : Rd H a (.lst xs)) : SqL K H a xs := .inl h
/-- a list -/
theorem itOk_list {ls : List Nat} {ds : List D} {xs : List V} {a : Addr} (R : Rel G F H env σ) (n : ¬ Mo (lockAll ls env) σ a) (h1 : Rd H a (.lst xs)) (h2 : relFs G F H ds xs) : ItOk G F H env σ ds ls (Itl G.K a) := fun F2 H2 E i => by
  have r1 := Rd_ext E n h1
  have r2 := relFs_ext E (ap_lock R ls) ds xs h2
  have l := relFs_length h2
  refine ⟨fun hi => ⟨xs, SqL_rd r1, by omega⟩, fun d hd => ?_⟩
  obtain ⟨x, e1, e2⟩ := relFs_get r2 hd
  refine ⟨⟨xs, x, SqL_rd r1, e1⟩, fun y H3 ⟨e, hy⟩ => ?_⟩
  subst e
  have := hy xs (SqL_rd r1)
  rw [e1] at this; cases this
  exact ⟨fun _ _ q => q, e2⟩
theorem itOk_tup {ls : List Nat} {ds : List D} {xs : List V} {a : Addr} (R : Rel G F H env σ) (h1 : SqT G.K H a xs) (h2 : relFs G F H ds xs) : ItOk G F H env σ ds ls (Itt G.K a) := fun F2 H2 E i => by
  have r1 := SqT_ext E (ap_lock R ls) h1
  have r2 := relFs_ext E (ap_lock R ls) ds xs h2
  have l := relFs_length h2
  refine ⟨fun hi => ⟨xs, r1, by omega⟩, fun d hd => ?_⟩
  obtain ⟨x, e1, e2⟩ := relFs_get r2 hd
  refine ⟨⟨xs, x, r1, e1⟩, fun y H3 ⟨e, hy⟩ => ?_⟩
  subst e
  have := hy xs r1
  rw [e1] at this; cases this
  exact ⟨fun _ _ q => q, e2⟩
theorem itOk_str {ls : List Nat} {z : Str} : ItOk G F H env σ (z.cps.toList.map fun c => D.str ⟨#[c]⟩) ls (Its z) := fun F2 H2 E i => by
  refine ⟨fun hi => ?_, fun d hd => ?_⟩
  · show z.cps.size ≤ i
    simpa using hi
  · rw [List.getElem?_map] at hd
    cases q : z.cps.toList[i]? with
    | none => rw [q] at hd; cases hd
    | some c =>
      rw [q] at hd; cases hd
      have q' : z.cps[i]? = some c := by rw [← Array.getElem?_toList]; exact q
      refine ⟨(Array.getElem?_eq_some_iff.mp q').1, fun y H3 ⟨e, c', h1, h2⟩ => ?_⟩
      subst e
      rw [q'] at h1; cases h1
      refine ⟨fun _ _ q => q, ?_⟩
      simp only [relF]; exact h2
theorem itOk_rng {ls : List Nat} {lo : Int} {n : Nat} : ItOk G F H env σ ((List.range n).map fun (k : Nat) => D.int (lo + (k : Int))) ls (Itr lo n) := fun F2 H2 E i => by
  refine ⟨fun hi => ?_, fun d hd => ?_⟩
  · show n ≤ i
    simpa using hi
  · rw [List.getElem?_map] at hd
    cases q : (List.range n)[i]? with
    | none => rw [q] at hd; cases hd
    | some c =>
      rw [q] at hd; cases hd
      obtain ⟨q1, q2⟩ := List.getElem?_eq_some_iff.mp q
      have hi : i < n := by simpa using q1
      have ec : c = i := by rw [← q2]; simp
      subst ec
      refine ⟨hi, fun y H3 ⟨e, h1⟩ => ?_⟩
      subst e
      refine ⟨fun _ _ q => q, ?_⟩
      simp only [relF]; exact h1
/-- a walk over a value -/
theorem kI_of {t : It} {R0 : L2.It → Hp → Prop} {kk : Fl → D → Env → RI} (k : kI G W F H env σ R0 ((ev Φ γ m env).bdI kk)) {Q1 : VK}
    (i : ∀ f d e1, ∀ F1 H1 v, Pst G F H env σ F1 H1 e1 σ → vOk G F1 H1 e1 σ f d v → kI G W F1 H1 e1 σ R0 (kk f d e1) → Q1 v H1) : kE G W F H env σ Q1 (ev Φ γ m env) := by
  have back : ∀ {F1 H1 e1}, Pst G F H env σ F1 H1 e1 σ → ∀ {r : RI}, kI G W F H env σ R0 r → kI G W F1 H1 e1 σ R0 r := fun p r h => by
    cases r with
    | ok ds ls e' => exact fun F' H' J q x => h F' H' J (p.trans q) x
    | ex x e' => exact fun F' H' cls dd q x => h F' H' cls dd (p.trans q) x
    | st => exact h
  cases e : ev Φ γ m env with
  | ok f d e1 => rw [e] at k; exact fun F1 H1 v p vo n => i f d e1 F1 H1 v p vo (back p k)
  | ex x e1 => rw [e] at k; exact k
  | st => rw [e] at k; exact k
theorem i_seq (hK : X.K = G.K) (dct : PI X tg e (fun σ H R => rdE G Φ γ W m σ H fun v H1 => ∃ F env f d ks vs, Rel G F H1 env σ ∧ vOk G F H1 env σ f d v ∧ late f d env = some (.dct ks vs) ∧ ∀ J, ItOk G F H1 env σ ks (lockOf f) J → R J H1))
    (he : PE X e (rdE G Φ γ W m)) : PI X tg e (rdI G Φ γ W (.seq m)) := by
  refine ⟨fun pins s σ H R I h => ?_⟩
  obtain ⟨F, env, Rl, k⟩ := h
  rw [evI] at k
  -- which make of value it is, is known beforehand
  cases ee : ev Φ γ m env with
  | st => rw [ee] at k; exact k.elim
  | ex x e1 => exact (pi_list he).run pins s σ H R I ⟨F, env, Rl, by rw [ee] at k ⊢; exact k⟩
  | ok f d e1 =>
    have k0 := k
    rw [ee] at k
    simp only [RE.bdI] at k
    cases hl : late f d e1 with
    | none => rw [hl] at k; exact k.elim
    | some d' =>
      rw [hl] at k
      cases d' with
      | lst ds =>
        refine (pi_list he).run pins s σ H R I ⟨F, env, Rl, ?_⟩
        rw [ee]
        intro F1 H1 v p1 v1 n1
        obtain ⟨a, xs, rfl, h1, h2⟩ := rLst (v1.late p1.rel hl)
        refine ⟨a, rfl, ⟨xs, SqL_rd h1⟩, ?_⟩
        rw [hK]
        exact k F1 H1 _ p1 (itOk_list p1.rel (walk_at p1.rel v1 rfl hl (.inl ⟨ds, rfl⟩)) h1 h2)
      | tup ds =>
        refine (pi_tup he).run pins s σ H R I ⟨F, env, Rl, ?_⟩
        rw [ee]
        intro F1 H1 v p1 v1 n1
        obtain ⟨a, xs, rfl, h1, h2⟩ := rTup (v1.late p1.rel hl)
        refine ⟨a, rfl, ⟨xs, by rw [hK]; exact h1⟩, ?_⟩
        rw [hK]
        exact k F1 H1 _ p1 (itOk_tup p1.rel h1 h2)
      | str z =>
        refine (pi_str he).run pins s σ H R I ⟨F, env, Rl, ?_⟩
        rw [ee]
        intro F1 H1 v p1 v1 n1
        have := rStr (v1.late p1.rel hl)
        exact ⟨z, this, k F1 H1 _ p1 itOk_str⟩
      | dct ks vs =>
        refine dct.run pins s σ H R I ⟨F, env, Rl, ?_⟩
        rw [ee]
        intro F1 H1 v p1 v1 n1
        exact ⟨F1, e1, f, d, ks, vs, p1.rel, v1, hl, fun J hJ => k F1 H1 J p1 hJ⟩
      | _ => exact k.elim
theorem i_rng1 {p pos : Pos} (hg : Gl X "range") (hm : X.mg "range" = none) (he : PE X e (rdE G Φ γ W m)) (ns : notStar e = true) : PI X tg (.Call (.Name "range" p) [e] [] pos) (rdI G Φ γ W (.rng1 m)) :=
  PI.imp (pi_range1 hg hm (pa_cons he pa_nil (star_cons ns)) (star_cons ns)) fun σ H R ⟨F, env, Rl, k⟩ => by
    rw [evI] at k
    refine ⟨F, env, Rl, kI_of (t := .rng1 m) k fun f d e1 F1 H1 v p1 v1 k1 => ?_⟩
    cases hl : late f d e1 with
    | none => rw [hl] at k1; exact k1.elim
    | some d' =>
      rw [hl] at k1
      cases d' with
      | int j =>
        simp only [rng1I] at k1
        split at k1
        · rename_i h
          simp only [Bool.and_eq_true, decide_eq_true_eq] at h
          refine ⟨j, by rw [rInt (v1.late p1.rel hl)], h.1, h.2, k1 F1 H1 _ (.refl p1.rel) ?_⟩
          have := itOk_rng (G := G) (F := F1) (H := H1) (env := e1) (σ := σ) (ls := []) (lo := 0) (n := j.toNat)
          simpa using this
        · exact k1.elim
      | _ => exact k1.elim
end
end PF
set_option Elab.async false
set_option linter.all false
set_option maxRecDepth 100000
set_option maxHeartbeats 1000000
/-! PF4f: slots that are set, locked, wiped; targets. -/
namespace PF
open PySem PySem.Spec PyProof.Rows L2

section
variable {G : Gp} {F F' F1 : Addr → Prop} {H H' H1 : Hp} {env e1 e2 e' : Env} {σ σ' : L2.St}
theorem slAt_set {i j : Nat} {v : V} : slAt (σ.set i (some v)) j = if i = j ∧ i < σ.length then some v else slAt σ j := by
  unfold slAt
  rw [List.getElem?_set]
  by_cases h : i = j
  · subst h
    by_cases hl : i < σ.length
    · rw [if_pos rfl, if_pos hl, if_pos ⟨rfl, hl⟩]; rfl
    · rw [if_pos rfl, if_neg hl, if_neg fun q => hl q.2, List.getElem?_eq_none (by omega)]
  · rw [if_neg h, if_neg fun q => h q.1]
/-- a slot is set to a shared value -/
theorem Pst.setF {i : Nat} {d : D} {v : V} (R : Rel G F H env σ) (h : relF G F H d v) : Pst G F H env σ F H (setS env i (.fr d)) (σ.set i (some v)) := by
  have get : ∀ j, (getS (setS env i (.fr d)) j = .fr d ∧ slAt (σ.set i (some v)) j = some v) ∨ (getS (setS env i (.fr d)) j = getS env j ∧ slAt (σ.set i (some v)) j = slAt σ j) := fun j => by
    rw [getS_setS, slAt_set, R.len]
    by_cases z : i = j ∧ i < σ.length
    · rw [if_pos z, if_pos z]; exact .inl ⟨rfl, rfl⟩
    · rw [if_neg z, if_neg z]; exact .inr ⟨rfl, rfl⟩
  have own : ∀ j, isOwn (getS (setS env i (.fr d)) j) = true → getS (setS env i (.fr d)) j = getS env j ∧ slAt (σ.set i (some v)) j = slAt σ j := fun j hj => by
    rcases get j with ⟨h1, _⟩ | h1
    · rw [h1] at hj; cases hj
    · exact h1
  refine ⟨.refl, ⟨by rw [setS_length, List.length_set]; exact R.len, fun j => ?_, fun j k a hj hk ej ek => ?_, R.fin⟩, fun a ⟨j, h1, h2⟩ => ?_, fun a ⟨j, d', h1, h2⟩ => ?_, fun j d' h1 => ?_⟩
  · rcases get j with ⟨h1, h2⟩ | ⟨h1, h2⟩
    · rw [h1, h2]; exact ⟨v, rfl, h⟩
    · rw [h1, h2]; exact R.slot j
  · obtain ⟨h1, h2⟩ := own j hj
    obtain ⟨h3, h4⟩ := own k hk
    rw [h1] at hj; rw [h3] at hk; rw [h2] at ej; rw [h4] at ek
    exact R.one j k a hj hk ej ek
  · obtain ⟨h3, h4⟩ := own j h1
    rw [h3] at h1; rw [h4] at h2
    exact .inl ⟨j, h1, h2⟩
  · obtain ⟨h3, h4⟩ := own j (by rw [h1]; rfl)
    rw [h3] at h1; rw [h4] at h2
    exact .inl ⟨j, d', h1, h2⟩
  · obtain ⟨h3, h4⟩ := own j (by rw [h1]; rfl)
    rw [h3] at h1
    exact ⟨h1, h4⟩
/-- .. to a new object, made since the start -/
theorem Pst.setO {F0 : Addr → Prop} {H0 : Hp} {e0 : Env} {σ0 : L2.St} {i : Nat} {d : D} {a : Addr} (p : Pst G F0 H0 e0 σ0 F H env σ) (nF : ¬ F a) (nM : ¬ Ml env σ a) (h : relO G F H d a) (hn : H0 a = none) :
    Pst G F0 H0 e0 σ0 F H (setS env i (.ow d)) (σ.set i (some (.ref a))) := by
  have R := p.rel
  have get : ∀ j, (getS (setS env i (.ow d)) j = .ow d ∧ slAt (σ.set i (some (.ref a))) j = some (.ref a) ∧ i = j) ∨ (getS (setS env i (.ow d)) j = getS env j ∧ slAt (σ.set i (some (.ref a))) j = slAt σ j) := fun j => by
    rw [getS_setS, slAt_set, R.len]
    by_cases z : i = j ∧ i < σ.length
    · rw [if_pos z, if_pos z]; exact .inl ⟨rfl, rfl, z.1⟩
    · rw [if_neg z, if_neg z]; exact .inr ⟨rfl, rfl⟩
  refine ⟨p.ext, ⟨by rw [setS_length, List.length_set]; exact R.len, fun j => ?_, fun j k b hj hk ej ek => ?_, R.fin⟩, fun b ⟨j, h1, h2⟩ => ?_, fun b ⟨j, d', h1, h2⟩ => ?_, fun j d' h1 => ?_⟩
  · rcases get j with ⟨h1, h2, _⟩ | ⟨h1, h2⟩
    · rw [h1, h2]; exact ⟨a, rfl, nF, h⟩
    · rw [h1, h2]; exact R.slot j
  · rcases get j with ⟨h1, h2, h3⟩ | ⟨h1, h2⟩
    · rcases get k with ⟨h4, h5, h6⟩ | ⟨h4, h5⟩
      · rw [← h3, ← h6]
      · rw [h2] at ej; cases ej
        rw [h4] at hk; rw [h5] at ek
        exact (nM ⟨k, hk, ek⟩).elim
    · rcases get k with ⟨h4, h5, h6⟩ | ⟨h4, h5⟩
      · rw [h5] at ek; cases ek
        rw [h1] at hj; rw [h2] at ej
        exact (nM ⟨j, hj, ej⟩).elim
      · rw [h1] at hj; rw [h2] at ej; rw [h4] at hk; rw [h5] at ek
        exact R.one j k b hj hk ej ek
  · rcases get j with ⟨h3, h4, _⟩ | ⟨h3, h4⟩
    · rw [h4] at h2; cases h2; exact .inr hn
    · rw [h3] at h1; rw [h4] at h2; exact p.mo b ⟨j, h1, h2⟩
  · rcases get j with ⟨h3, h4, _⟩ | ⟨h3, h4⟩
    · rw [h4] at h2; cases h2; exact .inr hn
    · rw [h3] at h1; rw [h4] at h2; exact p.mw b ⟨j, d', h1, h2⟩
  · rcases get j with ⟨h3, h4, _⟩ | ⟨h3, h4⟩
    · rw [h3] at h1; cases h1
    · rw [h3] at h1; rw [h4]; exact p.lk j d' h1
/-- an object of our own that no slot holds is written -/
theorem Pst.scratch {F0 : Addr → Prop} {H0 : Hp} {e0 : Env} {σ0 : L2.St} {a : Addr} {o o' : HO} (p : Pst G F0 H0 e0 σ0 F H env σ) (hn : H0 a = none) (nF : ¬ F a) (nM : ¬ Ml env σ a) (h : H a = some o) (nt : ∀ xs, o ≠ .tup xs) (nf : ∀ u v, o ≠ .frz u v) :
    Pst G F0 H0 e0 σ0 F (upd H a o') env σ ∧ ∀ ds xs, relFs G F H ds xs → relFs G F (upd H a o') ds xs := by
  have E : Ext (fun b => b = a) F H F (upd H a o') := ⟨fun b u e n => by rw [upd_ne n]; exact e, fun b e => by
    by_cases z : b = a
    · subst z; rw [upd_same] at e; cases e
    · rw [upd_ne z] at e; exact e, fun _ z => z, fun _ z => .inl z⟩
  have ap : Apart (fun b => b = a) F H := fun b hb => by
    rw [hb]
    exact ⟨nF, fun xs e => by rw [h] at e; cases e; exact nt xs rfl, fun u v e => by rw [h] at e; cases e; exact nf u v rfl⟩
  exact ⟨⟨p.ext.trans E fun x hx => .inr (by rw [hx]; exact hn), p.rel.ext E ap (fun b m z => nM (by rw [← z]; exact m)) (fun b m => (p.rel.apartL b m).1) (fun b hb e => p.rel.fin b hb (E.alive b e)), p.mo, p.mw, p.lk⟩, fun ds xs r => relFs_ext E ap ds xs r⟩

/-! ### locks -/
theorem lockAll_get : ∀ (ls : List Nat) (e : Env) (j : Nat), getS (lockAll ls e) j = if j ∈ ls then (match getS e j with | .ow d => .lk d | s => s) else getS e j
  | [], e, j => by simp [lockAll]
  | i :: r, e, j => by
    show getS (lockAll r (lockS e i)) j = _
    rw [lockAll_get r (lockS e i) j, lockS_get]
    by_cases h1 : j ∈ r
    · rw [if_pos h1, if_pos (List.mem_cons_of_mem _ h1)]
      cases getS e j <;> (by_cases h2 : i = j <;> simp [h2])
    · rw [if_neg h1]
      by_cases h2 : i = j
      · subst h2; rw [if_pos rfl, if_pos List.mem_cons_self]; try (cases getS e i <;> rfl)
      · rw [if_neg h2, if_neg fun q => (List.mem_cons.mp q).elim (fun z => h2 z.symm) h1]
theorem lockS_length (e : Env) (i : Nat) : (lockS e i).length = e.length := by
  unfold lockS
  split
  · rw [setS_length]
  · rfl
theorem lockAll_length : ∀ (ls : List Nat) (e : Env), (lockAll ls e).length = e.length
  | [], e => rfl
  | i :: r, e => by show (lockAll r (lockS e i)).length = _; rw [lockAll_length r, lockS_length]
theorem unlockS_length (e : Env) (i : Nat) : (unlockS e i).length = e.length := by
  unfold unlockS
  split
  · rw [setS_length]
  · rfl
theorem unlockS_get (e : Env) (i j : Nat) : getS (unlockS e i) j = if i = j then (match getS e j with | .lk d => .ow d | s => s) else getS e j := by
  unfold unlockS
  cases h : getS e i with
  | lk d =>
    show getS (setS e i (.ow d)) j = _
    have hi : i < e.length := getS_lt (by rw [h]; exact fun z => nomatch z)
    rw [getS_setS]
    by_cases z : i = j
    · subst z; rw [if_pos ⟨rfl, hi⟩, if_pos rfl, h]
    · rw [if_neg fun q => z q.1, if_neg z]
  | _ =>
    show getS e j = _
    split
    · rename_i z; subst z; rw [h]
    · rfl
theorem unlocks_get : ∀ (ls : List Nat) (e : Env) (j : Nat), getS (ls.foldl unlockS e) j = if j ∈ ls then (match getS e j with | .lk d => .ow d | s => s) else getS e j
  | [], e, j => by simp
  | i :: r, e, j => by
    show getS (r.foldl unlockS (unlockS e i)) j = _
    rw [unlocks_get r (unlockS e i) j, unlockS_get]
    by_cases h1 : j ∈ r
    · rw [if_pos h1, if_pos (List.mem_cons_of_mem _ h1)]
      cases getS e j <;> (by_cases h2 : i = j <;> simp [h2])
    · rw [if_neg h1]
      by_cases h2 : i = j
      · subst h2; rw [if_pos rfl, if_pos List.mem_cons_self]
      · rw [if_neg h2, if_neg fun q => (List.mem_cons.mp q).elim (fun z => h2 z.symm) h1]
theorem unlocks_length : ∀ (ls : List Nat) (e : Env), (ls.foldl unlockS e).length = e.length
  | [], e => rfl
  | i :: r, e => by show (r.foldl unlockS (unlockS e i)).length = _; rw [unlocks_length r, unlockS_length]
theorem isOwn_lock (ls : List Nat) (e : Env) (j : Nat) : isOwn (getS (lockAll ls e) j) = isOwn (getS e j) := by
  rw [lockAll_get]
  split
  · cases getS e j <;> rfl
  · rfl
theorem Ml_lock {ls : List Nat} {a : Addr} : Ml (lockAll ls env) σ a ↔ Ml env σ a := by
  constructor
  · rintro ⟨j, h1, h2⟩; rw [isOwn_lock] at h1; exact ⟨j, h1, h2⟩
  · rintro ⟨j, h1, h2⟩; exact ⟨j, by rw [isOwn_lock]; exact h1, h2⟩
theorem Rel.lock (R : Rel G F H env σ) (ls : List Nat) : Rel G F H (lockAll ls env) σ := by
  refine ⟨by rw [lockAll_length]; exact R.len, fun j => ?_, fun j k a hj hk => R.one j k a (by rw [← isOwn_lock ls]; exact hj) (by rw [← isOwn_lock ls]; exact hk), R.fin⟩
  rw [lockAll_get]
  have q := R.slot j
  split
  · cases h : getS env j <;> rw [h] at q <;> exact q
  · exact q
theorem unlockAll_get (ls : List Nat) (e0 e : Env) (j : Nat) : getS (unlockAll ls e0 e) j = if j ∈ ls ∧ isOw (getS e0 j) = true then (match getS e j with | .lk d => .ow d | s => s) else getS e j := by
  unfold unlockAll
  rw [unlocks_get]
  simp only [List.mem_filter]
theorem unlockAll_length (ls : List Nat) (e0 e : Env) : (unlockAll ls e0 e).length = e.length := unlocks_length _ _
theorem isOwn_unlock (ls : List Nat) (e0 e : Env) (j : Nat) : isOwn (getS (unlockAll ls e0 e) j) = isOwn (getS e j) := by
  rw [unlockAll_get]
  split
  · cases getS e j <;> rfl
  · rfl
theorem Pst.unlock {ls : List Nat} (R : Rel G F H env σ) (P : Pst G F H (lockAll ls env) σ F' H' e' σ') : Pst G F H env σ F' H' (unlockAll ls env e') σ' := by
  refine ⟨P.ext.weak (apart_lock R ls), ⟨by rw [unlockAll_length]; exact P.rel.len, fun j => ?_, fun j k a hj hk => P.rel.one j k a (by rw [← isOwn_unlock ls env]; exact hj) (by rw [← isOwn_unlock ls env]; exact hk), P.rel.fin⟩, fun a ⟨j, h1, h2⟩ => ?_, fun a ⟨j, d, h1, h2⟩ => ?_, fun j d h => ?_⟩
  · have q := P.rel.slot j
    rw [unlockAll_get]
    split
    · cases h : getS e' j <;> rw [h] at q <;> exact q
    · exact q
  · rw [isOwn_unlock] at h1
    exact (P.mo a ⟨j, h1, h2⟩).imp_left fun z => Ml_lock.mp z
  · rw [unlockAll_get] at h1
    split at h1
    · rename_i hj
      cases hs : getS e' j with
      | lk d' =>
        obtain ⟨h3, h4⟩ := P.lk j d' hs
        have : ∃ d2, getS env j = .ow d2 := by
          cases q : getS env j with
          | ow d2 => exact ⟨d2, rfl⟩
          | _ => rw [q] at hj; cases hj.2
        obtain ⟨d2, e⟩ := this
        exact .inl ⟨j, d2, e, by rw [← h4]; exact h2⟩
      | ow d' => exact (P.mw a ⟨j, d', hs, h2⟩).imp_left (apart_lock R ls a)
      | non => rw [hs] at h1; cases h1
      | fr _ => rw [hs] at h1; cases h1
    · exact (P.mw a ⟨j, d, h1, h2⟩).imp_left (apart_lock R ls a)
  · rw [unlockAll_get] at h
    split at h
    · cases hs : getS e' j <;> rw [hs] at h <;> cases h
    · rename_i hj
      obtain ⟨h3, h4⟩ := P.lk j d h
      refine ⟨?_, h4⟩
      rw [lockAll_get] at h3
      split at h3
      · rename_i hm
        cases q : getS env j with
        | ow d2 => rw [q] at hj; exact (hj ⟨hm, rfl⟩).elim
        | lk d2 => rw [q] at h3; exact h3
        | non => rw [q] at h3; cases h3
        | fr _ => rw [q] at h3; cases h3
      · exact h3
/-! ### names of a block of one's own -/
theorem wipeS_length (e : Env) : ∀ vs : List Nat, (wipeS e vs).length = e.length
  | [] => rfl
  | v :: vs => by rw [wipeS, setS_length, wipeS_length e vs]
theorem wipeS_get (e : Env) : ∀ (vs : List Nat) (j : Nat), getS (wipeS e vs) j = if j ∈ vs then .non else getS e j
  | [], j => by simp [wipeS]
  | v :: vs, j => by
    rw [wipeS, getS_setS, wipeS_length, wipeS_get e vs j]
    by_cases h : v = j
    · subst h
      rw [if_pos List.mem_cons_self]
      by_cases hl : v < e.length
      · rw [if_pos ⟨rfl, hl⟩]
      · rw [if_neg fun q => hl q.2, getS_ge (by omega)]; split <;> rfl
    · rw [if_neg fun q => h q.1]
      by_cases h2 : j ∈ vs
      · rw [if_pos h2, if_pos (List.mem_cons_of_mem _ h2)]
      · rw [if_neg h2, if_neg fun q => (List.mem_cons.mp q).elim (fun z => h z.symm) h2]
theorem restS_length (e e0 : Env) : ∀ vs : List Nat, (restS e e0 vs).length = e.length
  | [] => rfl
  | v :: vs => by rw [restS, setS_length, restS_length e e0 vs]
theorem restS_get (e e0 : Env) (hl : e.length = e0.length) : ∀ (vs : List Nat) (j : Nat), getS (restS e e0 vs) j = if j ∈ vs then getS e0 j else getS e j
  | [], j => by simp [restS]
  | v :: vs, j => by
    rw [restS, getS_setS, restS_length, restS_get e e0 hl vs j]
    by_cases h : v = j
    · subst h
      rw [if_pos List.mem_cons_self]
      by_cases hv : v < e.length
      · rw [if_pos ⟨rfl, hv⟩]
      · rw [if_neg fun q => hv q.2, getS_ge (env := e) (by omega), getS_ge (env := e0) (by omega)]; split <;> rfl
    · rw [if_neg fun q => h q.1]
      by_cases h2 : j ∈ vs
      · rw [if_pos h2, if_pos (List.mem_cons_of_mem _ h2)]
      · rw [if_neg h2, if_neg fun q => (List.mem_cons.mp q).elim (fun z => h z.symm) h2]
theorem wipe_get (σ : L2.St) : ∀ (vs : List Nat) (j : Nat), slAt (wipe σ vs) j = if j ∈ vs then none else slAt σ j
  | [], j => by simp [wipe]
  | v :: vs, j => by
    rw [wipe]
    have ih := wipe_get σ vs j
    by_cases h : v = j
    · subst h
      rw [if_pos List.mem_cons_self]
      unfold slAt
      rw [List.getElem?_set]
      rw [if_pos rfl]
      split <;> rfl
    · have e : slAt ((wipe σ vs).set v none) j = slAt (wipe σ vs) j := by
        unfold slAt
        rw [List.getElem?_set_ne h]
      rw [e, ih]
      by_cases h2 : j ∈ vs
      · rw [if_pos h2, if_pos (List.mem_cons_of_mem _ h2)]
      · rw [if_neg h2, if_neg fun q => (List.mem_cons.mp q).elim (fun z => h z.symm) h2]
theorem Rel.wipe (R : Rel G F H env σ) (vs : List Nat) : Rel G F H (wipeS env vs) (L2.wipe σ vs) := by
  have own : ∀ j, isOwn (getS (wipeS env vs) j) = true → j ∉ vs ∧ isOwn (getS env j) = true := fun j hj => by
    rw [wipeS_get] at hj
    split at hj
    · cases hj
    · exact ⟨by assumption, hj⟩
  refine ⟨by rw [wipeS_length, wipe_length]; exact R.len, fun j => ?_, fun j k a hj hk ej ek => ?_, R.fin⟩
  · rw [wipeS_get]
    split
    · trivial
    · rename_i h
      rw [wipe_get, if_neg h]
      exact R.slot j
  · obtain ⟨h1, h2⟩ := own j hj
    obtain ⟨h3, h4⟩ := own k hk
    rw [wipe_get, if_neg h1] at ej
    rw [wipe_get, if_neg h3] at ek
    exact R.one j k a h2 h4 ej ek
theorem Pst.rest {vs : List Nat} (R : Rel G F H env σ) (P : Pst G F H (wipeS env vs) (L2.wipe σ vs) F' H' e' (L2.wipe σ vs)) : Pst G F H env σ F' H' (restS e' env vs) σ := by
  have hl : e'.length = env.length := by
    have := P.rel.len
    rw [wipe_length] at this
    rw [this, R.len]
  have get := restS_get e' env hl vs
  have ml : ∀ a, Ml (wipeS env vs) (L2.wipe σ vs) a → ∃ k, k ∉ vs ∧ isOwn (getS env k) = true ∧ slAt σ k = some (.ref a) := fun a ⟨k, h1, h2⟩ => by
    rw [wipeS_get] at h1
    split at h1
    · cases h1
    · rename_i h
      rw [wipe_get, if_neg h] at h2
      exact ⟨k, h, h1, h2⟩
  have mo : ∀ a, Mo (wipeS env vs) (L2.wipe σ vs) a → Mo env σ a := fun a ⟨k, d, h1, h2⟩ => by
    rw [wipeS_get] at h1
    split at h1
    · cases h1
    · rename_i h
      rw [wipe_get, if_neg h] at h2
      exact ⟨k, d, h1, h2⟩
  have away : ∀ j, j ∈ vs → isOwn (getS env j) = true → ∀ a, slAt σ j = some (.ref a) → ¬ Ml (wipeS env vs) (L2.wipe σ vs) a := fun j hj ho a ha m => by
    obtain ⟨k, h1, h2, h3⟩ := ml a m
    have := R.one j k a ho h2 ha h3
    subst this
    exact h1 hj
  have notF' : ∀ j, j ∈ vs → isOwn (getS env j) = true → ∀ a, slAt σ j = some (.ref a) → ¬ F a → ¬ F' a := fun j hj ho a ha nF z => by
    rcases P.ext.new a z with z | z | z
    · exact nF z
    · exact away j hj ho a ha z.ml
    · exact R.there ⟨j, ho, ha⟩ z
  refine ⟨P.ext.weak mo, ⟨by rw [restS_length, hl]; exact R.len, fun j => ?_, fun j k a hj hk ej ek => ?_, P.rel.fin⟩, fun a ⟨j, h1, h2⟩ => ?_, fun a ⟨j, d, h1, h2⟩ => ?_, fun j d h => ?_⟩
  · rw [get]
    split
    · rename_i hj
      have q := R.slot j
      have aw := away j hj
      have nf := notF' j hj
      have ap := (R.wipe vs).apart
      cases hs : getS env j with
      | non => trivial
      | fr y =>
        rw [hs] at q
        obtain ⟨u, h4, h5⟩ := q
        exact ⟨u, h4, relF_ext P.ext ap y u h5⟩
      | ow y =>
        rw [hs] at q aw nf
        obtain ⟨u, h4, h6, h5⟩ := q
        exact ⟨u, h4, nf rfl u h4 h6, relO_ext P.ext ap (fun z => aw rfl u h4 z.ml) h5⟩
      | lk y =>
        rw [hs] at q aw nf
        obtain ⟨u, h4, h6, h5⟩ := q
        exact ⟨u, h4, nf rfl u h4 h6, relO_ext P.ext ap (fun z => aw rfl u h4 z.ml) h5⟩
    · rename_i hj
      have q := P.rel.slot j
      rw [wipe_get, if_neg hj] at q
      exact q
  · have mixed : ∀ j k : Nat, j ∈ vs → isOwn (getS env j) = true → slAt σ j = some (.ref a) → k ∉ vs → isOwn (getS e' k) = true → slAt σ k = some (.ref a) → False := fun j k hj ho ej hk hk2 ek => by
      rcases P.mo a ⟨k, hk2, by rw [wipe_get, if_neg hk]; exact ek⟩ with z | z
      · exact away j hj ho a ej z
      · exact R.there ⟨j, ho, ej⟩ z
    rw [get] at hj hk
    split at hj
    · rename_i h1
      split at hk
      · exact R.one j k a hj hk ej ek
      · rename_i h2; exact (mixed j k h1 hj ej h2 hk ek).elim
    · rename_i h1
      split at hk
      · rename_i h2; exact (mixed k j h2 hk ek h1 hj ej).elim
      · rename_i h2
        exact P.rel.one j k a hj hk (by rw [wipe_get, if_neg h1]; exact ej) (by rw [wipe_get, if_neg h2]; exact ek)
  · rw [get] at h1
    split at h1
    · exact .inl ⟨j, h1, h2⟩
    · rename_i hj
      rcases P.mo a ⟨j, h1, by rw [wipe_get, if_neg hj]; exact h2⟩ with z | z
      · obtain ⟨k, _, h3, h4⟩ := ml a z
        exact .inl ⟨k, h3, h4⟩
      · exact .inr z
  · rw [get] at h1
    split at h1
    · exact .inl ⟨j, d, h1, h2⟩
    · rename_i hj
      exact (P.mw a ⟨j, d, h1, by rw [wipe_get, if_neg hj]; exact h2⟩).imp_left (mo a)
  · rw [get] at h
    split at h
    · exact ⟨h, rfl⟩
    · rename_i hj
      obtain ⟨h3, _⟩ := P.lk j d h
      rw [wipeS_get, if_neg hj] at h3
      exact ⟨h3, rfl⟩
end

/-! ### targets -/
mutual
def gT (K : PySem.W.Frag) : T → TG
  | .nm i => gName i
  | .tup ts => gTup K ts.length (gTs K ts)
def gTs (K : PySem.W.Frag) : List T → TGs
  | [] => gNil
  | t :: ts => gCons (gT K t) (gTs K ts)
end
/-- slots but those at vs are as they were -/
def keptS (vs : List Nat) (σ σ' : L2.St) : Prop := σ'.length = σ.length ∧ ∀ j, j ∉ vs → slAt σ' j = slAt σ j
section
variable {G : Gp} {F : Addr → Prop} {H : Hp}
theorem asgTs_len : ∀ {ts : List T} {ds : List D} {e e' : Env}, asgTs ts ds e = some e' → ds.length = ts.length
  | [], [], _, _, _ => rfl
  | [], _ :: _, _, _, h => by simp [asgTs] at h
  | _ :: _, [], _, _, h => by simp [asgTs] at h
  | t :: ts, d :: ds, e, e', h => by
    rw [asgTs] at h
    cases q : asgT t d e with
    | none => rw [q] at h; cases h
    | some e1 => rw [q] at h; rw [List.length_cons, List.length_cons, asgTs_len h]
mutual
theorem gT_ok : ∀ (t : T) (d : D) (v : V) (e e1 : Env) (σ : L2.St) (Q : L2.St → Hp → Prop), asgT t d e = some e1 → Rel G F H e σ → relF G F H d v →
    (∀ σ1, Pst G F H e σ F H e1 σ1 → keptS (tvars t) σ σ1 → Q σ1 H) → gT G.K t v σ H Q
  | .nm i, d, v, e, e1, σ, Q, h, R, r, k => by
    rw [asgT] at h
    cases h
    refine k _ (Pst.setF R r) ⟨by rw [List.length_set], fun j hj => ?_⟩
    rw [slAt_set, if_neg fun q => hj (by simp [tvars, q.1])]
  | .tup ts, d, v, e, e1, σ, Q, h, R, r, k => by
    cases d with
    | tup ds =>
      rw [asgT] at h
      simp only [relF] at r
      obtain ⟨a, xs, rfl, h1, h2⟩ := r
      exact ⟨a, xs, rfl, h1, by rw [relFs_length h2, asgTs_len h], gTs_ok ts ds xs e e1 σ Q h R h2 k⟩
    | _ => simp [asgT] at h
theorem gTs_ok : ∀ (ts : List T) (ds : List D) (xs : List V) (e e1 : Env) (σ : L2.St) (Q : L2.St → Hp → Prop), asgTs ts ds e = some e1 → Rel G F H e σ → relFs G F H ds xs →
    (∀ σ1, Pst G F H e σ F H e1 σ1 → keptS (tvarss ts) σ σ1 → Q σ1 H) → gTs G.K ts xs σ H Q
  | [], [], xs, e, e1, σ, Q, h, R, r, k => by
    simp only [asgTs, Option.some.injEq] at h
    subst h
    simp only [relFs] at r
    exact ⟨r, k σ (.refl R) ⟨rfl, fun _ _ => rfl⟩⟩
  | [], _ :: _, _, _, _, _, _, h, _, _, _ => by simp [asgTs] at h
  | _ :: _, [], _, _, _, _, _, h, _, _, _ => by simp [asgTs] at h
  | t :: ts, d :: ds, xs, e, e1, σ, Q, h, R, r, k => by
    rw [asgTs] at h
    cases q : asgT t d e with
    | none => rw [q] at h; cases h
    | some e2 =>
      rw [q] at h
      simp only [relFs] at r
      obtain ⟨x, xr, rfl, r1, r2⟩ := r
      refine ⟨x, xr, rfl, gT_ok t d x e e2 σ _ q R r1 fun σ1 P1 k1 => gTs_ok ts ds xr e2 e1 σ1 _ h P1.rel r2 fun σ2 P2 k2 => k σ2 (P1.trans P2) ⟨k2.1.trans k1.1, fun j hj => ?_⟩⟩
      have hj : j ∉ tvars t ∧ j ∉ tvarss ts := by simpa [tvarss, not_or] using hj
      rw [k2.2 j hj.2, k1.2 j hj.1]
end
theorem slAt_ext {σ σ' : L2.St} (hl : σ'.length = σ.length) (h : ∀ j, slAt σ' j = slAt σ j) : σ' = σ := by
  refine List.ext_getElem? fun j => ?_
  have := h j
  unfold slAt at this
  by_cases hj : j < σ.length
  · rw [List.getElem?_eq_getElem hj, List.getElem?_eq_getElem (by omega)] at this ⊢
    simpa using this
  · rw [List.getElem?_eq_none (by omega), List.getElem?_eq_none (by omega)]
theorem wipe_kept {vs us : List Nat} {σ σ' : L2.St} (h : keptS us σ σ') (hs : ∀ j ∈ us, j ∈ vs) : L2.wipe σ' vs = L2.wipe σ vs := by
  refine slAt_ext (by rw [wipe_length, wipe_length, h.1]) fun j => ?_
  rw [wipe_get, wipe_get]
  split
  · rfl
  · rename_i hj
    exact h.2 j fun q => hj (hs j q)
theorem wipe_wipe {vs : List Nat} {σ : L2.St} : L2.wipe (L2.wipe σ vs) vs = L2.wipe σ vs := by
  refine slAt_ext (by rw [wipe_length]) fun j => ?_
  rw [wipe_get, wipe_get]
  split <;> rfl
end
end PF
set_option Elab.async false
set_option linter.all false
set_option maxRecDepth 100000
set_option maxHeartbeats 1000000
/-! PF4g: comprehensions; more of what is walked. -/
namespace PF
open PySem PySem.Spec PyProof.Rows L2

abbrev W0 : WX := fun _ _ _ _ => False
section
variable {G : Gp} {F F' F1 : Addr → Prop} {H H' H1 : Hp} {env e1 e2 e' : Env} {σ σ' : L2.St}
theorem env_ext : ∀ {a b : Env}, a.length = b.length → (∀ j, getS a j = getS b j) → a = b
  | [], [], _, _ => rfl
  | [], _ :: _, h, _ => by simp at h
  | _ :: _, [], h, _ => by simp at h
  | x :: a, y :: b, h, k => by
    have h0 : x = y := k 0
    rw [h0, env_ext (a := a) (b := b) (by simpa using h) fun j => k (j + 1)]
theorem restS_wipeS {e E : Env} {vs : List Nat} (h : e.length = E.length) : restS (wipeS e vs) E vs = restS e E vs := by
  refine env_ext (by rw [restS_length, restS_length, wipeS_length]) fun j => ?_
  rw [restS_get _ _ (by rw [wipeS_length]; exact h), restS_get _ _ h, wipeS_get]
  split
  · rfl
  · rfl
/-- names of the block are forgotten -/
theorem Pst.wiped {F0 : Addr → Prop} {H0 : Hp} {e0 : Env} {σ0 : L2.St} (p : Pst G F0 H0 e0 σ0 F H env σ) (vs : List Nat) : Pst G F0 H0 e0 σ0 F H (wipeS env vs) (L2.wipe σ vs) := by
  have own : ∀ j, isOwn (getS (wipeS env vs) j) = true → j ∉ vs ∧ getS (wipeS env vs) j = getS env j := fun j hj => by
    rw [wipeS_get] at hj ⊢
    split at hj
    · cases hj
    · rename_i h; rw [if_neg h]; exact ⟨h, rfl⟩
  refine ⟨p.ext, p.rel.wipe vs, fun a ⟨j, h1, h2⟩ => ?_, fun a ⟨j, d, h1, h2⟩ => ?_, fun j d h => ?_⟩
  · obtain ⟨h3, h4⟩ := own j h1
    rw [h4] at h1
    rw [wipe_get, if_neg h3] at h2
    exact p.mo a ⟨j, h1, h2⟩
  · obtain ⟨h3, h4⟩ := own j (by rw [h1]; rfl)
    rw [h4] at h1
    rw [wipe_get, if_neg h3] at h2
    exact p.mw a ⟨j, d, h1, h2⟩
  · obtain ⟨h3, h4⟩ := own j (by rw [h]; rfl)
    rw [h4] at h
    rw [wipe_get, if_neg h3]
    exact p.lk j d h
theorem Mo_wipe {vs : List Nat} {a : Addr} (h : Mo (wipeS env vs) (L2.wipe σ vs) a) : Mo env σ a := by
  obtain ⟨j, d, h1, h2⟩ := h
  rw [wipeS_get] at h1
  split at h1
  · cases h1
  · rename_i hj
    rw [wipe_get, if_neg hj] at h2
    exact ⟨j, d, h1, h2⟩
end

/-! ### tests of a clause -/
section
variable {G : Gp} {Φ : Str → List Sl → FR} {γ : Str → Option D} {W : WX} {X : Cx}
def rdTs (G : Gp) (Φ : Str → List Sl → FR) (γ : Str → Option D) (W : WX) (ms : List E) : TT := fun σ H Q => ∃ F env, Rel G F H env σ ∧ kT G W F H env σ Q (evTs Φ γ ms env)
theorem PTs.imp {es : List Expr} {t t' : TT} (h : PTs X es t) (i : ∀ σ H Q, t' σ H Q → t σ H Q) : PTs X es t' := ⟨fun pins s σ H Q I q => h.run pins s σ H Q I (i σ H Q q)⟩
theorem ts_nil : PTs X [] (rdTs G Φ γ W []) := PTs.imp pts_nil fun σ H Q ⟨F, env, R, k⟩ => by
  rw [evTs] at k
  exact k F H (.refl R)
theorem ts_one {c : Expr} {m : E} (h : PT X c (rdT G Φ γ W m)) : PTs X [c] (rdTs G Φ γ W [m]) := PTs.imp (pts_one h) fun σ H Q ⟨F, env, R, k⟩ => ⟨F, env, R, by
  simp only [evTs] at k; exact k⟩

/-! ### list comprehensions -/
/-- a turn's end: the list grown -/
theorem lc_loop {F1 : Addr → Prop} {H1 : Hp} {σ : L2.St} {vs : List Nat} {t : T} {mi : List E} {me : E} {ds : List D} {ls : List Nat} {J : L2.It} {D' : Addr} {env1 : Env} {rl : RL} {Qd : Hp → Prop}
    (R1 : Rel G F1 H1 env1 σ) (hJ : ItOk G F1 H1 env1 σ ds ls J) (hD : H1 D' = none) (hv : ∀ j ∈ tvars t, j ∈ vs) (hrl : lcGo (asgW vs t) (evTs Φ γ mi) (ev Φ γ me) ds (lockAll ls env1) [] = rl) (hne : rl ≠ .st)
    (fin : ∀ F e acc axs H, rl = .ok acc e → Pst G F1 H1 (wipeS (lockAll ls env1) vs) (L2.wipe σ vs) F H (wipeS e vs) (L2.wipe σ vs) → H D' = some (.lst axs) → relFs G F H acc axs → ¬ F D' → ¬ Ml (wipeS e vs) (L2.wipe σ vs) D' → Qd H) :
    ∃ W : Nat → Nat → Hp → Prop, (∃ m, W 0 m (upd H1 D' (.lst []))) ∧ ∀ i m H, W i m H →
      (J.stop i H ∧ Qd H) ∨ (J.go i H ∧ ∃ Nx : Hp → Prop, (∀ H', Nx H' → ∃ m', m' < m ∧ W (i + 1) m' H') ∧ ∀ x H', J.yld i H x H' → gT G.K t x (L2.wipe σ vs) H' fun σ2 H2 => L2.wipe σ2 vs = L2.wipe σ vs ∧ rdTs G Φ γ W0 mi σ2 H2 fun b H3 =>
        if b = true then rdE G Φ γ W0 me σ2 H3 fun y H4 => ∃ acc, H4 D' = some (.lst acc) ∧ acc.length < sizeLine ∧ Nx (upd H4 D' (.lst (acc ++ [y]))) else Nx H3) := by
  have Rs := (R1.lock ls).wipe vs
  refine ⟨fun i m H => ∃ F e acc axs, m = ds.length - i ∧ i ≤ ds.length ∧ Pst G F1 H1 (wipeS (lockAll ls env1) vs) (L2.wipe σ vs) F H (wipeS e vs) (L2.wipe σ vs) ∧ H D' = some (.lst axs) ∧ relFs G F H acc axs ∧ ¬ F D' ∧ ¬ Ml (wipeS e vs) (L2.wipe σ vs) D' ∧ e.length = env1.length ∧
    lcGo (asgW vs t) (evTs Φ γ mi) (ev Φ γ me) (ds.drop i) e acc = rl, ⟨ds.length, F1, lockAll ls env1, [], [], by simp, Nat.zero_le _, Pst.grow Rs (grow_new hD), upd_same, by simp [relFs], fun z => R1.fin _ z hD, fun z => Rs.there z hD, lockAll_length _ _, by simpa using hrl⟩, ?_⟩
  rintro i m H ⟨F, e, acc, axs, rfl, hi, P, hH, hr, nF, nM, hlen, hgo⟩
  have E0 : Ext (Mo (lockAll ls env1) σ) F1 H1 F H := P.ext.weak fun a => Mo_wipe
  by_cases hlt : i < ds.length
  · have hd : ds[i]? = some ds[i] := List.getElem?_eq_getElem hlt
    obtain ⟨hgoJ, hyld⟩ := (hJ F H E0 i).2 _ hd
    refine .inr ⟨hgoJ, fun H' => ∃ F e acc axs, i + 1 ≤ ds.length ∧ Pst G F1 H1 (wipeS (lockAll ls env1) vs) (L2.wipe σ vs) F H' (wipeS e vs) (L2.wipe σ vs) ∧ H' D' = some (.lst axs) ∧ relFs G F H' acc axs ∧ ¬ F D' ∧ ¬ Ml (wipeS e vs) (L2.wipe σ vs) D' ∧ e.length = env1.length ∧
      lcGo (asgW vs t) (evTs Φ γ mi) (ev Φ γ me) (ds.drop (i + 1)) e acc = rl, fun H' ⟨F, e, acc, axs, h1, h2⟩ => ⟨ds.length - (i + 1), by omega, F, e, acc, axs, rfl, h1, h2⟩, fun x H' hy => ?_⟩
    obtain ⟨g1, rx⟩ := hyld x H' hy
    rw [List.drop_eq_getElem_cons hlt, lcGo] at hgo
    cases ha : asgW vs t ds[i] e with
    | none => rw [ha] at hgo; simp only [onL] at hgo; exact absurd hgo.symm hne
    | some ea =>
      rw [ha] at hgo
      simp only [onL] at hgo
      have P1 := P.trans (Pst.grow P.rel g1)
      have hD1 : H' D' = some (.lst axs) := g1 _ _ hH
      have hr1 := relFs_grow g1 hr
      refine gT_ok t _ x _ ea _ _ ha P1.rel rx fun σ2 P2 k2 => ?_
      have hw : L2.wipe σ2 vs = L2.wipe σ vs := (wipe_kept k2 hv).trans wipe_wipe
      refine ⟨hw, F, ea, P2.rel, ?_⟩
      have nM2 : ¬ Ml ea σ2 D' := fun z => (P2.mo _ z).elim nM fun q => by rw [hD1] at q; cases q
      have P12 := P1.trans P2
      cases ht : evTs Φ γ mi ea with
      | st => rw [ht] at hgo; exact absurd hgo.symm hne
      | ex x e2 => rw [ht] at hgo; exact absurd hgo.symm hne
      | ok b e2 =>
        rw [ht] at hgo
        simp only [RT.bdL] at hgo
        intro F3 H3 P3
        have keepD : ∀ {F3 : Addr → Prop} {H2 H3 : Hp} {F2 : Addr → Prop} {e2 e3 : Env} {ys : List V}, Pst G F2 H2 e2 σ2 F3 H3 e3 σ2 → H2 D' = some (.lst ys) → ¬ F2 D' → ¬ Ml e2 σ2 D' → H3 D' = some (.lst ys) ∧ ¬ F3 D' ∧ ¬ Ml e3 σ2 D' := fun p h1 h2 h3 =>
          ⟨p.ext.frm _ _ h1 fun z => h3 z.ml, fun z => (p.ext.new _ z).elim h2 fun q => q.elim (fun z => h3 z.ml) (fun z => by rw [h1] at z; cases z),
            fun z => (p.mo _ z).elim h3 fun q => by rw [h1] at q; cases q⟩
        obtain ⟨hD3, nF3, nM3⟩ := keepD P3 hD1 nF nM2
        have hr3 : relFs G F3 H3 acc axs := relFs_ext P3.ext P2.rel.apart _ _ hr1
        have len2 : e2.length = env1.length := by
          have h1 := P3.rel.len
          have h2 := k2.1
          have h3 := P.rel.len
          rw [wipeS_length] at h3
          omega
        have toW : ∀ {F4 : Addr → Prop} {H4 : Hp} {e4 : Env}, Pst G F1 H1 (wipeS (lockAll ls env1) vs) (L2.wipe σ vs) F4 H4 e4 σ2 → Pst G F1 H1 (wipeS (lockAll ls env1) vs) (L2.wipe σ vs) F4 H4 (wipeS e4 vs) (L2.wipe σ vs) := fun p => by
          have := p.wiped vs
          rw [hw] at this
          exact this
        have nMw : ∀ {e4 : Env}, ¬ Ml e4 σ2 D' → ¬ Ml (wipeS e4 vs) (L2.wipe σ vs) D' := fun n z => by
          rw [← hw] at z
          obtain ⟨j, h1, h2⟩ := z
          rw [wipeS_get] at h1
          split at h1
          · cases h1
          · rename_i hj
            rw [wipe_get, if_neg hj] at h2
            exact n ⟨j, h1, h2⟩
        cases b with
        | false =>
          rw [if_neg Bool.false_ne_true] at hgo ⊢
          exact ⟨F3, e2, acc, axs, hlt, toW (P12.trans P3), hD3, hr3, nF3, nMw nM3, len2, hgo⟩
        | true =>
          rw [if_pos rfl] at hgo ⊢
          refine ⟨F3, e2, P3.rel, ?_⟩
          cases he : ev Φ γ me e2 with
          | st => rw [he] at hgo; exact absurd hgo.symm hne
          | ex x e3 => rw [he] at hgo; exact absurd hgo.symm hne
          | ok f y e3 =>
            rw [he] at hgo
            simp only [RE.bdL] at hgo
            intro F4 H4 v P4 v4 n4
            obtain ⟨hD4, nF4, nM4⟩ := keepD P4 hD3 nF3 nM3
            have hr4 : relFs G F4 H4 acc axs := relFs_ext P4.ext P3.rel.apart _ _ hr3
            have lacc := relFs_length hr4
            have P1234 := (P12.trans P3).trans P4
            have hD0 : H1 D' = none := hD
            -- the value, shared
            have sh : f ≠ .fr → f ≠ .ow → False := fun h1 h2 => by
              cases f with
              | fr => exact h1 rfl
              | ow => exact h2 rfl
              | pl j => simp only [keepL] at hgo; exact hne hgo.symm
            have main : ∃ F5, Pst G F1 H1 (wipeS (lockAll ls env1) vs) (L2.wipe σ vs) F5 H4 e3 σ2 ∧ ¬ F5 D' ∧ relF G F5 H4 y v ∧ relFs G F5 H4 acc axs ∧ (if acc.length < sizeLine then lcGo (asgW vs t) (evTs Φ γ mi) (ev Φ γ me) (ds.drop (i + 1)) e3 (acc ++ [y]) else .st) = rl := by
              cases f with
              | fr => exact ⟨F4, P1234, nF4, v4, hr4, hgo⟩
              | ow =>
                obtain ⟨a, ea, k1, k2, k3⟩ := v4
                have hn : H3 a = none := n4 rfl a ea
                have aD : D' ≠ a := fun z => by rw [← z, hD3] at hn; cases hn
                refine ⟨fun b => F4 b ∨ b = a, P1234.freeze fun b hb => ?_, fun z => z.elim nF4 aD, by rw [ea]; exact relF_of_relO (relO_sub (fun _ z => .inl z) k3) (.inr rfl), relFs_sub (fun _ z => .inl z) _ _ hr4, hgo⟩
                rw [hb]
                obtain ⟨⟨o, ho⟩, _⟩ := relO_there k3
                exact ⟨k2, by rw [ho]; exact (fun z => nomatch z), .inr ((P12.trans P3).ext.alive a hn)⟩
              | pl j => exact (sh (fun z => nomatch z) (fun z => nomatch z)).elim
            obtain ⟨F5, P5, nF5, ry, hr5, hgo5⟩ := main
            split at hgo5
            · rename_i hz
              refine ⟨axs, hD4, by rw [lacc]; exact hz, ?_⟩
              obtain ⟨P6, up⟩ := Pst.scratch (o' := .lst (axs ++ [v])) P5 hD nF5 nM4 hD4 (fun xs z => nomatch z) (fun u w z => nomatch z)
              have len3 : e3.length = env1.length := by
                have h1 := P4.rel.len
                have h2 := P3.rel.len
                omega
              exact ⟨F5, e3, acc ++ [y], axs ++ [v], hlt, toW P6, upd_same, up _ _ (relFs_append hr5 (by simp only [relFs]; exact ⟨v, [], rfl, ry, rfl⟩)), nF5, nMw nM4, len3, hgo5⟩
            · exact absurd hgo5.symm hne
  · have hie : i = ds.length := by omega
    subst hie
    refine .inl ⟨(hJ F H E0 ds.length).1 (Nat.le_refl _), ?_⟩
    rw [List.drop_length, lcGo] at hgo
    exact fin F e acc axs H hgo.symm P hH hr nF nM
theorem lc_rd {it : It} {t : T} {mi : List E} {me : E} {vs : List Nat} (hv : ∀ j ∈ tvars t, j ∈ vs) {σ : L2.St} {H : Hp} {Q : VK} (h : rdE G Φ γ W (.lc vs t it mi me) σ H Q) : tLc (rdI G Φ γ W it) (gT G.K t) (rdTs G Φ γ W0 mi) (rdE G Φ γ W0 me) vs σ H Q := by
  obtain ⟨F, env, R, k⟩ := h
  refine ⟨F, env, R, ?_⟩
  rw [ev] at k
  cases hi : evI Φ γ it env with
  | st => rw [hi] at k; exact k
  | ex x e1 => rw [hi] at k; exact k
  | ok ds ls e1 =>
    rw [hi] at k
    simp only [RI.bd] at k
    intro F1 H1 J p1 hJ D' hD
    generalize hrl : lcGo (asgW vs t) (evTs Φ γ mi) (ev Φ γ me) ds (lockAll ls e1) [] = rl at k
    have hne : rl ≠ .st := fun z => by rw [z] at k; exact k
    refine lc_loop p1.rel hJ hD hv hrl hne fun F2 e acc axs H2 hok P hH hr nF nM => ?_
    rw [hok] at k
    simp only [RL.bd] at k
    have hl : e.length = (lockAll ls e1).length := by
      have h1 := P.rel.len
      rw [wipeS_length, wipe_length] at h1
      rw [h1, lockAll_length, p1.rel.len]
    have P2 := Pst.rest (p1.rel.lock ls) P
    rw [restS_wipeS hl] at P2
    have P3 := Pst.unlock p1.rel P2
    refine k F2 H2 _ (p1.trans P3) ⟨D', rfl, nF, fun z => ?_, axs, hH, hr⟩ fun _ a ea => by cases ea; exact p1.ext.alive D' hD
    obtain ⟨j, h1, h2⟩ := z
    rw [isOwn_unlock, restS_get _ _ hl] at h1
    split at h1
    · rw [isOwn_lock] at h1
      exact p1.rel.there ⟨j, h1, h2⟩ hD
    · rename_i hj
      refine nM ⟨j, ?_, ?_⟩
      · rw [wipeS_get, if_neg hj]; exact h1
      · rw [wipe_get, if_neg hj]; exact h2
end
end PF
set_option Elab.async false
set_option linter.all false
set_option maxRecDepth 100000
set_option maxHeartbeats 1000000
/-! PF5: statements. -/
namespace PF
open PySem PySem.Spec PyProof.Rows L2

section
variable (G : Gp) (refs : List Nat) (W : WX) (F : Addr → Prop) (H : Hp) (env : Env) (σ : L2.St)
/-- the state behind, the lent slots as they were -/
def PstR (F : Addr → Prop) (H : Hp) (env : Env) (σ : L2.St) (F' : Addr → Prop) (H' : Hp) (env' : Env) (σ' : L2.St) : Prop := Pst G F H env σ F' H' env' σ' ∧ ∀ j ∈ refs, slAt σ' j = slAt σ j
/-- a value that is returned -/
def retOk (F : Addr → Prop) (H : Hp) (env : Env) (σ : L2.St) (F' : Addr → Prop) (H' : Hp) (e' : Env) (σ' : L2.St) (o : Bool) (d : D) (v : V) : Prop :=
  if o = true then ∃ a, v = .ref a ∧ ¬ F' a ∧ ¬ Ml e' σ' a ∧ relO G F' H' d a ∧ (Mo env σ a ∨ H a = none) else relF G F' H' d v
def kS (D : Ends) : RS → Prop
  | .nx e' => ∀ F' H' σ', PstR G refs F H env σ F' H' e' σ' → D.nx σ' H'
  | .bk e' => ∀ F' H' σ', PstR G refs F H env σ F' H' e' σ' → D.bk σ' H'
  | .ct e' => ∀ F' H' σ', PstR G refs F H env σ F' H' e' σ' → D.ct σ' H'
  | .rt o d e' => ∀ F' H' σ' v, PstR G refs F H env σ F' H' e' σ' → retOk G F H env σ F' H' e' σ' o d v → D.rt v H'
  | .ex x e' => ∀ F' H' σ' cls dd, PstR G refs F H env σ F' H' e' σ' → exOk G F' H' x cls dd → W cls dd σ' H'
  | .st => False
end
section
variable (G : Gp) (Φ : Str → List Sl → FR) (γ : Str → Option D) (refs : List Nat) (W : WX)
def rdS (m : S) : TS := fun D σ H => ∃ F env, Rel G F H env σ ∧ kS G refs W F H env σ D (exec Φ γ m env)
def rdSs (ms : List S) : TS := fun D σ H => ∃ F env, Rel G F H env σ ∧ kS G refs W F H env σ D (execs Φ γ ms env)
end
section
variable {G : Gp} {refs : List Nat} {W : WX} {F F1 F' : Addr → Prop} {H H1 H' : Hp} {env e1 e2 : Env} {σ σ1 σ' : L2.St}
theorem PstR.refl (R : Rel G F H env σ) : PstR G refs F H env σ F H env σ := ⟨.refl R, fun _ _ => rfl⟩
theorem PstR.of (p : Pst G F H env σ F1 H1 e1 σ) : PstR G refs F H env σ F1 H1 e1 σ := ⟨p, fun _ _ => rfl⟩
theorem PstR.trans {F2 : Addr → Prop} {H2 : Hp} {e2 : Env} {σ2 : L2.St} (a : PstR G refs F H env σ F1 H1 e1 σ1) (b : PstR G refs F1 H1 e1 σ1 F2 H2 e2 σ2) : PstR G refs F H env σ F2 H2 e2 σ2 := ⟨a.1.trans b.1, fun j hj => (b.2 j hj).trans (a.2 j hj)⟩
theorem retOk.back {e' : Env} {o : Bool} {d : D} {v : V} (p : Pst G F H env σ F1 H1 e1 σ1) (h : retOk G F1 H1 e1 σ1 F' H' e' σ' o d v) : retOk G F H env σ F' H' e' σ' o d v := by
  unfold retOk at h ⊢
  split
  · rename_i ho
    rw [if_pos ho] at h
    obtain ⟨a, h1, h2, h3, h4, h5⟩ := h
    refine ⟨a, h1, h2, h3, h4, h5.elim (fun z => p.mw a z) fun z => .inr (p.ext.alive a z)⟩
  · rename_i ho
    rw [if_neg ho] at h
    exact h
theorem kS.back {D : Ends} (p : PstR G refs F H env σ F1 H1 e1 σ1) : ∀ {r : RS}, kS G refs W F H env σ D r → kS G refs W F1 H1 e1 σ1 D r
  | .nx _, h => fun F' H' σ' q => h F' H' σ' (p.trans q)
  | .bk _, h => fun F' H' σ' q => h F' H' σ' (p.trans q)
  | .ct _, h => fun F' H' σ' q => h F' H' σ' (p.trans q)
  | .rt _ _ _, h => fun F' H' σ' v q r => h F' H' σ' v (p.trans q) (r.back p.1)
  | .ex _ _, h => fun F' H' σ' cls dd q x => h F' H' σ' cls dd (p.trans q) x
  | .st, h => h
/-- an expression, then the rest -/
theorem kE_bdS {D : Ends} {r : RE} {kk : Fl → PF.D → Env → RS} {Q1 : VK} (k : kS G refs W F H env σ D (r.bdS kk))
    (i : ∀ f d e1, r = .ok f d e1 → ∀ F1 H1 v, Pst G F H env σ F1 H1 e1 σ → vOk G F1 H1 e1 σ f d v → vNew H f v → kS G refs W F1 H1 e1 σ D (kk f d e1) → Q1 v H1) : kE G W F H env σ Q1 r := by
  cases r with
  | ok f d e1 => exact fun F1 H1 v p vo n => i f d e1 rfl F1 H1 v p vo n (kS.back (.of p) k)
  | ex x e1 => exact fun F' H' cls dd p x => k F' H' σ cls dd (.of p) x
  | st => exact k
end
section
variable {G : Gp} {Φ : Str → List Sl → FR} {γ : Str → Option D} {refs : List Nat} {W : WX} {X : Cx} {st : Stmt} {rest : List Stmt} {s : S} {ss : List S} {e : Expr} {m : E} {pos : Pos} {σ : L2.St} {H : Hp} {Dn : Ends}
theorem s_nil : PSs X [] (rdSs G Φ γ refs W []) := PSs.imp pss_nil fun D σ H ⟨F, env, R, k⟩ => by
  rw [execs] at k
  exact k F H σ (.refl R)
theorem s_cons (h1 : PS X st (rdS G Φ γ refs W s)) (h2 : PSs X rest (rdSs G Φ γ refs W ss)) : PSs X (st :: rest) (rdSs G Φ γ refs W (s :: ss)) := PSs.imp (pss_cons h1 h2) fun D σ H ⟨F, env, R, k⟩ => by
  rw [execs] at k
  refine ⟨F, env, R, ?_⟩
  cases h : exec Φ γ s env with
  | nx e1 => rw [h] at k; exact fun F' H' σ' p => ⟨F', e1, p.1.rel, kS.back p k⟩
  | rt o d e1 => rw [h] at k; exact k
  | bk e1 => rw [h] at k; exact k
  | ct e1 => rw [h] at k; exact k
  | ex x e1 => rw [h] at k; exact k
  | st => rw [h] at k; exact k
/-- a word about ownership: no statement of the program -/
theorem s_frz {i : Nat} (h : PSs X rest (rdSs G Φ γ refs W ss)) : PSs X rest (rdSs G Φ γ refs W (.frz i :: ss)) := PSs.imp h fun D σ H ⟨F, env, R, k⟩ => by
  rw [execs, exec] at k
  cases hs : getS env i with
  | fr d => rw [hs] at k; exact ⟨F, env, R, k⟩
  | ow d =>
    rw [hs] at k
    obtain ⟨a, h1, p, r⟩ := Pst.frz R hs
    exact ⟨_, _, p.rel, kS.back (.of p) k⟩
  | non => rw [hs] at k; exact k.elim
  | lk d => rw [hs] at k; exact k.elim
theorem s_pass : PS X (.Pass pos) (rdS G Φ γ refs W .pas) := PS.imp ps_pass fun D σ H ⟨F, env, R, k⟩ => by
  rw [exec] at k; exact k F H σ (.refl R)
theorem s_break : PS X (.Break pos) (rdS G Φ γ refs W .brk) := PS.imp ps_break fun D σ H ⟨F, env, R, k⟩ => by
  rw [exec] at k; exact k F H σ (.refl R)
theorem s_continue : PS X (.Continue pos) (rdS G Φ γ refs W .cnt) := PS.imp ps_continue fun D σ H ⟨F, env, R, k⟩ => by
  rw [exec] at k; exact k F H σ (.refl R)
theorem s_if {c : Expr} {a b : List Stmt} {mc : E} {sa sb : List S} (hc : PT X c (rdT G Φ γ W mc)) (ha : PSs X a (rdSs G Φ γ refs W sa)) (hb : PSs X b (rdSs G Φ γ refs W sb)) : PS X (.If c a b pos) (rdS G Φ γ refs W (.iff mc sa sb)) := PS.imp (ps_if hc ha hb) fun D σ H ⟨F, env, R, k⟩ => by
  rw [exec] at k
  refine ⟨F, env, R, ?_⟩
  cases h : evT Φ γ mc env with
  | st => rw [h] at k; exact k
  | ex x e1 => rw [h] at k; exact fun F' H' cls dd p x => k F' H' σ cls dd (.of p) x
  | ok t e1 =>
    rw [h] at k
    intro F1 H1 p1
    cases t with
    | true => rw [if_pos rfl]; exact ⟨F1, e1, p1.rel, kS.back (.of p1) k⟩
    | false => rw [if_neg Bool.false_ne_true]; exact ⟨F1, e1, p1.rel, kS.back (.of p1) k⟩
theorem asg_rd {i : Nat} (hr : i ∉ refs) (h : rdS G Φ γ refs W (.asg i m) Dn σ H) : rdE G Φ γ W m σ H fun x H1 => Dn.nx (σ.set i (some x)) H1 := by
  obtain ⟨F, env, R, k⟩ := h
  rw [exec] at k
  have hk : ∀ (v : V) j, j ∈ refs → slAt (σ.set i (some v)) j = slAt σ j := fun v j hj => by
    rw [slAt_set, if_neg fun q => hr (by rw [q.1]; exact hj)]
  refine ⟨F, env, R, ?_⟩
  cases hm : ev Φ γ m env with
  | st => rw [hm] at k; exact k
  | ex x e1 => rw [hm] at k; exact fun F' H' cls dd p x => k F' H' σ cls dd (.of p) x
  | ok f d e1 =>
    rw [hm] at k
    intro F1 H1 v p1 v1 n1
    cases f with
    | fr => exact k F1 H1 _ ⟨p1.trans (Pst.setF p1.rel v1), hk v⟩
    | ow =>
      obtain ⟨a, rfl, h1, h2, h3⟩ := v1
      exact k F1 H1 _ ⟨Pst.setO p1 h1 h2 h3 (n1 rfl a rfl), hk _⟩
    | pl j => exact k.elim
theorem s_asg {i : Nat} {x : Str} {pos' : Pos} (hr : i ∉ refs) (hN : X.N.Nodup) (hi : X.N[i]? = some x) (hx : Loc X.env.scope x) (he : PE X e (rdE G Φ γ W m)) (hs : swapsWith e (some (.Name x pos')) pos.line X.env = pure false) (hf : X.fn x = true ∨ X.env.scope.names.lookup x = some .local) :
    PS X (.Assign [.Name x pos'] e pos) (rdS G Φ γ refs W (.asg i m)) := PS.imp (ps_set hN hi hx he hs hf) fun D σ H h => asg_rd hr h
theorem s_asgT {t : T} {tg : Expr} (hr : ∀ j ∈ tvars t, j ∉ refs) (hK : X.K = G.K) (he : PE X e (rdE G Φ γ W m)) (hg : PG X tg (gT G.K t)) (hs : swapsWithSole [tg] e pos.line X.env = pure false) (hw : swappedStores [tg] e X.env = pure none) (h1 : (assignEach [tg] X.env).map (·.2) = [assign tg X.env]) :
    PS X (.Assign [tg] e pos) (rdS G Φ γ refs W (.asgT t m)) := PS.imp (ps_asg he hg hs hw h1) fun D σ H ⟨F, env, R, k⟩ => by
  rw [exec] at k
  refine ⟨F, env, R, kE_bdS k fun f d e1 hm0 F1 H1 v p1 v1 n1 k1 => ?_⟩
  have hk : ∀ σ1, keptS (tvars t) σ σ1 → ∀ j ∈ refs, slAt σ1 j = slAt σ j := fun σ1 q j hj => q.2 j fun z => hr j z hj
  have main : ∀ F2, Pst G F1 H1 e1 σ F2 H1 e1 σ → relF G F2 H1 d v → kS G refs W F1 H1 e1 σ D (onS (asgT t d e1) fun e2 => .nx e2) → gT G.K t v σ H1 D.nx := fun F2 p2 rv k2 => by
    cases ha : asgT t d e1 with
    | none => rw [ha] at k2; exact k2.elim
    | some e2 =>
      rw [ha] at k2
      exact gT_ok t d v e1 e2 σ D.nx ha p2.rel rv fun σ1 P1 kk => k2 F2 H1 σ1 ⟨p2.trans P1, hk σ1 kk⟩
  cases f with
  | fr => exact main F1 (.refl p1.rel) v1 k1
  | ow =>
    obtain ⟨a, rfl, h2, h3, h4⟩ := v1
    have hn := n1 rfl a rfl
    obtain ⟨⟨o, ho⟩, _⟩ := relO_there h4
    -- a new list is no tuple
    cases t with
    | nm i =>
      have k1 : kS G refs W F1 H1 e1 σ D (.nx (setS e1 i (.fr d))) := k1
      have pz : Pst G F H env σ (fun b => F1 b ∨ b = a) H1 e1 σ := p1.freeze fun b hb => by rw [hb]; exact ⟨h3, by rw [ho]; exact (fun z => nomatch z), .inr hn⟩
      have k : kS G refs W F H env σ D (.nx (setS e1 i (.fr d))) := by
        have := k
        rw [hm0] at this
        exact this
      exact k _ H1 _ ⟨pz.trans (Pst.setF pz.rel (relF_of_relO (relO_sub (fun _ z => .inl z) h4) (.inr rfl))), fun j hj => by
        rw [slAt_set, if_neg fun q => hr j (by simp [tvars, q.1]) hj]⟩
    | tup ts =>
      cases d with
      | tup ds => exact h4.elim
      | lst ds => exact k1.elim
      | dct _ _ => exact k1.elim
      | _ => exact h4.elim
  | pl j => exact k1.elim
theorem s_ex (he : PE X e (rdE G Φ γ W m)) (hs : swapsWith e none pos.line X.env = pure false) : PS X (.Expr e pos) (rdS G Φ γ refs W (.ex m)) := PS.imp (ps_expr he hs) fun D σ H ⟨F, env, R, k⟩ => by
  rw [exec] at k
  exact ⟨F, env, R, kE_bdS k fun f d e1 _ F1 H1 v p1 v1 n1 k1 => k1 F1 H1 σ (.refl p1.rel)⟩
theorem s_ret (he : PE X e (rdE G Φ γ W m)) : PS X (.Return (some e) pos) (rdS G Φ γ refs W (.ret m)) := PS.imp (ps_ret he) fun D σ H ⟨F, env, R, k⟩ => by
  rw [exec] at k
  refine ⟨F, env, R, ?_⟩
  cases hm : ev Φ γ m env with
  | st => rw [hm] at k; exact k
  | ex x e1 => rw [hm] at k; exact fun F' H' cls dd p x => k F' H' σ cls dd (.of p) x
  | ok f d e1 =>
    rw [hm] at k
    intro F1 H1 v p1 v1 n1
    cases f with
    | fr => exact k F1 H1 σ v (.of p1) (by unfold retOk; rw [if_neg Bool.false_ne_true]; exact v1)
    | ow =>
      obtain ⟨a, rfl, h1, h2, h3⟩ := v1
      exact k F1 H1 σ _ (.of p1) (by unfold retOk; rw [if_pos rfl]; exact ⟨a, rfl, h1, h2, h3, .inr (n1 rfl a rfl)⟩)
    | pl j => exact k.elim
/-- a slot is given up -/
theorem Pst.drop {F : Addr → Prop} {env : Env} {i : Nat} (R : Rel G F H env σ) : Pst G F H env σ F H (setS env i .non) σ := by
  have own : ∀ j, isOwn (getS (setS env i .non) j) = true → getS (setS env i .non) j = getS env j := fun j hj => by
    rw [getS_setS] at hj ⊢
    split at hj
    · cases hj
    · rename_i z; rw [if_neg z]
  refine ⟨.refl, ⟨by rw [setS_length]; exact R.len, fun j => ?_, fun j k a hj hk => R.one j k a (by rw [← own j hj]; exact hj) (by rw [← own k hk]; exact hk), R.fin⟩, fun a ⟨j, h1, h2⟩ => .inl ⟨j, by rw [← own j h1]; exact h1, h2⟩, fun a ⟨j, d, h1, h2⟩ => .inl ⟨j, d, by rw [← own j (by rw [h1]; rfl)]; exact h1, h2⟩, fun j d h => ⟨by rw [← own j (by rw [h]; rfl)]; exact h, rfl⟩⟩
  rw [getS_setS]
  split
  · trivial
  · exact R.slot j
theorem s_retV {i : Nat} {x : Str} {p : Pos} (hN : X.N[i]? = some x) (hv : Vis X.env.scope x) (hd : (x == ("__debug__" : Str)) = false) (hcd : (x == ("__classdict__" : Str)) = false) : PS X (.Return (some (.Name x p)) pos) (rdS G Φ γ refs W (.retV i)) := PS.imp (ps_ret (pe_var hN hv hd hcd)) fun D σ H ⟨F, env, R, k⟩ => by
  rw [exec] at k
  have q := R.slot i
  cases hs : getS env i with
  | non => rw [hs] at k; exact k.elim
  | lk d => rw [hs] at k; exact k.elim
  | fr d =>
    rw [hs] at k q
    obtain ⟨v, h1, h2⟩ := q
    exact ⟨v, slAt_some h1, k F H σ v (.refl R) (by unfold retOk; rw [if_neg Bool.false_ne_true]; exact h2)⟩
  | ow d =>
    rw [hs] at k q
    obtain ⟨a, h1, h2, h3⟩ := q
    refine ⟨_, slAt_some h1, k F H σ _ (.of (Pst.drop R)) ?_⟩
    unfold retOk
    rw [if_pos rfl]
    refine ⟨a, rfl, h2, fun ⟨j, h4, h5⟩ => ?_, h3, .inl ⟨i, d, hs, h1⟩⟩
    rw [getS_setS] at h4
    split at h4
    · cases h4
    · rename_i z
      have hi : i < env.length := getS_lt (by rw [hs]; exact fun z => nomatch z)
      have := R.one i j a (by rw [hs]; rfl) h4 h1 h5
      exact z ⟨this, hi⟩
theorem s_retN : PS X (.Return none pos) (rdS G Φ γ refs W .retN) := PS.imp ps_retN fun D σ H ⟨F, env, R, k⟩ => by
  rw [exec] at k
  exact k F H σ _ (.refl R) (by unfold retOk; rw [if_neg Bool.false_ne_true]; simp only [relF])
/-! ### loops -/
theorem Mo_unlocked {env : Env} {ls : List Nat} {a : Addr} (h : Mo (lockAll ls env) σ a) : Mo env σ a := by
  obtain ⟨j, d, h1, h2⟩ := h
  rw [lockAll_get] at h1
  split at h1
  · cases hs : getS env j <;> rw [hs] at h1 <;> cases h1
  · exact ⟨j, d, h1, h2⟩
theorem unlock_ret {F F' : Addr → Prop} {H' : Hp} {env e' : Env} {σ' : L2.St} {ls : List Nat} {o : Bool} {d : PF.D} {v : V} (h : retOk G F H (lockAll ls env) σ F' H' e' σ' o d v) : retOk G F H env σ F' H' (unlockAll ls env e') σ' o d v := by
  unfold retOk at h ⊢
  split
  · rename_i ho
    rw [if_pos ho] at h
    obtain ⟨a, h1, h2, h3, h4, h5⟩ := h
    exact ⟨a, h1, h2, fun ⟨j, h6, h7⟩ => h3 ⟨j, by rw [← isOwn_unlock ls env]; exact h6, h7⟩, h4, h5.imp_left fun z => Mo_unlocked z⟩
  · rename_i ho
    rw [if_neg ho] at h
    exact h
theorem kS_unlock {F : Addr → Prop} {env : Env} {ls : List Nat} (R : Rel G F H env σ) {r : RS} (k : kS G refs W F H env σ Dn (r.env (unlockAll ls env))) : kS G refs W F H (lockAll ls env) σ Dn r := by
  cases r with
  | nx e => exact fun F' H' σ' p => k F' H' σ' ⟨Pst.unlock R p.1, p.2⟩
  | bk e => exact fun F' H' σ' p => k F' H' σ' ⟨Pst.unlock R p.1, p.2⟩
  | ct e => exact fun F' H' σ' p => k F' H' σ' ⟨Pst.unlock R p.1, p.2⟩
  | rt o d e => exact fun F' H' σ' v p r => k F' H' σ' v ⟨Pst.unlock R p.1, p.2⟩ (unlock_ret r)
  | ex x e => exact fun F' H' σ' cls dd p x => k F' H' σ' cls dd ⟨Pst.unlock R p.1, p.2⟩ x
  | st => exact k
/-- a turn of a loop -/
theorem kS_turn {F : Addr → Prop} {env : Env} {D : Ends} {N : L2.St → Hp → Prop} {r : RS} {kk : Env → RS} (k : kS G refs W F H env σ D (r.lp kk)) (n : ∀ e F' H' σ', (r = .nx e ∨ r = .ct e) → PstR G refs F H env σ F' H' e σ' → N σ' H') : kS G refs W F H env σ { D with nx := N, ct := N, bk := D.nx } r := by
  cases r with
  | nx e => exact fun F' H' σ' p => n e F' H' σ' (.inl rfl) p
  | bk e => exact k
  | ct e => exact fun F' H' σ' p => n e F' H' σ' (.inr rfl) p
  | rt o d e => exact k
  | ex x e => exact k
  | st => exact k
theorem s_for {t : T} {it : It} {bs : List S} {tg iter : Expr} {body : List Stmt} (hr : ∀ j ∈ tvars t, j ∉ refs) (hK : X.K = G.K) (hp : PassesOwn (model X.prog X.w) X.A X.env X.xe) (hc : X.calm = true) (hi : PI X tg iter (rdI G Φ γ W it)) (hg : PG X tg (gT G.K t)) (hb : PSs X body (rdSs G Φ γ refs W bs))
    (hs : ∀ x, foldedSetIterable iter X.env x = pure x) : PS X (.For tg iter body [] pos) (rdS G Φ γ refs W (.for_ t it bs)) := PS.imp (ps_for hp hc hi hg hb hs) fun D σ H ⟨F, env, R, k⟩ => by
  rw [exec] at k
  refine ⟨F, env, R, ?_⟩
  cases h : evI Φ γ it env with
  | st => rw [h] at k; exact k
  | ex x e1 => rw [h] at k; exact fun F' H' cls dd p x => k F' H' σ cls dd (.of p) x
  | ok ds ls e1 =>
    rw [h] at k
    simp only [RI.bdS] at k
    intro F1 H1 J p1 hJ
    have k1 := kS_unlock p1.rel (kS.back (.of p1) k)
    generalize hrl : forGo (asgT t) (execs Φ γ bs) ds (lockAll ls e1) = rl at k1
    have hne : rl ≠ .st := fun z => by rw [z] at k1; exact k1
    have R1 := p1.rel.lock ls
    refine ⟨fun i m σ' H' => ∃ F e, m = ds.length - i ∧ i ≤ ds.length ∧ PstR G refs F1 H1 (lockAll ls e1) σ F H' e σ' ∧ forGo (asgT t) (execs Φ γ bs) (ds.drop i) e = rl, ⟨ds.length, F1, lockAll ls e1, by simp, Nat.zero_le _, .refl R1, by simpa using hrl⟩, ?_⟩
    rintro i m σ' H' ⟨F, e, rfl, hi, P, hgo⟩
    have E0 : Ext (Mo (lockAll ls e1) σ) F1 H1 F H' := P.1.ext
    by_cases hlt : i < ds.length
    · obtain ⟨hgoJ, hyld⟩ := (hJ F H' E0 i).2 _ (List.getElem?_eq_getElem hlt)
      refine .inr ⟨hgoJ, fun σ' H' => ∃ F e, i + 1 ≤ ds.length ∧ PstR G refs F1 H1 (lockAll ls e1) σ F H' e σ' ∧ forGo (asgT t) (execs Φ γ bs) (ds.drop (i + 1)) e = rl, fun σ' H' ⟨F, e, h1, h2⟩ => ⟨ds.length - (i + 1), by omega, F, e, rfl, h1, h2⟩, fun x H2 hy => ?_⟩
      obtain ⟨g1, rx⟩ := hyld x H2 hy
      rw [List.drop_eq_getElem_cons hlt, forGo] at hgo
      cases ha : asgT t ds[i] e with
      | none => rw [ha] at hgo; exact absurd hgo.symm hne
      | some ea =>
        rw [ha] at hgo
        simp only [onS] at hgo
        have P1 : PstR G refs F1 H1 (lockAll ls e1) σ F H2 e σ' := P.trans (.of (Pst.grow P.1.rel g1))
        refine gT_ok t _ x e ea σ' _ ha P1.1.rel rx fun σ2 P2 k2 => ?_
        have P3 : PstR G refs F1 H1 (lockAll ls e1) σ F H2 ea σ2 := P1.trans ⟨P2, fun j hj => k2.2 j fun z => hr j z hj⟩
        refine ⟨F, ea, P3.1.rel, kS_turn (kk := fun e2 => forGo (asgT t) (execs Φ γ bs) (ds.drop (i + 1)) e2) (by rw [hgo]; exact kS.back P3 k1) fun e2 F' H' σ3 hr2 p => ⟨F', e2, hlt, P3.trans p, ?_⟩⟩
        rcases hr2 with z | z
        · rw [z] at hgo; exact hgo
        · rw [z] at hgo; exact hgo
    · have hie : i = ds.length := by omega
      subst hie
      refine .inl ⟨(hJ F H' E0 ds.length).1 (Nat.le_refl _), ?_⟩
      rw [List.drop_length, forGo] at hgo
      rw [← hgo] at k1
      exact k1 F H' σ' P
theorem s_while {c : Expr} {body : List Stmt} {mc : E} {bs : List S} (hp : PassesOwn (model X.prog X.w) X.A X.env X.xe) (hc : PT X c (rdT G Φ γ W mc)) (hb : PSs X body (rdSs G Φ γ refs W bs)) : PS X (.While c body [] pos) (rdS G Φ γ refs W (.whl mc bs)) := PS.imp (ps_while hp hc hb) fun D σ H ⟨F, env, R, k⟩ => by
  rw [exec] at k
  generalize hrl : whlGo (evT Φ γ mc) (execs Φ γ bs) turnsMost env = rl at k
  have hne : rl ≠ .st := fun z => by rw [z] at k; exact k
  refine ⟨fun m σ' H' => ∃ F2 e, PstR G refs F H env σ F2 H' e σ' ∧ whlGo (evT Φ γ mc) (execs Φ γ bs) m e = rl, ⟨turnsMost, F, env, .refl R, hrl⟩, ?_⟩
  rintro m σ' H' ⟨F2, e, P, hgo⟩
  cases m with
  | zero => rw [whlGo] at hgo; exact absurd hgo.symm hne
  | succ m =>
    rw [whlGo] at hgo
    refine ⟨F2, e, P.1.rel, ?_⟩
    cases h : evT Φ γ mc e with
    | st => rw [h] at hgo; exact absurd hgo.symm hne
    | ex x e1 =>
      rw [h] at hgo
      simp only [RT.bdS] at hgo
      rw [← hgo] at k
      exact fun F' H' cls dd p x => k F' H' σ' cls dd (P.trans (.of p)) x
    | ok b e1 =>
      rw [h] at hgo
      simp only [RT.bdS] at hgo
      intro F3 H3 p3
      have P3 := P.trans (.of p3)
      cases b with
      | false =>
        rw [if_neg Bool.false_ne_true] at hgo ⊢
        rw [← hgo] at k
        exact k F3 H3 σ' P3
      | true =>
        rw [if_pos rfl] at hgo ⊢
        refine ⟨fun σ' H' => ∃ F2 e, PstR G refs F H env σ F2 H' e σ' ∧ whlGo (evT Φ γ mc) (execs Φ γ bs) m e = rl, fun σ' H' h => ⟨m, Nat.lt_succ_self _, h⟩, F3, e1, P3.1.rel, kS_turn (kk := fun e2 => whlGo (evT Φ γ mc) (execs Φ γ bs) m e2) (by rw [hgo]; exact kS.back P3 k) fun e2 F' H' σ3 hr2 p => ⟨F', e2, P3.trans p, ?_⟩⟩
        rcases hr2 with z | z
        · rw [z] at hgo; exact hgo
        · rw [z] at hgo; exact hgo
end
end PF
set_option Elab.async false
set_option linter.all false
set_option maxRecDepth 100000
set_option maxHeartbeats 1000000
/-! PF5b: items that are set. -/
namespace PF
open PySem PySem.Spec PyProof.Rows L2
/-- x[k] = v by values -/
def rSet (G : Gp) : TSet := fun o iv v H Q => ∃ F a x k d x', o = .ref a ∧ relO G F H x a ∧ relR G F H k iv ∧ ((∃ ds, x = .lst ds) ∨ relF G F H k iv) ∧ relF G F H d v ∧ setD x k d = some x' ∧
  (∀ o' es ys, relFs G F H es ys → relFs G F (upd H a o') es ys) ∧ ∀ o', relO G F (upd H a o') x' a → Q (upd H a o')
theorem psetImp {X : Cx} {t t' : TSet} (h : PSet X t) (i : ∀ o k v H Q, t' o k v H Q → t o k v H Q) : PSet X t' := fun pins s σ H o i' v ov iv u Q I ro ri rv q => h pins s σ H o i' v ov iv u Q I ro ri rv (i _ _ _ _ _ q)
theorem psetOr {X : Cx} {t t' : TSet} (h : PSet X t) (h' : PSet X t') : PSet X (fun o k v H Q => t o k v H Q ∨ t' o k v H Q) := fun pins s σ H o i' v ov iv u Q I ro ri rv q => q.elim (h pins s σ H o i' v ov iv u Q I ro ri rv) (h' pins s σ H o i' v ov iv u Q I ro ri rv)
section
variable {G : Gp} {X : Cx}
theorem pset_all (dct : PSet X (fun o iv v H Q => rSet G o iv v H Q ∧ ∃ F ks vs a, o = .ref a ∧ relO G F H (.dct ks vs) a)) : PSet X (rSet G) :=
  psetImp (psetOr set_list dct) fun o iv v H Q h => by
    have h0 := h
    obtain ⟨F, a, x, k, d, x', e0, ho, hk, hk2, hd, hs, hu, q⟩ := h
    cases x with
    | lst ds =>
      refine .inl ?_
      cases k with
      | int i =>
        rw [show setD (.lst ds) (.int i) d = (ixN ds.length i).map fun j => .lst (ds.set j d) from rfl] at hs
        cases e1 : ixN ds.length i with
        | none => rw [e1] at hs; cases hs
        | some j =>
          rw [e1] at hs; cases hs
          obtain ⟨xs, h1, h2⟩ := relO_lst ho
          exact ⟨a, xs, i, j, e0, rInt hk, h1, by rw [relFs_length h2]; exact e1, q _ (relO_lst_mk (hu _ _ _ (relFs_set j h2 hd)))⟩
      | _ => cases hs
    | dct ks vs => exact .inr ⟨h0, F, ks, vs, a, e0, ho⟩
    | _ => exact ho.elim
variable {Φ : Str → List Sl → FR} {γ : Str → Option D} {refs : List Nat} {W : WX} {e ek : Expr} {m mk : E} {pos p1 p2 : Pos}
theorem s_setI {i : Nat} {x : Str} (hset : PSet X (rSet G)) (hN : X.N[i]? = some x) (hv : Vis X.env.scope x) (hd : (x == ("__debug__" : Str)) = false) (hcd : (x == ("__classdict__" : Str)) = false)
    (he : PE X e (rdE G Φ γ W m)) (hk : PE X ek (rdE G Φ γ W mk)) (hs : swapsWithSole [.Subscript (.Name x p1) ek p2] e pos.line X.env = pure false) (hw : swappedStores [.Subscript (.Name x p1) ek p2] e X.env = pure none)
    (ha : ∀ v, assign (.Subscript (.Name x p1) ek p2) X.env v = (do
      let ov ← holding [v] (eval (.Name x p1) X.env)
      let iv ← holding [v, ov] (eval ek X.env)
      standAt p2
      holding [v, ov, iv] (setItem ov iv v)
      release [v, ov, iv] []))
    : PS X (.Assign [.Subscript (.Name x p1) ek p2] e pos) (rdS G Φ γ refs W (.setI i mk m)) :=
  PS.imp (ps_asg he (pg_sub (pe_var hN hv hd hcd) hk hset ha) hs hw rfl) fun D σ H ⟨F, env, R, k⟩ => by
    rw [exec] at k
    refine ⟨F, env, R, kE_bdS k fun f d e1 hm0 F1 H1 v p1 v1 n1 k1 => ?_⟩
    have main : ∀ F2, Rel G F2 H1 e1 σ → relF G F2 H1 d v → kS G refs W F2 H1 e1 σ D (onS (owOf (getS e1 i)) fun _ => (ev Φ γ mk e1).bdS fun fk dk e2 => setIS i d fk dk e2) → gSub (tVar i) (rdE G Φ γ W mk) (rSet G) v σ H1 D.nx := fun F2 R2 rv k2 => by
      cases ho : getS e1 i with
      | ow x0 =>
        rw [ho] at k2
        simp only [owOf, onS] at k2
        obtain ⟨a, ha, _, _⟩ := R2.ow_at ho
        refine ⟨_, slAt_some ha, F2, e1, R2, kE_bdS k2 fun fk dk e2 _ F3 H3 iv p3 v3 n3 k3 => ?_⟩
        unfold setIS at k3
        cases hl : late fk dk e2 with
        | none => rw [hl] at k3; exact k3.elim
        | some kd =>
          rw [hl] at k3
          simp only [onS] at k3
          cases ho2 : getS e2 i with
          | ow x =>
            rw [ho2] at k3
            simp only [owOf] at k3
            split at k3
            · rename_i hfl
              cases hs : setD x kd d with
              | none => rw [hs] at k3; exact k3.elim
              | some x' =>
                rw [hs] at k3
                obtain ⟨a', ha', _, h3⟩ := p3.rel.ow_at ho2
                rw [ha] at ha'; cases ha'
                refine ⟨F3, a, x, kd, d, x', rfl, h3, v3.late p3.rel hl, ?_, relF_ext p3.ext R2.apart d v rv, hs, fun o' es ys h => relFs_upd p3.rel ho2 ha h, fun o' ro => k3 F3 _ σ (.of (Pst.write p3.rel ho2 ha ro))⟩
                cases fk with
                | fr => cases hl; exact .inr v3
                | _ =>
                  cases x with
                  | lst ds => exact .inl ⟨ds, rfl⟩
                  | _ => cases hfl
            · exact k3.elim
          | non => rw [ho2] at k3; exact k3.elim
          | fr _ => rw [ho2] at k3; exact k3.elim
          | lk _ => rw [ho2] at k3; exact k3.elim
      | non => rw [ho] at k2; exact k2.elim
      | fr _ => rw [ho] at k2; exact k2.elim
      | lk _ => rw [ho] at k2; exact k2.elim
    cases f with
    | fr => exact main F1 p1.rel v1 k1
    | ow =>
      obtain ⟨a, rfl, h2, h3, h4⟩ := v1
      have hn := n1 rfl a rfl
      obtain ⟨⟨o, ho⟩, _⟩ := relO_there h4
      have pz : Pst G F H env σ (fun b => F1 b ∨ b = a) H1 e1 σ := p1.freeze fun b hb => by rw [hb]; exact ⟨h3, by rw [ho]; exact (fun z => nomatch z), .inr hn⟩
      have k' := k
      rw [hm0] at k'
      exact main _ pz.rel (relF_of_relO (relO_sub (fun _ z => .inl z) h4) (.inr rfl)) (kS.back (.of pz) k')
    | pl j => exact k1.elim
theorem s_aug {i : Nat} {x : Str} {pos' : Pos} (hr : i ∉ refs) (hN : X.N.Nodup) (hi : X.N[i]? = some x) (hx : Loc X.env.scope x) (he : PE X e (rdE G Φ γ W m)) (hf : X.fn x = true ∨ X.env.scope.names.lookup x = some .local) :
    PS X (.AugAssign (.Name x pos') .Add e pos) (rdS G Φ γ refs W (.aug i .add m)) := PS.imp (ps_aug hN hi hx he ip_add hf) fun D σ H ⟨F, env, R, k⟩ => by
  rw [exec] at k
  cases hs : getS env i with
  | fr d0 =>
    rw [hs] at k
    simp only [frOf, onS] at k
    have q := R.slot i
    rw [hs] at q
    obtain ⟨v0, h1, h2⟩ := q
    refine ⟨v0, slAt_some h1, F, env, R, kE_bdS k fun f d e1 _ F1 H1 v p1 v1 n1 k1 => ?_⟩
    cases hl : late f d e1 with
    | none => rw [hl] at k1; exact k1.elim
    | some d1 =>
      rw [hl] at k1
      simp only [onS] at k1
      have r0 : relF G F1 H1 d0 v0 := relF_ext p1.ext R.apart d0 v0 h2
      have r1 := v1.late p1.rel hl
      have go : ∃ a b, d0 = .int a ∧ d1 = .int b ∧ kS G refs W F1 H1 e1 σ D (.nx (setS e1 i (.fr (.int (a + b))))) := by
        rw [show prim .add [d0, d1] = pAdd d0 d1 from rfl] at k1
        unfold pAdd at k1
        split at k1
        · exact ⟨_, _, rfl, rfl, k1⟩
        · split at k1 <;> exact k1.elim
        · split at k1 <;> exact k1.elim
        · split at k1 <;> exact k1.elim
        · exact k1.elim
      obtain ⟨a, b, rfl, rfl, k2⟩ := go
      have e0 : v0 = .int a := by simpa only [relF] using r0
      exact ⟨a, b, e0, rInt r1, k2 F1 H1 _ ⟨Pst.setF p1.rel (by simp only [relF]), fun j hj => by rw [slAt_set, if_neg fun q => hr (by rw [q.1]; exact hj)]⟩⟩
  | non => rw [hs] at k; exact k.elim
  | ow _ => rw [hs] at k; exact k.elim
  | lk _ => rw [hs] at k; exact k.elim
end
end PF
set_option Elab.async false
set_option linter.all false
set_option maxRecDepth 100000
set_option maxHeartbeats 2000000
/-! PF6: the program's expressions against the small language: a checker. -/
namespace PF
open PySem PySem.Spec PyProof.Rows L2

/-- what is fixed for a def: its names, the built-ins that are not the module's, the defs, the constants -/
structure Ck where
  N : List Str
  bns : List Str
  fns : Str → Bool
  γ : Str → Option D
def visB (sc : Sc) (x : Str) : Bool := match sc.scope.names.lookup x with
  | some .local => true
  | some .cell => true
  | some .free => true
  | _ => false
def globB (sc : Sc) (x : Str) : Bool := match sc.scope.names.lookup x with
  | some .globalImplicit => true
  | _ => false
def locB (sc : Sc) (x : Str) : Bool := match sc.scope.names.lookup x with
  | some .local => true
  | some .cell => sc.fn x
  | _ => false
def noDbg (x : Str) : Bool := !(x == ("__debug__" : Str)) && !(x == ("__classdict__" : Str))
def atB (c : Ck) (i : Nat) (x : Str) : Bool := match c.N[i]? with
  | some y => decide (y = x)
  | none => false
def nameB (c : Ck) (sc : Sc) (i : Nat) (x : Str) : Bool := atB c i x && visB sc x && noDbg x
def bi (c : Ck) (sc : Sc) (nm x : Str) : Bool := decide (x = nm) && globB sc x && c.bns.contains nm
def notSet : Expr → Bool
  | .Set _ _ _ => false
  | _ => true
def notSlice : Expr → Bool
  | .Slice _ _ _ _ => false
  | _ => true
def notComp : Expr → Bool
  | .ListComp _ _ _ _ => false
  | .SetComp _ _ _ _ => false
  | .DictComp _ _ _ _ _ => false
  | _ => true
def notTup : Expr → Bool
  | .Tuple _ _ _ => false
  | _ => true
def plainT : Expr → Bool
  | .UnaryOp .Not _ _ => false
  | .BoolOp _ _ _ => false
  | .IfExp _ _ _ _ => false
  | .Compare _ _ _ _ => false
  | _ => true
theorem behind_of {op : CmpOp} {b : Expr} (h : notSet b = true) : behindInMarks op b = false := by
  cases b <;> first | rfl | cases h
theorem plainIx_of {b : Expr} (h : notSlice b = true) : PlainIx b := by
  cases b <;> first | (intro _ _; rfl) | cases h
theorem folded_of {e : Expr} {env : PySem.Env} (h : notSet e = true) : ∀ x, foldedSetIterable e env x = pure x := by
  cases e <;> first | (intro _; rfl) | cases h
theorem swaps_of {e : Expr} {t : Option Expr} {l : Nat} {env : PySem.Env} (h : notComp e = true) : swapsWith e t l env = pure false := by
  cases e <;> first | rfl | cases h
theorem isTrue_of {e : Expr} {env : PySem.Env} (h : plainT e = true) : ∀ whole, isTrue e env whole = (do let v ← whole; standAt e.pos; holding [v] (PySem.truthy v)) := by
  intro whole
  cases e with
  | UnaryOp op a pos => cases op <;> first | rfl | cases h
  | _ => first | rfl | cases h
section
variable {G : Gp} {mg : Str → Option Value} {base : Heap} {Φ : Str → List Sl → FR} {k : Nat} {sc : Sc} {X : Cx} {W : WX} {c : Ck}
theorem visB_ok {x : Str} (C : Cok G mg base c.N k sc X W) (h : visB sc x = true) : Vis X.env.scope x := by
  unfold visB at h
  unfold Vis
  rw [C.scope]
  split at h
  · exact .inl (by assumption)
  · exact .inr (.inl (by assumption))
  · exact .inr (.inr (by assumption))
  · cases h
theorem globB_ok {x : Str} (C : Cok G mg base c.N k sc X W) (h : globB sc x = true) : Gl X x := by
  unfold globB at h
  show X.env.scope.names.lookup x = _
  rw [C.scope]
  split at h
  · assumption
  · cases h
theorem locB_ok {x : Str} (C : Cok G mg base c.N k sc X W) (h : locB sc x = true) : L2.Loc X.env.scope x ∧ (X.fn x = true ∨ X.env.scope.names.lookup x = some .local) := by
  unfold locB at h
  unfold L2.Loc
  rw [C.scope, C.fn]
  split at h
  · rename_i q; exact ⟨.inl q, .inr q⟩
  · rename_i q; exact ⟨.inr q, .inl h⟩
  · cases h
theorem atB_ok {i : Nat} {x : Str} (C : Cok G mg base c.N k sc X W) (h : atB c i x = true) : X.N[i]? = some x := by
  unfold atB at h
  rw [C.names]
  split at h
  · rename_i y e
    have : y = x := by simpa using h
    rw [e, this]
  · cases h
theorem noDbg_ok {x : Str} (h : noDbg x = true) : (x == ("__debug__" : Str)) = false ∧ (x == ("__classdict__" : Str)) = false := by
  unfold noDbg at h
  simp only [Bool.and_eq_true, Bool.not_eq_true'] at h
  exact h
theorem nameB_ok {i : Nat} {x : Str} (C : Cok G mg base c.N k sc X W) (h : nameB c sc i x = true) : X.N[i]? = some x ∧ Vis X.env.scope x ∧ (x == ("__debug__" : Str)) = false ∧ (x == ("__classdict__" : Str)) = false := by
  unfold nameB at h
  simp only [Bool.and_eq_true] at h
  exact ⟨atB_ok C h.1.1, visB_ok C h.1.2, noDbg_ok h.2⟩
theorem bi_ok {nm x : Str} (T : Top G mg base Φ c.γ c.bns c.fns k) (C : Cok G mg base c.N k sc X W) (h : bi c sc nm x = true) : x = nm ∧ Gl X nm ∧ X.mg nm = none := by
  unfold bi at h
  simp only [Bool.and_eq_true, decide_eq_true_eq, List.contains_eq_mem] at h
  obtain ⟨⟨rfl, h1⟩, h2⟩ := h
  exact ⟨rfl, globB_ok C h1, by rw [C.mg]; exact T.bn _ h2⟩
end

/-! ### what is simple -/
def ckLit : D → Expr → Bool
  | .int i, .Constant (.int j) _ _ => decide (i = j)
  | .str x, .Constant (.str y) _ _ => decide (x = y)
  | .bl a, .Constant (.bool b) _ _ => a == b
  | .non, .Constant .none _ _ => true
  | _, _ => false
def ckName (c : Ck) (sc : Sc) (i : Nat) : Expr → Bool
  | .Name x _ => nameB c sc i x
  | _ => false
def ckGl (c : Ck) (sc : Sc) (x : Str) : Expr → Bool
  | .Name y _ => decide (y = x) && globB sc y && noDbg y && (c.γ x).isSome
  | _ => false
def asTup : Expr → Option (List Expr)
  | .Tuple es _ _ => some es
  | _ => none
def asLst : Expr → Option (List Expr)
  | .List es _ => some es
  | _ => none
def tyB (c : Ck) (sc : Sc) (t : Ty) : Expr → Bool
  | .Name x _ => bi c sc (tyNm t) x
  | _ => false
def tysB (c : Ck) (sc : Sc) : List Ty → List Expr → Bool
  | [], [] => true
  | t :: ts, e :: es => tyB c sc t e && tysB c sc ts es
  | _, _ => false
/-- the second argument of isinstance -/
def isiB (c : Ck) (sc : Sc) (ts : List Ty) : Expr → Bool
  | .Tuple es _ _ => tysB c sc ts es && decide (ts.length ≤ 10)
  | e => match ts with
    | [t] => tyB c sc t e
    | _ => false
/-- a call of a built-in of one argument -/
def as1 (c : Ck) (sc : Sc) (nm : Str) : Expr → Option (List Expr)
  | .Call (.Name x _) [a] [] _ => if bi c sc nm x then some [a] else none
  | _ => none
def as2 (c : Ck) (sc : Sc) (nm : Str) : Expr → Option (List Expr)
  | .Call (.Name x _) [a, b] [] _ => if bi c sc nm x then some [a, b] else none
  | _ => none
def binOf : Op → Option Operator
  | .add => some .Add
  | .sub => some .Sub
  | .mul => some .Mult
  | .fdiv => some .FloorDiv
  | .mod => some .Mod
  | .pow => some .Pow
  | .bor => some .BitOr
  | .shl => some .LShift
  | _ => none
def cmpOf : Op → Option CmpOp
  | .eq => some .Eq
  | .ne => some .NotEq
  | .lt => some .Lt
  | .le => some .LtE
  | .gt => some .Gt
  | .ge => some .GtE
  | .isIn => some .In
  | .notIn => some .NotIn
  | _ => none
def isOf : Op → Option CmpOp
  | .isN => some .Is
  | .notN => some .IsNot
  | _ => none
def asBin : Expr → Option (Operator × List Expr)
  | .BinOp a o b _ => some (o, [a, b])
  | _ => none
def asCmp : Expr → Option (CmpOp × List Expr)
  | .Compare a [o] [b] _ => if notSet b then some (o, [a, b]) else none
  | _ => none
def asIs : Expr → Option (CmpOp × List Expr)
  | .Compare a [o] [.Constant .none _ _] _ => some (o, [a])
  | _ => none
def fn1Of : Op → Option Str
  | .len => some "len"
  | .toInt => some "int"
  | .toStr => some "str"
  | .abs => some "abs"
  | .sum => some "sum"
  | .tuple => some "tuple"
  | .list => some "list"
  | .all => some "all"
  | .any => some "any"
  | _ => none
def fn2Of : Op → Option Str
  | .min2 => some "min"
  | .max2 => some "max"
  | _ => none
def asSub : Expr → Option (List Expr)
  | .Subscript a b _ => if notSlice b then some [a, b] else none
  | _ => none
def asSlLo : Expr → Option (List Expr)
  | .Subscript a (.Slice (some b) none none _) _ => some [a, b]
  | _ => none
def asSlHi : Expr → Option (List Expr)
  | .Subscript a (.Slice none (some b) none _) _ => some [a, b]
  | _ => none
def asIsi (c : Ck) (sc : Sc) (ts : List Ty) : Expr → Option (List Expr)
  | .Call (.Name x _) [a, t] [] _ => if bi c sc "isinstance" x && isiB c sc ts t then some [a] else none
  | _ => none
def asNeg : Expr → Option (List Expr)
  | .UnaryOp .USub a _ => some [a]
  | _ => none
def isStrLit : Expr → Bool
  | .Constant (.str _) _ _ => true
  | _ => false
def litStr : List E → Bool
  | [.lit (.str _), _] => true
  | _ => false
def asJoin (ms : List E) : Expr → Option (List Expr)
  | .Call (.Attribute a nm apos) [b] [] cpos => if decide (nm = ("join" : Str)) && isStrLit a && litStr ms && (apos.endLine == cpos.line) then some [a, b] else none
  | _ => none
def opParts (c : Ck) (sc : Sc) (p : Op) (ms : List E) (e : Expr) : Option (List Expr) :=
  match binOf p with
  | some o => match asBin e with
    | some (o', es) => if o' = o then some es else none
    | none => none
  | none => match cmpOf p with
  | some o => match asCmp e with
    | some (o', es) => if o' = o then some es else none
    | none => none
  | none => match isOf p with
  | some o => match asIs e with
    | some (o', es) => if o' = o then some es else none
    | none => none
  | none => match fn1Of p with
  | some nm => as1 c sc nm e
  | none => match fn2Of p with
  | some nm => as2 c sc nm e
  | none => match p with
    | .neg => asNeg e
    | .idx => asSub e
    | .slLo => asSlLo e
    | .slHi => asSlHi e
    | .isinst ts => asIsi c sc ts e
    | .join => asJoin ms e
    | _ => none
def PEs (X : Cx) (rd : E → TE) : List Expr → List E → Prop
  | [], [] => True
  | e :: es, m :: ms => (notStar e = true ∧ PE X e (rd m)) ∧ PEs X rd es ms
  | _, _ => False
section
variable {G : Gp} {mg : Str → Option Value} {base : Heap} {Φ : Str → List Sl → FR} {k : Nat} {sc : Sc} {X : Cx} {W : WX} {c : Ck} {ms : List E} {e : Expr} {es : List Expr}
theorem PEs1 {rd : E → TE} {a : Expr} (h : PEs X rd [a] ms) : ∃ m, ms = [m] ∧ notStar a = true ∧ PE X a (rd m) := by
  match ms, h with
  | [m], h => exact ⟨m, rfl, h.1.1, h.1.2⟩
theorem PEs2 {rd : E → TE} {a b : Expr} (h : PEs X rd [a, b] ms) : ∃ m n, ms = [m, n] ∧ (notStar a = true ∧ PE X a (rd m)) ∧ notStar b = true ∧ PE X b (rd n) := by
  match ms, h with
  | [m, n], h => exact ⟨m, n, rfl, h.1, h.2.1⟩
theorem PEs_star {rd : E → TE} : ∀ {es : List Expr} {ms : List E}, PEs X rd es ms → es.all notStar = true
  | [], [], _ => rfl
  | e :: es, m :: ms, h => by rw [List.all_cons, h.1.1, PEs_star h.2]; rfl
  | [], _ :: _, h => h.elim
  | _ :: _, [], h => h.elim
theorem PEs_pa {γ : Str → Option D} : ∀ {es : List Expr} {ms : List E}, PEs X (rdE G Φ γ W) es ms → PA X es (rdEs G Φ γ W ms)
  | [], [], _ => pa_rd_nil
  | e :: es, m :: ms, h => pa_rd_cons h.1.2 (PEs_pa h.2) (star_cons h.1.1)
  | [], _ :: _, h => h.elim
  | _ :: _, [], h => h.elim
theorem opR_bin (hK : X.K = G.K) {p : Op} {o : Operator} (h : binOf p = some o) : OpR X (binaryOp o) (fun x y => rP G p [x, y]) := by
  unfold binOf at h
  split at h <;> first
    | (cases h; first | exact pr_add hK | exact pr_sub | exact pr_mul hK | exact pr_fdiv | exact pr_mod | exact pr_pow | exact pr_bor | exact pr_shl)
    | cases h
theorem opR_cmp (hP : X.prog = G.P) (hw : X.w = G.w) (hK : X.K = G.K) (hu : X.A.units + 64 < cLine) {p : Op} {o : CmpOp} (h : cmpOf p = some o) : OpR X (compareOp o) (fun x y => rP G p [x, y]) := by
  unfold cmpOf at h
  split at h <;> first
    | (cases h; first | exact pr_eq hK hu | exact pr_ne hK hu | exact pr_lt hK hu | exact pr_le hK hu | exact pr_gt hK hu | exact pr_ge hK hu | exact pr_in0 false rfl (fun _ _ => rfl) hK hu (dct_in hP hw hK hu) | exact pr_in0 true rfl (fun _ _ => rfl) hK hu (dct_notIn hP hw hK hu))
    | cases h
theorem opR_is {p : Op} {o : CmpOp} (h : isOf p = some o) : OpR X (compareOp o) (fun x y H Q => y = .non ∧ rP G p [x] H Q) := by
  unfold isOf at h
  split at h <;> first
    | (cases h; first | exact pr_isN (y := .non) | exact pr_notN (y := .non))
    | cases h
theorem tyB_ok (T : Top G mg base Φ c.γ c.bns c.fns k) (C : Cok G mg base c.N k sc X W) {t : Ty} (h : tyB c sc t e = true) : ∃ p, e = .Name (tyNm t) p ∧ Gl X (tyNm t) ∧ X.mg (tyNm t) = none := by
  unfold tyB at h
  split at h
  · obtain ⟨rfl, h1, h2⟩ := bi_ok T C h
    exact ⟨_, rfl, h1, h2⟩
  · cases h
theorem tysB_ok (T : Top G mg base Φ c.γ c.bns c.fns k) (C : Cok G mg base c.N k sc X W) : ∀ {ts : List Ty} {es : List Expr}, tysB c sc ts es = true → ∃ ps : List Pos, es = tyNames ts ps ∧ ts.length = ps.length ∧ ∀ t ∈ ts, Gl X (tyNm t) ∧ X.mg (tyNm t) = none
  | [], [], _ => ⟨[], rfl, rfl, fun _ h => by simp at h⟩
  | t :: ts, e :: es, h => by
    unfold tysB at h
    rw [Bool.and_eq_true] at h
    obtain ⟨p, rfl, h1, h2⟩ := tyB_ok T C h.1
    obtain ⟨ps, rfl, h3, h4⟩ := tysB_ok T C h.2
    refine ⟨p :: ps, rfl, by rw [List.length_cons, List.length_cons, h3], fun u hu => ?_⟩
    rcases List.mem_cons.mp hu with rfl | hu
    · exact ⟨h1, h2⟩
    · exact h4 u hu
  | [], _ :: _, h => by cases h
  | _ :: _, [], h => by cases h
theorem sound_1 (T : Top G mg base Φ c.γ c.bns c.fns k) (C : Cok G mg base c.N k sc X W) {p : Op} {nm : Str} (hn : fn1Of p = some nm) (h : as1 c sc nm e = some es) (hp : PEs X (rdE G Φ c.γ W) es ms) : PE X e (rdE G Φ c.γ W (.op p ms)) := by
  unfold as1 at h
  split at h
  · split at h
    · rename_i hb
      cases h
      obtain ⟨rfl, hg, hm⟩ := bi_ok T C hb
      obtain ⟨m, rfl, ns, pe⟩ := PEs1 hp
      unfold fn1Of at hn
      split at hn <;> first
        | (cases hn
           first
             | exact e_callB (pr_len C.K (dct_len C.P C.w C.K)) hg hm rfl pe ns (by decide) (by decide)
             | exact e_callT pr_int hg hm rfl pe ns (by decide) (by decide)
             | exact e_callT pr_str hg hm rfl pe ns (by decide) (by decide)
             | exact e_callB pr_abs hg hm rfl pe ns (by decide) (by decide)
             | exact e_callB (pr_sum C.calm) hg hm rfl pe ns (by decide) (by decide)
             | exact e_callT (pr_tuple C.K) hg hm rfl pe ns (by decide) (by decide)
             | exact e_callT (pr_list C.K (dct_list C.P C.w C.K)) hg hm rfl pe ns (by decide) (by decide)
             | exact e_callB (pr_all C.calm) hg hm rfl pe ns (by decide) (by decide)
             | exact e_callB (pr_any C.calm) hg hm rfl pe ns (by decide) (by decide))
        | cases hn
    · cases h
  · cases h
theorem sound_2 (T : Top G mg base Φ c.γ c.bns c.fns k) (C : Cok G mg base c.N k sc X W) {p : Op} {nm : Str} (hn : fn2Of p = some nm) (h : as2 c sc nm e = some es) (hp : PEs X (rdE G Φ c.γ W) es ms) : PE X e (rdE G Φ c.γ W (.op p ms)) := by
  unfold as2 at h
  split at h
  · split at h
    · rename_i hb
      cases h
      obtain ⟨rfl, hg, hm⟩ := bi_ok T C hb
      obtain ⟨m, n, rfl, ⟨ns, pe⟩, ns2, pe2⟩ := PEs2 hp
      unfold fn2Of at hn
      split at hn <;> first
        | (cases hn
           first
             | exact e_callB2 (pr_min2 C.calm) hg hm rfl pe pe2 ns ns2 (by decide) (by decide)
             | exact e_callB2 (pr_max2 C.calm) hg hm rfl pe pe2 ns ns2 (by decide) (by decide))
        | cases hn
    · cases h
  · cases h
theorem sound_op (T : Top G mg base Φ c.γ c.bns c.fns k) (C : Cok G mg base c.N k sc X W) {p : Op} (h : opParts c sc p ms e = some es) (hp : PEs X (rdE G Φ c.γ W) es ms) : PE X e (rdE G Φ c.γ W (.op p ms)) := by
  unfold opParts at h
  split at h
  · rename_i o ho
    split at h
    · rename_i o' es' he
      split at h
      · rename_i e1
        subst e1
        cases h
        unfold asBin at he
        split at he
        · cases he
          obtain ⟨m, n, rfl, ⟨ns, pe⟩, ns2, pe2⟩ := PEs2 hp
          exact e_bin (opR_bin C.K ho) pe pe2
        · cases he
      · cases h
    · cases h
  · split at h
    · rename_i o ho
      split at h
      · rename_i o' es' he
        split at h
        · rename_i e1
          subst e1
          cases h
          unfold asCmp at he
          split at he
          · split at he
            · rename_i hs
              cases he
              obtain ⟨m, n, rfl, ⟨ns, pe⟩, ns2, pe2⟩ := PEs2 hp
              exact e_cmp (opR_cmp C.P C.w C.K C.room.units ho) pe pe2 (behind_of hs)
            · cases he
          · cases he
        · cases h
      · cases h
    · split at h
      · rename_i o ho
        split at h
        · rename_i o' es' he
          split at h
          · rename_i e1
            subst e1
            cases h
            unfold asIs at he
            split at he
            · cases he
              obtain ⟨m, rfl, ns, pe⟩ := PEs1 hp
              exact e_is (opR_is ho) pe
            · cases he
          · cases h
        · cases h
      · split at h
        · rename_i nm hn; exact sound_1 T C hn h hp
        · split at h
          · rename_i nm hn; exact sound_2 T C hn h hp
          · split at h
            · unfold asNeg at h
              split at h
              · cases h
                obtain ⟨m, rfl, ns, pe⟩ := PEs1 hp
                exact e_un pr_neg pe
              · cases h
            · unfold asSub at h
              split at h
              · split at h
                · rename_i hs
                  cases h
                  obtain ⟨m, n, rfl, ⟨ns, pe⟩, ns2, pe2⟩ := PEs2 hp
                  exact e_ix (pr_idx C.K (dct_idx C.P C.w C.K C.room.units)) pe pe2 (plainIx_of hs)
                · cases h
              · cases h
            · unfold asSlLo at h
              split at h
              · cases h
                obtain ⟨m, n, rfl, ⟨ns, pe⟩, ns2, pe2⟩ := PEs2 hp
                exact e_slLo C.K pe pe2
              · cases h
            · unfold asSlHi at h
              split at h
              · cases h
                obtain ⟨m, n, rfl, ⟨ns, pe⟩, ns2, pe2⟩ := PEs2 hp
                exact e_slHi C.K pe pe2
              · cases h
            · rename_i ts _ _ _ _ _
              unfold asIsi at h
              split at h
              · split at h
                · rename_i hb
                  rw [Bool.and_eq_true] at hb
                  cases h
                  obtain ⟨rfl, hg, hm⟩ := bi_ok T C hb.1
                  obtain ⟨m, rfl, ns, pe⟩ := PEs1 hp
                  have hb2 := hb.2
                  unfold isiB at hb2
                  split at hb2
                  · rw [Bool.and_eq_true, decide_eq_true_eq] at hb2
                    obtain ⟨ps, rfl, h3, h4⟩ := tysB_ok T C hb2.1
                    exact e_isiT (x := "isinstance") C.K hg hm h3 hb2.2 h4 pe ns
                  · split at hb2
                    · obtain ⟨p, rfl, h1, h2⟩ := tyB_ok T C hb2
                      exact e_isi (x := "isinstance") C.K hg hm h1 h2 pe ns
                    · cases hb2
                · cases h
              · cases h
            · unfold asJoin at h
              split at h
              · split at h
                · rename_i hb
                  simp only [Bool.and_eq_true, decide_eq_true_eq] at hb
                  obtain ⟨⟨⟨rfl, h1⟩, h2⟩, h3⟩ := hb
                  cases h
                  obtain ⟨m, n, rfl, ⟨ns, pe⟩, ns2, pe2⟩ := PEs2 hp
                  unfold litStr at h2
                  split at h2
                  · rename_i z _ e1
                    cases e1
                    refine e_join pe pe2 ns2 ?_ h3
                    unfold isStrLit at h1
                    split at h1
                    · rfl
                    · cases h1
                  · cases h2
                · cases h
              · cases h
            · cases h
end
end PF
set_option Elab.async false
set_option linter.all false
set_option maxRecDepth 100000
set_option maxHeartbeats 2000000
/-! PF6b: the checker, whole. -/
namespace PF
open PySem PySem.Spec PyProof.Rows L2

def asSl : Expr → Option (Expr × Expr × Expr)
  | .Subscript a (.Slice (some b) (some c) none _) _ => some (a, b, c)
  | _ => none
def asBoo (cj : Bool) : Expr → Option (List Expr × Pos)
  | .BoolOp .And es p => if cj then some (es, p) else none
  | .BoolOp .Or es p => if cj then none else some (es, p)
  | _ => none
def asNot : Expr → Option Expr
  | .UnaryOp .Not a _ => some a
  | _ => none
def asIf : Expr → Option (Expr × Expr × Expr)
  | .IfExp a b c _ => some (a, b, c)
  | _ => none
def asCall (c : Ck) (sc : Sc) (f : Str) : Expr → Option (List Expr)
  | .Call (.Name x _) es [] _ => if decide (x = f) && c.fns f && globB sc f && noDbg f then some es else none
  | _ => none
def muNm : Mu → Str
  | .append => "append"
  | .extend => "extend"
  | .pop => "pop"
  | .popAt => "pop"
  | .insert => "insert"
  | .reverse => "reverse"
  | .remove => "remove"
  | .setdefault => "setdefault"
def muAr : Mu → Option Nat
  | .append => some 1
  | .extend => some 1
  | .pop => some 0
  | .popAt => some 1
  | .insert => some 2
  | .reverse => some 0
  | .remove => none
  | .setdefault => none
def asMu (c : Ck) (sc : Sc) (m : Mu) (i : Nat) : Expr → Option (List Expr)
  | .Call (.Attribute (.Name x _) nm apos) es [] cpos => if decide (nm = muNm m) && nameB c sc i x && (apos.endLine == cpos.line) && decide (muAr m = some es.length) then some es else none
  | _ => none
def asLc : Expr → Option (Expr × Expr × Expr × List Expr × Scope)
  | .ListComp elt [⟨tg, it, ifs, 0⟩] scope _ => some (elt, tg, it, ifs, scope)
  | _ => none
mutual
def tgB (c : Ck) (sc : Sc) : T → Expr → Bool
  | .nm i, .Name x _ => atB c i x && locB sc x
  | .tup ts, .Tuple es _ _ => tgsB c sc ts es
  | _, _ => false
def tgsB (c : Ck) (sc : Sc) : List T → List Expr → Bool
  | [], [] => true
  | t :: ts, e :: es => notStar e && (tgB c sc t e && tgsB c sc ts es)
  | _, _ => false
end
/-- the scope of a comprehension's block -/
def blkSc (scope : Scope) (sc : Sc) : Sc := ⟨relS scope sc.scope, fun x => scope.names.lookup x == some .cell⟩
def ownOf (N : List Str) (vs : List Nat) : List (Str × Nat) := vs.map fun v => (N.getD v (⟨#[]⟩ : Str), v)
def kindIs (k : NameKind) (o : Option NameKind) : Bool := match o with
  | some q => decide (q = k)
  | none => false
def blkB (N : List Str) (sc scope : Scope) (vs : List Nat) : Bool :=
  decide (scope.kind = .function) && scope.names.all (fun y => kindIs y.2 (scope.names.lookup y.1)) && vs.all (fun v => decide (v < N.length)) &&
  scope.names.all (fun y => !decide (y.2 = .free) || kindIs .cell (sc.names.lookup y.1) || kindIs .free (sc.names.lookup y.1)) &&
  scope.names.all (fun y => !(decide (y.2 = .local) || decide (y.2 = .cell)) || ((ownOf N vs).map (·.1)).contains y.1 || !N.contains y.1)
theorem kindIs_ok {k : NameKind} {o : Option NameKind} (h : kindIs k o = true) : o = some k := by
  unfold kindIs at h
  split at h
  · rw [of_decide_eq_true h]
  · cases h
theorem blkB_ok {N : List Str} {sc scope : Scope} {vs : List Nat} (h : blkB N sc scope vs = true) : BlkOk N sc scope (ownOf N vs) := by
  unfold blkB at h
  simp only [Bool.and_eq_true] at h
  obtain ⟨⟨⟨⟨h1, h2⟩, h3⟩, h4⟩, h5⟩ := h
  refine ⟨of_decide_eq_true h1, fun y hy => kindIs_ok (List.all_eq_true.mp h2 y hy), fun p hp => ?_, fun y hy hf => ?_, fun y hy hl => ?_⟩
  · unfold ownOf at hp
    obtain ⟨v, hv, rfl⟩ := List.mem_map.mp hp
    have := of_decide_eq_true (List.all_eq_true.mp h3 v hv)
    simp [List.getElem?_eq_getElem this]
  · have := List.all_eq_true.mp h4 y hy
    simp only [Bool.or_eq_true, Bool.not_eq_true', decide_eq_false_iff_not] at this
    rcases this with (z | z) | z
    · exact absurd hf z
    · exact .inl (kindIs_ok z)
    · exact .inr (kindIs_ok z)
  · have := List.all_eq_true.mp h5 y hy
    simp only [Bool.or_eq_true, Bool.not_eq_true', Bool.or_eq_false_iff, decide_eq_false_iff_not] at this
    rcases this with (z | z) | z
    · exact absurd hl (fun q => q.elim z.1 z.2)
    · exact .inl (by simpa [List.contains_eq_mem] using z)
    · exact .inr (by simpa [List.contains_eq_mem] using z)
theorem ownOf_snd {N : List Str} {vs : List Nat} : (ownOf N vs).map (·.2) = vs := by
  unfold ownOf
  rw [List.map_map]
  exact List.map_id vs
def subB (a b : List Nat) : Bool := a.all b.contains
theorem subB_ok {a b : List Nat} (h : subB a b = true) : ∀ j ∈ a, j ∈ b := fun j hj => by
  have := List.all_eq_true.mp h j hj
  simpa [List.contains_eq_mem] using this
/-- what is walked, apart -/
def asRng1 (c : Ck) (sc : Sc) : Expr → Option Expr
  | .Call (.Name x _) [a] [] _ => if bi c sc "range" x && notStar a then some a else none
  | _ => none
mutual
/-- an expression as a value (t = false), as a test (t = true) -/
def chkE (c : Ck) (sc : Sc) (t : Bool) : E → Expr → Bool
  | .var i, e => ckName c sc i e
  | .pk i, e => ckName c sc i e
  | .lit d, e => ckLit d e
  | .gl x, e => ckGl c sc x e
  | .tup ms, e => match asTup e with
    | some es => chkEs c sc ms es
    | none => false
  | .lst ms, e => match asLst e with
    | some es => chkEs c sc ms es
    | none => false
  | .dnew, _ => false
  | .op p ms, e => match opParts c sc p ms e with
    | some es => chkEs c sc ms es && (!t || isCmp p || plainT e)
    | none => false
  | .sl m1 m2 m3, e => match asSl e with
    | some (e1, e2, e3) => chkE c sc false m1 e1 && chkE c sc false m2 e2 && chkE c sc false m3 e3
    | none => false
  | .boo cj ms, e => match asBoo cj e with
    | some (es, _) => !ms.isEmpty && chkB c sc t ms es
    | none => false
  | .not_ m, e => match asNot e with
    | some a => chkE c sc t m a
    | none => false
  | .ife m1 m2 m3, e => match asIf e with
    | some (e1, e2, e3) => !t && chkE c sc true m1 e1 && chkE c sc false m2 e2 && chkE c sc false m3 e3
    | none => false
  | .get _, _ => false
  | .call f ms, e => match asCall c sc f e with
    | some es => chkEs c sc ms es
    | none => false
  | .mu m i ms, e => match asMu c sc m i e with
    | some es => chkEs c sc ms es
    | none => false
  | .lc vs tt it ifs elt, e => match asLc e with
    | some (e1, tg, ite, ifes, scope) => chkI c sc it ite && blkB c.N sc.scope scope vs && subB (tvars tt) vs && tgB c (blkSc scope sc) tt tg && notStar tg && notSet ite && chkTs c (blkSc scope sc) ifs ifes && chkE c (blkSc scope sc) false elt e1
    | none => false
  | .lc2 _ _ _ _ _ _ _ _, _ => false
  | .dc _ _ _ _ _ _, _ => false
def chkEs (c : Ck) (sc : Sc) : List E → List Expr → Bool
  | [], es => es.isEmpty
  | m :: ms, es => match es with
    | e :: es => notStar e && chkE c sc false m e && chkEs c sc ms es
    | [] => false
def chkB (c : Ck) (sc : Sc) (t : Bool) : List E → List Expr → Bool
  | [], es => es.isEmpty
  | m :: ms, es => match es with
    | e :: es => chkE c sc t m e && chkB c sc t ms es
    | [] => false
def chkTs (c : Ck) (sc : Sc) : List E → List Expr → Bool
  | [], es => es.isEmpty
  | m :: ms, es => ms.isEmpty && (match es with
    | [e] => chkE c sc true m e
    | _ => false)
def chkI (c : Ck) (sc : Sc) : It → Expr → Bool
  | .seq m, e => chkE c sc false m e
  | .rng1 m, e => match asRng1 c sc e with
    | some a => chkE c sc false m a
    | none => false
  | .rng2 _, _ => false
  | .zip _, _ => false
  | .enum _, _ => false
  | .items _, _ => false
end
section
variable {G : Gp} {mg : Str → Option Value} {base : Heap} {Φ : Str → List Sl → FR} {k : Nat} {c : Ck}
theorem asgEach_cons {e : Expr} {es : List Expr} {env : PySem.Env} (h : notStar e = true) : assignEach (e :: es) env = (false, assign e env) :: assignEach es env := by
  cases e <;> first | rfl | cases h
theorem asgEach_len {env : PySem.Env} : ∀ {es : List Expr}, es.all notStar = true → (assignEach es env).length = es.length ∧ (assignEach es env).findIdx? (·.1) = none
  | [], _ => ⟨rfl, rfl⟩
  | e :: es, h => by
    rw [List.all_cons, Bool.and_eq_true] at h
    obtain ⟨h1, h2⟩ := asgEach_len (env := env) h.2
    rw [asgEach_cons h.1]
    refine ⟨by rw [List.length_cons, List.length_cons, h1], ?_⟩
    rw [List.findIdx?_cons, h2]; rfl
mutual
theorem tg_ok {sc : Sc} {X : Cx} {W : WX} (C : Cok G mg base c.N k sc X W) : ∀ (t : T) (e : Expr), tgB c sc t e = true → PG X e (gT G.K t)
  | .nm i, e, h => by
    cases e with
    | Name x p =>
      simp only [tgB, Bool.and_eq_true] at h
      obtain ⟨h1, h2⟩ := locB_ok C h.2
      exact pg_name (by rw [C.names]; exact C.nd) (atB_ok C h.1) h1 h2
    | _ => simp [tgB] at h
  | .tup ts, e, h => by
    cases e with
    | Tuple es x p =>
      simp only [tgB] at h
      obtain ⟨h1, h2, h3⟩ := tgs_ok C ts es h
      have hl := asgEach_len (env := X.env) h2
      rw [gT, ← C.K]
      refine pg_tup C.calm (by rw [C.K]; exact h1) (by rw [hl.1, h3]) hl.2
    | _ => simp [tgB] at h
theorem tgs_ok {sc : Sc} {X : Cx} {W : WX} (C : Cok G mg base c.N k sc X W) : ∀ (ts : List T) (es : List Expr), tgsB c sc ts es = true → PGs X es (gTs G.K ts) ∧ es.all notStar = true ∧ es.length = ts.length
  | [], [], _ => ⟨pgs_nil, rfl, rfl⟩
  | t :: ts, e :: es, h => by
    simp only [tgsB, Bool.and_eq_true] at h
    obtain ⟨h1, h2, h3⟩ := tgs_ok C ts es h.2.2
    refine ⟨pgs_cons (tg_ok C t e h.2.1) h1 (by rw [asgEach_cons h.1]; rfl), by rw [List.all_cons, h.1, h2]; rfl, by rw [List.length_cons, List.length_cons, h3]⟩
  | [], _ :: _, h => by simp [tgsB] at h
  | _ :: _, [], h => by simp [tgsB] at h
end
/-- as a value, as a test -/
def Sd (G : Gp) (Φ : Str → List Sl → FR) (γ : Str → Option D) (W : WX) (X : Cx) (t : Bool) (m : E) (e : Expr) : Prop := match t with
  | false => PE X e (rdE G Φ γ W m)
  | true => PT X e (rdT G Φ γ W m)
def SdB (G : Gp) (Φ : Str → List Sl → FR) (γ : Str → Option D) (W : WX) (X : Cx) (t cj : Bool) (ms : List E) (e : Expr) : Prop := match t with
  | false => PE X e (rdEB G Φ γ W cj ms)
  | true => PW X e (rdTB G Φ γ W cj ms)
theorem sd_of {sc : Sc} {X : Cx} {W : WX} (C : Cok G mg base c.N k sc X W) {t : Bool} {m : E} {e : Expr} (h : PE X e (rdE G Φ c.γ W m)) (ht : plainT e = true) : Sd G Φ c.γ W X t m e := by
  cases t with
  | false => exact h
  | true => exact t_val C.P C.w C.K h (isTrue_of ht)
theorem sd_cmp {sc : Sc} {X : Cx} {W : WX} (C : Cok G mg base c.N k sc X W) {p : Op} {ms : List E} {e : Expr} {es : List Expr} (hc : isCmp p = true) (h : opParts c sc p ms e = some es) (hp : PEs X (rdE G Φ c.γ W) es ms) : PT X e (rdT G Φ c.γ W (.op p ms)) := by
  unfold opParts at h
  split at h
  · rename_i o ho
    cases p <;> first | (simp [isCmp] at hc; done) | (simp [binOf] at ho; done)
  · split at h
    · rename_i o ho
      split at h
      · rename_i o' es' he
        split at h
        · rename_i e1
          subst e1
          cases h
          unfold asCmp at he
          split at he
          · split at he
            · rename_i hs
              cases he
              obtain ⟨m, n, rfl, ⟨ns, pe⟩, ns2, pe2⟩ := PEs2 hp
              exact t_cmp hc (opR_cmp C.P C.w C.K C.room.units ho) pe pe2 (behind_of hs)
            · cases he
          · cases he
        · cases h
      · cases h
    · split at h
      · rename_i o ho
        split at h
        · rename_i o' es' he
          split at h
          · rename_i e1
            subst e1
            cases h
            unfold asIs at he
            split at he
            · cases he
              obtain ⟨m, rfl, ns, pe⟩ := PEs1 hp
              exact t_is hc (opR_is ho) pe
            · cases he
          · cases h
        · cases h
      · rename_i q2 _ q3
        cases p <;> first | (simp [isCmp] at hc; done) | (simp_all [cmpOf, isOf]; done)
theorem lit_ok {X : Cx} {W : WX} {γ : Str → Option D} {d : D} {e : Expr} (h : ckLit d e = true) : PE X e (rdE G Φ γ W (.lit d)) ∧ plainT e = true := by
  unfold ckLit at h
  split at h
  · have := of_decide_eq_true h; subst this; exact ⟨e_lit pe_int (fun F H => by simp only [relF]), rfl⟩
  · have := of_decide_eq_true h; subst this; exact ⟨e_lit pe_str (fun F H => by simp only [relF]), rfl⟩
  · have := beq_iff_eq.mp h; subst this; exact ⟨e_lit pe_bl (fun F H => by simp only [relF]), rfl⟩
  · exact ⟨e_lit pe_non (fun F H => by simp only [relF]), rfl⟩
  · cases h
theorem mu_ok {sc : Sc} {X : Cx} {W : WX} (C : Cok G mg base c.N k sc X W) {m : Mu} {i : Nat} {ms : List E} {e : Expr} {es : List Expr} (h : asMu c sc m i e = some es) (hp : PEs X (rdE G Φ c.γ W) es ms) : PE X e (rdE G Φ c.γ W (.mu m i ms)) ∧ plainT e = true := by
  unfold asMu at h
  split at h
  · split at h
    · rename_i hb
      simp only [Bool.and_eq_true, decide_eq_true_eq] at hb
      obtain ⟨⟨⟨rfl, hn⟩, hl⟩, har⟩ := hb
      cases h
      obtain ⟨h1, h2, h3, h4⟩ := nameB_ok C hn
      refine ⟨?_, rfl⟩
      have ar0 : es.length = 0 → ms = [] ∧ es = [] := fun z => by
        have : es = [] := List.length_eq_zero_iff.mp z
        subst this
        cases ms with
        | nil => exact ⟨rfl, rfl⟩
        | cons _ _ => exact hp.elim
      have ar1 : es.length = 1 → ∃ a n, es = [a] ∧ ms = [n] ∧ notStar a = true ∧ PE X a (rdE G Φ c.γ W n) := fun z => by
        obtain ⟨a, rfl⟩ := List.length_eq_one_iff.mp z
        obtain ⟨n, rfl, q⟩ := PEs1 hp
        exact ⟨a, n, rfl, rfl, q⟩
      have ar2 : es.length = 2 → ∃ a b n q, es = [a, b] ∧ ms = [n, q] ∧ (notStar a = true ∧ PE X a (rdE G Φ c.γ W n)) ∧ notStar b = true ∧ PE X b (rdE G Φ c.γ W q) := fun z => by
        match es, z with
        | [a, b], _ =>
          obtain ⟨n, q, rfl, r⟩ := PEs2 hp
          exact ⟨a, b, n, q, rfl, rfl, r⟩
      cases m with
      | append =>
        obtain ⟨a, n, rfl, rfl, ns, pe⟩ := ar1 (Option.some.inj har).symm
        exact e_mu1 C.K rfl F.slot_list_append F.type_list_append mu_append h1 h2 h3 h4 hl pe ns
      | extend =>
        obtain ⟨a, n, rfl, rfl, ns, pe⟩ := ar1 (Option.some.inj har).symm
        exact e_mu1 C.K rfl F.slot_list_extend F.type_list_extend mu_extend h1 h2 h3 h4 hl pe ns
      | popAt =>
        obtain ⟨a, n, rfl, rfl, ns, pe⟩ := ar1 (Option.some.inj har).symm
        exact e_mu1 C.K rfl F.slot_list_pop F.type_list_pop mu_popAt h1 h2 h3 h4 hl pe ns
      | pop =>
        obtain ⟨rfl, rfl⟩ := ar0 (Option.some.inj har).symm
        exact e_mu0 C.K rfl F.slot_list_pop F.type_list_pop mu_pop h1 h2 h3 h4 hl
      | reverse =>
        obtain ⟨rfl, rfl⟩ := ar0 (Option.some.inj har).symm
        exact e_mu0 C.K rfl F.slot_list_reverse F.type_list_reverse mu_reverse h1 h2 h3 h4 hl
      | insert =>
        obtain ⟨a, b, n, q, rfl, rfl, ⟨ns, pe⟩, ns2, pe2⟩ := ar2 (Option.some.inj har).symm
        exact e_mu2 C.K rfl F.slot_list_insert F.type_list_insert mu_insert h1 h2 h3 h4 hl pe ns pe2 ns2
      | remove => cases har
      | setdefault => cases har
    · cases h
  · cases h
/-- the block's context -/
theorem Cok.blk {sc : Sc} {X : Cx} {W : WX} (C : Cok G mg base c.N k sc X W) (s : Shared) (H : Hp) (scope : Scope) (A : Addr) (cl : List (Str × Addr)) (fp : List Addr) : Cok G mg base c.N k (blkSc scope sc) (X.blk s H scope (compEnvC scope cl A X.env) fp) W0 :=
  ⟨C.P, C.w, C.K, C.mg, C.base, C.names, by show relS scope X.env.scope = relS scope sc.scope; rw [C.scope], rfl, C.room, C.calm, C.nd, takes0⟩
end
end PF
set_option Elab.async false
set_option linter.all false
set_option maxRecDepth 100000
set_option maxHeartbeats 2000000
/-! PF6c: the checker is sound. -/
namespace PF
open PySem PySem.Spec PyProof.Rows L2
section
variable {G : Gp} {mg : Str → Option Value} {base : Heap} {Φ : Str → List Sl → FR} {k : Nat} {c : Ck}
theorem dct_seq {X : Cx} {W : WX} {m : E} {e tg : Expr} {γ : Str → Option D} (hP : X.prog = G.P) (hw : X.w = G.w) (hK : X.K = G.K) (he : PE X e (rdE G Φ γ W m)) : PI X tg e (fun σ H R => rdE G Φ γ W m σ H fun v H1 => ∃ F env f d ks vs, Rel G F H1 env σ ∧ vOk G F H1 env σ f d v ∧ late f d env = some (.dct ks vs) ∧ ∀ J, ItOk G F H1 env σ ks (lockOf f) J → R J H1) :=
  PI.imp (pi_list he) fun σ H R h => rdE_mono h fun v H1 ⟨_, _, _, _, _, _, Rl, vo, hl, _⟩ => (relR_dct (vo.late Rl hl)).elim
mutual
theorem soundE (T : Top G mg base Φ c.γ c.bns c.fns k) : ∀ (m : E) (t : Bool) (sc : Sc) (X : Cx) (W : WX) (e : Expr), Cok G mg base c.N k sc X W → chkE c sc t m e = true → Sd G Φ c.γ W X t m e
  | .var i, t, sc, X, W, e, C, h => by
    rw [chkE] at h
    unfold ckName at h
    split at h
    · obtain ⟨h1, h2, h3, h4⟩ := nameB_ok C h
      exact sd_of C (e_var h1 h2 h3 h4) rfl
    · cases h
  | .pk i, t, sc, X, W, e, C, h => by
    rw [chkE] at h
    unfold ckName at h
    split at h
    · obtain ⟨h1, h2, h3, h4⟩ := nameB_ok C h
      exact sd_of C (e_pk h1 h2 h3 h4) rfl
    · cases h
  | .lit d, t, sc, X, W, e, C, h => by
    rw [chkE] at h
    obtain ⟨h1, h2⟩ := lit_ok (G := G) (Φ := Φ) (X := X) (W := W) (γ := c.γ) h
    exact sd_of C h1 h2
  | .gl x, t, sc, X, W, e, C, h => by
    rw [chkE] at h
    unfold ckGl at h
    split at h
    · simp only [Bool.and_eq_true, decide_eq_true_eq] at h
      obtain ⟨⟨⟨rfl, h1⟩, h2⟩, h3⟩ := h
      obtain ⟨d, hd⟩ := Option.isSome_iff_exists.mp h3
      obtain ⟨u, v, h4, h5, h6⟩ := T.gl _ _ hd
      exact sd_of C (e_gl (pe_glob (globB_ok C h1) (by rw [C.mg]; exact h4) h5 (noDbg_ok h2).1) hd h6) rfl
    · cases h
  | .tup ms, t, sc, X, W, e, C, h => by
    rw [chkE] at h
    unfold asTup at h
    split at h
    · rename_i es he
      split at he
      · cases he
        exact sd_of C (e_tup (PEs_pa (soundEs T ms sc X W es C h))) rfl
      · cases he
    · cases h
  | .lst ms, t, sc, X, W, e, C, h => by
    rw [chkE] at h
    unfold asLst at h
    split at h
    · rename_i es he
      split at he
      · cases he
        exact sd_of C (e_lst (PEs_pa (soundEs T ms sc X W es C h))) rfl
      · cases he
    · cases h
  | .dnew, t, sc, X, W, e, C, h => by rw [chkE] at h; cases h
  | .op p ms, t, sc, X, W, e, C, h => by
    rw [chkE] at h
    split at h
    · rename_i es he
      rw [Bool.and_eq_true] at h
      have hp := soundEs T ms sc X W es C h.1
      have h2 := h.2
      cases t with
      | false => exact sound_op T C he hp
      | true =>
        cases hc : isCmp p with
        | true => exact sd_cmp C hc he hp
        | false =>
          rw [hc] at h2
          exact sd_of C (sound_op T C he hp) (by simpa using h2)
    · cases h
  | .sl m1 m2 m3, t, sc, X, W, e, C, h => by
    rw [chkE] at h
    unfold asSl at h
    split at h
    · rename_i e1 e2 e3 he
      split at he
      · cases he
        simp only [Bool.and_eq_true] at h
        have h1 := soundE T m1 false sc X W _ C h.1.1
        have h2 := soundE T m2 false sc X W _ C h.1.2
        have h3 := soundE T m3 false sc X W _ C h.2
        exact sd_of C (e_sl C.K h1 h2 h3) rfl
      · cases he
    · cases h
  | .boo cj ms, t, sc, X, W, e, C, h => by
    rw [chkE] at h
    unfold asBoo at h
    split at h
    · rename_i es p he
      rw [Bool.and_eq_true] at h
      have hne : ms ≠ [] := fun z => by rw [z] at h; simp at h
      split at he
      · split at he
        · rename_i hc
          cases he
          subst hc
          have := soundB T ms t true sc X W es p C hne h.2
          cases t with
          | false => exact e_boo this
          | true => exact t_boo this
        · cases he
      · split at he
        · cases he
        · rename_i hc
          have hc : cj = false := by simpa using hc
          cases he
          subst hc
          have := soundB T ms t false sc X W es p C hne h.2
          cases t with
          | false => exact e_boo this
          | true => exact t_boo this
      · cases he
    · cases h
  | .not_ m, t, sc, X, W, e, C, h => by
    rw [chkE] at h
    unfold asNot at h
    split at h
    · rename_i a he
      split at he
      · cases he
        have := soundE T m t sc X W _ C h
        cases t with
        | false => exact e_not this
        | true => exact t_not this
      · cases he
    · cases h
  | .ife m1 m2 m3, t, sc, X, W, e, C, h => by
    rw [chkE] at h
    unfold asIf at h
    split at h
    · rename_i e1 e2 e3 he
      split at he
      · cases he
        simp only [Bool.and_eq_true, Bool.not_eq_true'] at h
        have h1 := soundE T m1 true sc X W _ C h.1.1.2
        have h2 := soundE T m2 false sc X W _ C h.1.2
        have h3 := soundE T m3 false sc X W _ C h.2
        have ht : t = false := h.1.1.1
        subst ht
        exact e_ife h1 h2 h3
      · cases he
    · cases h
  | .get ms, t, sc, X, W, e, C, h => by rw [chkE] at h; cases h
  | .call f ms, t, sc, X, W, e, C, h => by
    rw [chkE] at h
    unfold asCall at h
    split at h
    · rename_i es he
      split at he
      · split at he
        · rename_i hb
          simp only [Bool.and_eq_true, decide_eq_true_eq] at hb
          obtain ⟨⟨⟨rfl, h1⟩, h2⟩, h3⟩ := hb
          cases he
          have hp := soundEs T ms sc X W es C h
          cases es with
          | nil =>
            cases ms with
            | nil => exact sd_of C (e_call0 T C h1 (globB_ok C h2) (noDbg_ok h3).1) rfl
            | cons _ _ => exact hp.elim
          | cons e es =>
            cases ms with
            | nil => exact hp.elim
            | cons m ms => exact sd_of C (e_call T C h1 (globB_ok C h2) (noDbg_ok h3).1 (PEs_star hp) (PEs_pa hp)) rfl
        · cases he
      · cases he
    · cases h
  | .mu m i ms, t, sc, X, W, e, C, h => by
    rw [chkE] at h
    split at h
    · rename_i es he
      obtain ⟨h1, h2⟩ := mu_ok C he (soundEs T ms sc X W es C h)
      exact sd_of C h1 h2
    · cases h
  | .lc vs tt it ifs elt, t, sc, X, W, e, C, h => by
    rw [chkE] at h
    unfold asLc at h
    split at h
    · rename_i e1 tg ite ifes scope he
      split at he
      · cases he
        simp only [Bool.and_eq_true] at h
        obtain ⟨⟨⟨⟨⟨⟨⟨h1, h2⟩, h3⟩, h4⟩, h5⟩, h6⟩, h7⟩, h8⟩ := h
        have ok := blkB_ok h2
        refine sd_of C (PE.imp (pe_lc (own := ownOf c.N vs) (g := gT G.K tt) (tt := rdTs G Φ c.γ W0 ifs) (te := rdE G Φ c.γ W0 elt) C.calm (by rw [C.names]; exact C.nd) (soundI T it sc X W tg ite C h1) (by rw [C.names, C.scope]; exact ok) (fun s H A cl fp => ?_) (fun s H A cl fp => ?_) (fun s H A cl fp => ?_) (folded_of h6)) fun σ H Q hh => ?_) rfl
        · exact tg_ok (C.blk s H scope A cl fp) tt tg h4
        · exact soundTs T ifs (blkSc scope sc) _ W0 ifes (C.blk s H scope A cl fp) h7
        · exact soundE T elt false (blkSc scope sc) _ W0 e1 (C.blk s H scope A cl fp) h8
        · rw [ownOf_snd]
          exact lc_rd (subB_ok h3) hh
      · cases he
    · cases h
  | .lc2 _ _ _ _ _ _ _ _, t, sc, X, W, e, C, h => by rw [chkE] at h; cases h
  | .dc _ _ _ _ _ _, t, sc, X, W, e, C, h => by rw [chkE] at h; cases h
theorem soundEs (T : Top G mg base Φ c.γ c.bns c.fns k) : ∀ (ms : List E) (sc : Sc) (X : Cx) (W : WX) (es : List Expr), Cok G mg base c.N k sc X W → chkEs c sc ms es = true → PEs X (rdE G Φ c.γ W) es ms
  | [], sc, X, W, es, C, h => by
    rw [chkEs] at h
    cases es with
    | nil => trivial
    | cons _ _ => cases h
  | m :: ms, sc, X, W, es, C, h => by
    cases es with
    | nil => simp [chkEs] at h
    | cons e es =>
      simp only [chkEs, Bool.and_eq_true] at h
      exact ⟨⟨h.1.1, soundE T m false sc X W e C h.1.2⟩, soundEs T ms sc X W es C h.2⟩
theorem soundB (T : Top G mg base Φ c.γ c.bns c.fns k) : ∀ (ms : List E) (t cj : Bool) (sc : Sc) (X : Cx) (W : WX) (es : List Expr) (p : Pos), Cok G mg base c.N k sc X W → ms ≠ [] → chkB c sc t ms es = true → SdB G Φ c.γ W X t cj ms (.BoolOp (if cj = true then .And else .Or) es p)
  | [], t, cj, sc, X, W, es, p, C, hn, h => absurd rfl hn
  | m :: ms, t, cj, sc, X, W, es, p, C, hn, h => by
    cases es with
    | nil => simp [chkB] at h
    | cons e es =>
      simp only [chkB, Bool.and_eq_true] at h
      have h1 := soundE T m t sc X W e C h.1
      cases ms with
      | nil =>
        have h2 := h.2
        rw [chkB] at h2
        cases es with
        | cons _ _ => cases h2
        | nil =>
          cases t with
          | false => cases cj <;> exact eb_one h1
          | true =>
            cases cj with
            | false => exact tb_or1 h1
            | true => exact tb_and1 h1
      | cons m2 ms =>
        cases es with
        | nil => simp [chkB] at h
        | cons e2 es =>
          have h2 := soundB T (m2 :: ms) t cj sc X W (e2 :: es) p C (fun z => nomatch z) h.2
          cases t with
          | false =>
            cases cj with
            | false => exact eb_or h1 h2
            | true => exact eb_and h1 h2
          | true =>
            cases cj with
            | false => exact tb_or h1 h2
            | true => exact tb_and h1 h2
theorem soundTs (T : Top G mg base Φ c.γ c.bns c.fns k) : ∀ (ms : List E) (sc : Sc) (X : Cx) (W : WX) (es : List Expr), Cok G mg base c.N k sc X W → chkTs c sc ms es = true → PTs X es (rdTs G Φ c.γ W ms)
  | [], sc, X, W, es, C, h => by
    rw [chkTs] at h
    cases es with
    | nil => exact ts_nil
    | cons _ _ => cases h
  | m :: ms, sc, X, W, es, C, h => by
    rcases es with _ | ⟨e, _ | ⟨e2, r⟩⟩
    · simp [chkTs] at h
    · simp only [chkTs, Bool.and_eq_true] at h
      cases ms with
      | cons _ _ => cases h.1
      | nil => exact ts_one (soundE T m true sc X W e C h.2)
    · simp [chkTs] at h
theorem soundI (T : Top G mg base Φ c.γ c.bns c.fns k) : ∀ (m : It) (sc : Sc) (X : Cx) (W : WX) (tg e : Expr), Cok G mg base c.N k sc X W → chkI c sc m e = true → PI X tg e (rdI G Φ c.γ W m)
  | .seq m, sc, X, W, tg, e, C, h => by
    rw [chkI] at h
    have he := soundE T m false sc X W e C h
    exact i_seq C.K (dct_seq C.P C.w C.K he) he
  | .rng1 m, sc, X, W, tg, e, C, h => by
    rw [chkI] at h
    unfold asRng1 at h
    split at h
    · rename_i a he
      split at he
      · split at he
        · rename_i hb
          rw [Bool.and_eq_true] at hb
          cases he
          obtain ⟨rfl, hg, hm⟩ := bi_ok T C hb.1
          exact i_rng1 hg hm (soundE T m false sc X W _ C h) hb.2
        · cases he
      · cases he
    · cases h
  | .rng2 _, sc, X, W, tg, e, C, h => by rw [chkI] at h; cases h
  | .zip _, sc, X, W, tg, e, C, h => by rw [chkI] at h; cases h
  | .enum _, sc, X, W, tg, e, C, h => by rw [chkI] at h; cases h
  | .items _, sc, X, W, tg, e, C, h => by rw [chkI] at h; cases h
end
end
end PF
set_option Elab.async false
set_option linter.all false
set_option maxRecDepth 100000
set_option maxHeartbeats 2000000
/-! PF6d: the checker of statements. -/
namespace PF
open PySem PySem.Spec PyProof.Rows L2

/-- a comprehension that is stored in a name: whether the stores are exchanged -/
def swapB (sc : Sc) (x : Str) (px : Pos) : Expr → Bool
  | .ListComp _ _ s p => kindIs .local (sc.scope.names.lookup x) && px.line == p.line && !(s.names.any fun (n, k) => n == x && (k == .local || k == .cell))
  | .SetComp _ _ s p => kindIs .local (sc.scope.names.lookup x) && px.line == p.line && !(s.names.any fun (n, k) => n == x && (k == .local || k == .cell))
  | .DictComp _ _ _ s p => kindIs .local (sc.scope.names.lookup x) && px.line == p.line && !(s.names.any fun (n, k) => n == x && (k == .local || k == .cell))
  | _ => false
theorem swapB_ok {sc : Sc} {env : PySem.Env} {x : Str} {px : Pos} {e : Expr} {ln : Nat} (h1 : env.scope = sc.scope) (h2 : env.blockKind = .function) : swapsWith e (some (.Name x px)) ln env = pure (swapB sc x px e) := by
  have key : ∀ (s : Scope) (p : Pos), (env.blockKind == .function && env.kindOf x == some .local && px.line == p.line && !(s.names.any fun (n, k) => n == x && (k == .local || k == .cell))) = (kindIs .local (sc.scope.names.lookup x) && px.line == p.line && !(s.names.any fun (n, k) => n == x && (k == .local || k == .cell))) := fun s p => by
    have e1 : (env.kindOf x == some NameKind.local) = kindIs .local (sc.scope.names.lookup x) := by
      unfold Env.kindOf kindIs
      rw [h1]
      cases q : sc.scope.names.lookup x with
      | none => rfl
      | some k => cases k <;> rfl
    rw [h2, e1]
    rfl
  cases e with
  | ListComp elt gs s p => show (pure _ : Sem Bool) = _; exact congrArg pure (key s p)
  | SetComp elt gs s p => show (pure _ : Sem Bool) = _; exact congrArg pure (key s p)
  | DictComp a b gs s p => show (pure _ : Sem Bool) = _; exact congrArg pure (key s p)
  | _ => rfl
theorem sole_of {t e : Expr} {l : Nat} {env : PySem.Env} (h : notComp e = true) : swapsWithSole [t] e l env = pure false := by
  show swapsWith e (some t) l env = pure false
  exact swaps_of h
def asAsg : Stmt → Option (Str × Pos × Expr × Pos)
  | .Assign [.Name x px] e pos => some (x, px, e, pos)
  | _ => none
def asAsgT : Stmt → Option (Expr × Expr)
  | .Assign [tg] e _ => some (tg, e)
  | _ => none
def asSetI : Stmt → Option (Str × Expr × Expr)
  | .Assign [.Subscript (.Name x _) k _] e _ => some (x, k, e)
  | _ => none
def asAug : Stmt → Option (Str × Expr)
  | .AugAssign (.Name x _) .Add e _ => some (x, e)
  | _ => none
def asEx : Stmt → Option Expr
  | .Expr e _ => some e
  | _ => none
def asRet : Stmt → Option Expr
  | .Return (some e) _ => some e
  | _ => none
def isRetN : Stmt → Bool
  | .Return none _ => true
  | _ => false
def asIfS : Stmt → Option (Expr × List Stmt × List Stmt)
  | .If c a b _ => some (c, a, b)
  | _ => none
def asFor : Stmt → Option (Expr × Expr × List Stmt)
  | .For tg it b [] _ => some (tg, it, b)
  | _ => none
def asWhl : Stmt → Option (Expr × List Stmt)
  | .While c b [] _ => some (c, b)
  | _ => none
def isBrk : Stmt → Bool
  | .Break _ => true
  | _ => false
def isCnt : Stmt → Bool
  | .Continue _ => true
  | _ => false
def isPas : Stmt → Bool
  | .Pass _ => true
  | _ => false
def isFrz : S → Bool
  | .frz _ => true
  | _ => false
def isTupT : T → Bool
  | .tup _ => true
  | _ => false
/-- what is not a list comprehension, or is one that is stored plainly -/
def asgB (c : Ck) (sc : Sc) (refs : List Nat) (i : Nat) (m : E) (q : Str × Pos × Expr × Pos) : Bool :=
  !refs.contains i && atB c i q.1 && locB sc q.1 && chkE c sc false m q.2.2.1 && (notComp q.2.2.1 || !(swapB sc q.1 q.2.1 q.2.2.1) || (match m with
    | .lc _ _ _ _ _ => kindIs .local (sc.scope.names.lookup q.1)
    | _ => false))
mutual
def chkS (c : Ck) (sc : Sc) (refs : List Nat) : S → Stmt → Bool
  | .asg i m, st => match asAsg st with
    | some q => asgB c sc refs i m q
    | none => false
  | .asgT t m, st => match asAsgT st with
    | some (tg, e) => isTupT t && tgB c sc t tg && notStar tg && (tvars t).all (fun j => !refs.contains j) && notTup e && notComp e && chkE c sc false m e
    | none => false
  | .setI i k m, st => match asSetI st with
    | some (x, ke, e) => nameB c sc i x && notSlice ke && notComp e && chkE c sc false k ke && chkE c sc false m e
    | none => false
  | .delI _ _, _ => false
  | .aug i p m, st => match asAug st with
    | some (x, e) => decide (p = .add) && !refs.contains i && atB c i x && locB sc x && chkE c sc false m e
    | none => false
  | .ex m, st => match asEx st with
    | some e => notComp e && chkE c sc false m e
    | none => false
  | .ret m, st => match asRet st with
    | some e => chkE c sc false m e
    | none => false
  | .retV i, st => match asRet st with
    | some e => ckName c sc i e
    | none => false
  | .retN, st => isRetN st
  | .iff m a b, st => match asIfS st with
    | some (e, x, y) => chkE c sc true m e && chkSs c sc refs a x && chkSs c sc refs b y
    | none => false
  | .for_ t it b, st => match asFor st with
    | some (tg, ie, x) => tgB c sc t tg && notStar tg && notSet ie && (tvars t).all (fun j => !refs.contains j) && chkI c sc it ie && chkSs c sc refs b x
    | none => false
  | .whl m b, st => match asWhl st with
    | some (e, x) => chkE c sc true m e && chkSs c sc refs b x
    | none => false
  | .brk, st => isBrk st
  | .cnt, st => isCnt st
  | .pas, st => isPas st
  | .frz _, _ => false
def chkSs (c : Ck) (sc : Sc) (refs : List Nat) : List S → List Stmt → Bool
  | [], sts => sts.isEmpty
  | s :: ss, sts => if isFrz s then chkSs c sc refs ss sts else match sts with
    | [] => false
    | st :: sts => chkS c sc refs s st && chkSs c sc refs ss sts
end
section
variable {G : Gp} {mg : Str → Option Value} {base : Heap} {Φ : Str → List Sl → FR} {k : Nat} {c : Ck} {sc : Sc} {X : Cx} {W : WX} {refs : List Nat}
theorem notIn_of {r : List Nat} {i : Nat} (h : (!r.contains i) = true) : i ∉ r := by
  simpa [List.contains_eq_mem] using h
theorem allNot_of {r vs : List Nat} (h : vs.all (fun j => !r.contains j) = true) : ∀ j ∈ vs, j ∉ r := fun j hj => notIn_of (List.all_eq_true.mp h j hj)
/-- the rest of the context of a def's body -/
structure Dok (X : Cx) : Prop where
  own : PassesOwn (model X.prog X.w) X.A X.env X.xe
  blk : X.env.blockKind = .function
theorem dct_set {X : Cx} (hP : X.prog = G.P) (hw : X.w = G.w) (hK : X.K = G.K) (hu : X.A.units + 64 < cLine) : PSet X (fun o iv v H Q => rSet G o iv v H Q ∧ ∃ F ks vs a, o = .ref a ∧ relO G F H (.dct ks vs) a) := fun _ _ _ _ _ _ _ _ _ _ _ _ _ _ _ ⟨_, _, _, _, _, _, h⟩ => by
  obtain ⟨_, _, h1, _⟩ := h
  exact (DHolds_off h1).elim
theorem sound_asg (T : Top G mg base Φ c.γ c.bns c.fns k) (C : Cok G mg base c.N k sc X W) (Dk : Dok X) {i : Nat} {m : E} {q : Str × Pos × Expr × Pos} (h : asgB c sc refs i m q = true) : PS X (.Assign [.Name q.1 q.2.1] q.2.2.1 q.2.2.2) (rdS G Φ c.γ refs W (.asg i m)) := by
  obtain ⟨x, px, e, pos⟩ := q
  unfold asgB at h
  simp only [Bool.and_eq_true] at h
  obtain ⟨⟨⟨⟨h1, h2⟩, h3⟩, h4⟩, h5⟩ := h
  have hr := notIn_of h1
  have hN := atB_ok C h2
  obtain ⟨hl, hf⟩ := locB_ok C h3
  have nd : X.N.Nodup := by rw [C.names]; exact C.nd
  have he := soundE T m false sc X W e C h4
  have plain : swapsWith e (some (.Name x px)) pos.line X.env = pure false → PS X (.Assign [.Name x px] e pos) (rdS G Φ c.γ refs W (.asg i m)) := fun hs => s_asg hr nd hN hl he hs hf
  simp only [Bool.or_eq_true] at h5
  rcases h5 with (h5 | h5) | h5
  · exact plain (swaps_of h5)
  · refine plain ?_
    rw [swapB_ok C.scope Dk.blk]
    rw [Bool.not_eq_true'] at h5
    rw [h5]
  · cases hsw : swapB sc x px e with
    | false => exact plain (by rw [swapB_ok C.scope Dk.blk, hsw])
    | true =>
      cases m with
      | lc vs tt it ifs elt =>
        have hloc : X.env.scope.names.lookup x = some .local := by rw [C.scope]; exact kindIs_ok h5
        rw [chkE] at h4
        unfold asLc at h4
        split at h4
        · rename_i e1 tg ite ifes scope hee
          split at hee
          · cases hee
            simp only [Bool.and_eq_true] at h4
            obtain ⟨⟨⟨⟨⟨⟨⟨g1, g2⟩, g3⟩, g4⟩, g5⟩, g6⟩, g7⟩, g8⟩ := h4
            have ok := blkB_ok g2
            refine PS.imp (ps_setLc (own := ownOf c.N vs) (g := gT G.K tt) (tt := rdTs G Φ c.γ W0 ifs) (te := rdE G Φ c.γ W0 elt) C.calm nd hN hloc (by rw [swapB_ok C.scope Dk.blk, hsw]) (soundI T it sc X W tg ite C g1) (by rw [C.names, C.scope]; exact ok) (fun s H A cl fp => ?_) (fun s H A cl fp => ?_) (fun s H A cl fp => ?_) (folded_of g6)) fun D σ H hh => ?_
            · exact tg_ok (C.blk s H scope A cl fp) tt tg g4
            · exact soundTs T ifs (blkSc scope sc) _ W0 ifes (C.blk s H scope A cl fp) g7
            · exact soundE T elt false (blkSc scope sc) _ W0 e1 (C.blk s H scope A cl fp) g8
            · rw [ownOf_snd]
              exact lc_rd (subB_ok g3) (asg_rd hr hh)
          · cases hee
        · cases h4
      | _ => cases h5
mutual
theorem soundS (T : Top G mg base Φ c.γ c.bns c.fns k) (C : Cok G mg base c.N k sc X W) (Dk : Dok X) : ∀ (s : S) (st : Stmt), chkS c sc refs s st = true → PS X st (rdS G Φ c.γ refs W s)
  | .asg i m, st, h => by
    rw [chkS] at h
    unfold asAsg at h
    split at h
    · rename_i q hq
      split at hq
      · cases hq; exact sound_asg T C Dk h
      · cases hq
    · cases h
  | .asgT t m, st, h => by
    rw [chkS] at h
    unfold asAsgT at h
    split at h
    · rename_i tg e hq
      split at hq
      · cases hq
        simp only [Bool.and_eq_true] at h
        obtain ⟨⟨⟨⟨⟨⟨h0, h1⟩, h2⟩, h3⟩, h4⟩, h5⟩, h6⟩ := h
        have ht : ∃ es x p, tg = .Tuple es x p := by
          cases t with
          | nm _ => cases h0
          | tup ts => cases tg <;> first | exact ⟨_, _, _, rfl⟩ | simp [tgB] at h1
        obtain ⟨es, x, p, rfl⟩ := ht
        exact s_asgT (allNot_of h3) C.K (soundE T m false sc X W _ C h6) (tg_ok C t _ h1) (sole_of h5) (by cases e <;> first | rfl | cases h4) rfl
      · cases hq
    · cases h
  | .setI i kk m, st, h => by
    rw [chkS] at h
    unfold asSetI at h
    split at h
    · rename_i x ke e hq
      split at hq
      · cases hq
        simp only [Bool.and_eq_true] at h
        obtain ⟨⟨⟨⟨h1, h2⟩, h3⟩, h4⟩, h5⟩ := h
        obtain ⟨n1, n2, n3, n4⟩ := nameB_ok C h1
        exact s_setI (pset_all (dct_set C.P C.w C.K C.room.units)) n1 n2 n3 n4 (soundE T m false sc X W _ C h5) (soundE T kk false sc X W _ C h4) (sole_of h3) rfl (by intro v; cases ke <;> first | rfl | cases h2)
      · cases hq
    · cases h
  | .delI _ _, st, h => by rw [chkS] at h; cases h
  | .aug i p m, st, h => by
    rw [chkS] at h
    unfold asAug at h
    split at h
    · rename_i x e hq
      split at hq
      · cases hq
        simp only [Bool.and_eq_true, decide_eq_true_eq] at h
        obtain ⟨⟨⟨⟨rfl, h1⟩, h2⟩, h3⟩, h4⟩ := h
        obtain ⟨hl, hf⟩ := locB_ok C h3
        exact s_aug (notIn_of h1) (by rw [C.names]; exact C.nd) (atB_ok C h2) hl (soundE T m false sc X W _ C h4) hf
      · cases hq
    · cases h
  | .ex m, st, h => by
    rw [chkS] at h
    unfold asEx at h
    split at h
    · rename_i e hq
      split at hq
      · cases hq
        simp only [Bool.and_eq_true] at h
        exact s_ex (soundE T m false sc X W _ C h.2) (swaps_of h.1)
      · cases hq
    · cases h
  | .ret m, st, h => by
    rw [chkS] at h
    unfold asRet at h
    split at h
    · rename_i e hq
      split at hq
      · cases hq
        exact s_ret (soundE T m false sc X W _ C h)
      · cases hq
    · cases h
  | .retV i, st, h => by
    rw [chkS] at h
    unfold asRet at h
    split at h
    · rename_i e hq
      split at hq
      · cases hq
        unfold ckName at h
        split at h
        · obtain ⟨n1, n2, n3, n4⟩ := nameB_ok C h
          exact s_retV n1 n2 n3 n4
        · cases h
      · cases hq
    · cases h
  | .retN, st, h => by
    rw [chkS] at h
    unfold isRetN at h
    split at h
    · exact s_retN
    · cases h
  | .iff m a b, st, h => by
    rw [chkS] at h
    unfold asIfS at h
    split at h
    · rename_i e x y hq
      split at hq
      · cases hq
        simp only [Bool.and_eq_true] at h
        exact s_if (soundE T m true sc X W _ C h.1.1) (soundSs T C Dk a _ h.1.2) (soundSs T C Dk b _ h.2)
      · cases hq
    · cases h
  | .for_ t it b, st, h => by
    rw [chkS] at h
    unfold asFor at h
    split at h
    · rename_i tg ie x hq
      split at hq
      · cases hq
        simp only [Bool.and_eq_true] at h
        obtain ⟨⟨⟨⟨⟨h1, h2⟩, h3⟩, h4⟩, h5⟩, h6⟩ := h
        exact s_for (allNot_of h4) C.K Dk.own C.calm (soundI T it sc X W _ _ C h5) (tg_ok C t _ h1) (soundSs T C Dk b _ h6) (folded_of h3)
      · cases hq
    · cases h
  | .whl m b, st, h => by
    rw [chkS] at h
    unfold asWhl at h
    split at h
    · rename_i e x hq
      split at hq
      · cases hq
        simp only [Bool.and_eq_true] at h
        exact s_while Dk.own (soundE T m true sc X W _ C h.1) (soundSs T C Dk b _ h.2)
      · cases hq
    · cases h
  | .brk, st, h => by
    rw [chkS] at h
    unfold isBrk at h
    split at h
    · exact s_break
    · cases h
  | .cnt, st, h => by
    rw [chkS] at h
    unfold isCnt at h
    split at h
    · exact s_continue
    · cases h
  | .pas, st, h => by
    rw [chkS] at h
    unfold isPas at h
    split at h
    · exact s_pass
    · cases h
  | .frz _, st, h => by rw [chkS] at h; cases h
theorem soundSs (T : Top G mg base Φ c.γ c.bns c.fns k) (C : Cok G mg base c.N k sc X W) (Dk : Dok X) : ∀ (ss : List S) (sts : List Stmt), chkSs c sc refs ss sts = true → PSs X sts (rdSs G Φ c.γ refs W ss)
  | [], sts, h => by
    rw [chkSs] at h
    cases sts with
    | nil => exact s_nil
    | cons _ _ => cases h
  | s :: ss, sts, h => by
    rw [chkSs.eq_def] at h
    simp only at h
    split at h
    · rename_i hf
      cases s with
      | frz i => exact s_frz (soundSs T C Dk ss sts h)
      | _ => cases hf
    · cases sts with
      | nil => cases h
      | cons st sts =>
        simp only [Bool.and_eq_true] at h
        exact s_cons (soundS T C Dk s st h.1) (soundSs T C Dk ss sts h.2)
end
end
end PF
set_option Elab.async false
set_option linter.all false
set_option maxRecDepth 100000
set_option maxHeartbeats 1000000
/-! PF7: defs. -/
namespace PF
open PySem PySem.Spec PyProof.Rows L2
section
variable {G : Gp} {F F' : Addr → Prop} {H H' : Hp} {as : List Sl} {vs : List V}
theorem outsFrom_get (refs : List Nat) (e : Env) : ∀ (n j i : Nat), getS (outsFrom refs j n e) i = if i < n ∧ refs.contains (j + i) = true then getS e (j + i) else .non
  | 0, j, i => by
    rw [if_neg fun q => absurd q.1 (Nat.not_lt_zero _)]
    cases i <;> rfl
  | n + 1, j, 0 => by
    show (if refs.contains j then getS e j else .non) = _
    by_cases h : refs.contains j = true
    · rw [if_pos h, if_pos ⟨Nat.succ_pos _, h⟩]; rfl
    · rw [if_neg h, if_neg fun q => h q.2]
  | n + 1, j, i + 1 => by
    show getS (outsFrom refs (j + 1) n e) i = _
    rw [outsFrom_get refs e n (j + 1) i]
    have e1 : j + 1 + i = j + (i + 1) := by omega
    rw [e1]
    simp only [Nat.add_lt_add_iff_right]
theorem outsOf_get (refs : List Nat) (e : Env) (n i : Nat) : getS (outsOf refs n e) i = if i < n ∧ refs.contains i = true then getS e i else .non := by
  unfold outsOf
  rw [outsFrom_get]
  simp only [Nat.zero_add]
theorem outsFrom_len (refs : List Nat) (e : Env) : ∀ (n j : Nat), (outsFrom refs j n e).length = n
  | 0, j => rfl
  | n + 1, j => by
    show (outsFrom refs (j + 1) n e).length + 1 = _
    rw [outsFrom_len refs e n (j + 1)]
theorem getS_app : ∀ (as : List Sl) (r : List Sl) (j : Nat), getS (as ++ r) j = if j < as.length then getS as j else getS r (j - as.length)
  | [], r, j => by simp
  | a :: as, r, 0 => by simp [getS]
  | a :: as, r, j + 1 => by
    show getS (as ++ r) j = _
    rw [getS_app as r j]
    simp only [List.length_cons, Nat.add_lt_add_iff_right, Nat.add_sub_add_right]
    rfl
theorem getS_rep : ∀ (n j : Nat), getS (List.replicate n Sl.non) j = .non
  | 0, j => by cases j <;> rfl
  | n + 1, 0 => rfl
  | n + 1, j + 1 => getS_rep n j
theorem argsOk_get {refs : List Nat} : ∀ {as : List Sl} {j : Nat}, argsOk refs j as = true → ∀ i, isOwn (getS as i) = true → refs.contains (j + i) = true
  | [], j, _, i, h => by cases i <;> cases h
  | a :: as, j, h, 0, hi => by
    unfold argsOk at h
    simp only [Bool.and_eq_true, Bool.or_eq_true, Bool.not_eq_true'] at h
    have hi : isOwn a = true := hi
    rcases h.1 with q | q
    · exact q
    · rw [hi] at q; cases q
  | a :: as, j, h, i + 1, hi => by
    unfold argsOk at h
    simp only [Bool.and_eq_true] at h
    have := argsOk_get h.2 i hi
    have e1 : j + 1 + i = j + (i + 1) := by omega
    rw [e1] at this
    exact this
/-- the slots at a def's entry -/
theorem entry {N : List Str} {n : Nat} (R : Rel G F H as (vs.map some)) (hn : n = N.length) (hl : vs.length ≤ N.length) :
    Rel G F H (as ++ List.replicate (n - as.length) .non) (L2.start N vs) ∧ (∀ j, j < as.length → getS (as ++ List.replicate (n - as.length) .non) j = getS as j ∧ slAt (L2.start N vs) j = slAt (vs.map some) j) ∧ ∀ j, as.length ≤ j → getS (as ++ List.replicate (n - as.length) .non) j = .non := by
  have la : as.length = vs.length := by have := R.len; rw [List.length_map] at this; exact this
  have g1 : ∀ j, j < as.length → getS (as ++ List.replicate (n - as.length) .non) j = getS as j := fun j hj => by rw [getS_app, if_pos hj]
  have g2 : ∀ j, as.length ≤ j → getS (as ++ List.replicate (n - as.length) .non) j = .non := fun j hj => by rw [getS_app, if_neg (by omega), getS_rep]
  have s1 : ∀ j, j < as.length → slAt (L2.start N vs) j = slAt (vs.map some) j := fun j hj => by
    unfold slAt L2.start
    rw [List.getElem?_append_left (by rw [List.length_map]; omega)]
  have own : ∀ j, isOwn (getS (as ++ List.replicate (n - as.length) .non) j) = true → j < as.length := fun j hj => by
    by_cases z : j < as.length
    · exact z
    · rw [g2 j (by omega)] at hj; cases hj
  refine ⟨⟨?_, fun j => ?_, fun i j a hi hj ei ej => ?_, R.fin⟩, fun j hj => ⟨g1 j hj, s1 j hj⟩, g2⟩
  · unfold L2.start
    simp only [List.length_append, List.length_replicate, List.length_map]
    omega
  · by_cases z : j < as.length
    · rw [g1 j z, s1 j z]; exact R.slot j
    · rw [g2 j (by omega)]; trivial
  · have h1 := own i hi
    have h2 := own j hj
    rw [g1 i h1] at hi; rw [g1 j h2] at hj; rw [s1 i h1] at ei; rw [s1 j h2] at ej
    exact R.one i j a hi hj ei ej
/-- .. at its end -/
theorem exit {refs : List Nat} {E0 e' : Env} {σ0 σ' : L2.St} {ps : Nat} (hps : ps = as.length) (R : Rel G F H as (vs.map some)) (h1 : ∀ j, j < as.length → getS E0 j = getS as j ∧ slAt σ0 j = slAt (vs.map some) j) (h2 : ∀ j, as.length ≤ j → getS E0 j = .non) (P : PstR G refs F H E0 σ0 F' H' e' σ') :
    Pst G F H as (vs.map some) F' H' (outsOf refs ps e') (vs.map some) := by
  subst hps
  have ml : ∀ a, Ml E0 σ0 a → Ml as (vs.map some) a := fun a ⟨j, q1, q2⟩ => by
    by_cases z : j < as.length
    · rw [(h1 j z).1] at q1; rw [(h1 j z).2] at q2; exact ⟨j, q1, q2⟩
    · rw [h2 j (by omega)] at q1; cases q1
  have mo : ∀ a, Mo E0 σ0 a → Mo as (vs.map some) a := fun a ⟨j, d, q1, q2⟩ => by
    by_cases z : j < as.length
    · rw [(h1 j z).1] at q1; rw [(h1 j z).2] at q2; exact ⟨j, d, q1, q2⟩
    · rw [h2 j (by omega)] at q1; cases q1
  have at_ : ∀ j, getS (outsOf refs as.length e') j = .non ∨ (getS (outsOf refs as.length e') j = getS e' j ∧ slAt (vs.map some) j = slAt σ' j ∧ j < as.length) := fun j => by
    rw [outsOf_get]
    split
    · rename_i hj
      refine .inr ⟨rfl, ?_, hj.1⟩
      have hm : j ∈ refs := by simpa [List.contains_eq_mem] using hj.2
      rw [P.2 j hm, (h1 j hj.1).2]
    · exact .inl rfl
  have own : ∀ j, isOwn (getS (outsOf refs as.length e') j) = true → getS (outsOf refs as.length e') j = getS e' j ∧ slAt (vs.map some) j = slAt σ' j ∧ j < as.length := fun j hj => by
    rcases at_ j with z | z
    · rw [z] at hj; cases hj
    · exact z
  refine ⟨P.1.ext.weak mo, ⟨by unfold outsOf; rw [outsFrom_len]; exact R.len, fun j => ?_, fun i j a hi hj ei ej => ?_, P.1.rel.fin⟩, fun a ⟨j, q1, q2⟩ => ?_, fun a ⟨j, d, q1, q2⟩ => ?_, fun j d q => ?_⟩
  · rcases at_ j with z | ⟨z1, z2, _⟩
    · rw [z]; trivial
    · rw [z1, z2]; exact P.1.rel.slot j
  · obtain ⟨a1, a2, _⟩ := own i hi
    obtain ⟨b1, b2, _⟩ := own j hj
    rw [a1] at hi; rw [b1] at hj; rw [a2] at ei; rw [b2] at ej
    exact P.1.rel.one i j a hi hj ei ej
  · obtain ⟨a1, a2, _⟩ := own j q1
    rw [a1] at q1; rw [a2] at q2
    exact (P.1.mo a ⟨j, q1, q2⟩).imp_left (ml a)
  · obtain ⟨a1, a2, _⟩ := own j (by rw [q1]; rfl)
    rw [a1] at q1; rw [a2] at q2
    exact (P.1.mw a ⟨j, d, q1, q2⟩).imp_left (mo a)
  · obtain ⟨a1, a2, a3⟩ := own j (by rw [q]; rfl)
    rw [a1] at q
    have := (P.1.lk j d q).1
    rw [(h1 j a3).1] at this
    exact ⟨this, rfl⟩
/-- what a def answers, from how its body ends -/
theorem body_end {refs : List Nat} {E0 : Env} {σ0 : L2.St} {ps : Nat} {r : RS} {Q : VK} {E : XK} (hps : ps = as.length) (R : Rel G F H as (vs.map some)) (h1 : ∀ j, j < as.length → getS E0 j = getS as j ∧ slAt σ0 j = slAt (vs.map some) j) (h2 : ∀ j, as.length ≤ j → getS E0 j = .non)
    (hargs : argsOk refs 0 as = true) (k : kF G F H as vs Q E (r.out refs ps as)) : kS G refs (fun cls d _ H => E cls d H) F H E0 σ0 { nx := fun _ H' => Q .non H', rt := Q } r := by
  cases r with
  | nx e' => exact fun F' H' σ' P => k F' H' _ (exit hps R h1 h2 P) (by rw [if_neg Bool.false_ne_true]; simp only [relF])
  | bk e' => exact k.elim
  | ct e' => exact k.elim
  | ex x e' => exact fun F' H' σ' cls dd P hx => k F' H' cls dd (exit hps R h1 h2 P) hx
  | st => exact k.elim
  | rt o d e' =>
    intro F' H' σ' v P hv
    have X0 := exit hps R h1 h2 P
    unfold retOk at hv
    cases o with
    | false =>
      rw [if_neg Bool.false_ne_true] at hv
      exact k F' H' v X0 (by rw [Bool.false_and, if_neg Bool.false_ne_true]; exact hv)
    | true =>
      rw [if_pos rfl] at hv
      obtain ⟨a, ea, nF, nM, ro, ho⟩ := hv
      have k : kF G F H as vs Q E (.ok (true && keptO refs as e') d (outsOf refs ps e')) := k
      rw [Bool.true_and] at k
      cases hk : keptO refs as e' with
      | true =>
        rw [hk] at k
        refine k F' H' v X0 ?_
        rw [if_pos rfl]
        have hn : H a = none := by
          rcases ho with ⟨j, d', q1, q2⟩ | z
          · exfalso
            by_cases z : j < as.length
            · rw [(h1 j z).1] at q1
              have hr := argsOk_get hargs j (by rw [q1]; rfl)
              rw [Nat.zero_add] at hr
              have hm : j ∈ refs := by simpa [List.contains_eq_mem] using hr
              unfold keptO at hk
              have hkj := List.all_eq_true.mp hk j hm
              rw [q1] at hkj
              have hkj : isOwn (getS e' j) = true := by simpa [isOwn] using hkj
              exact nM ⟨j, hkj, by rw [P.2 j hm]; exact q2⟩
            · rw [h2 j (by omega)] at q1; cases q1
          · exact z
        refine ⟨a, ea, nF, hn, fun ⟨j, q1, q2⟩ => ?_, ro⟩
        rw [outsOf_get] at q1
        split at q1
        · rename_i hj
          have hm : j ∈ refs := by simpa [List.contains_eq_mem] using hj.2
          have hlt : j < as.length := by rw [← hps]; exact hj.1
          exact nM ⟨j, q1, by rw [P.2 j hm, (h1 j hlt).2]; exact q2⟩
        · cases q1
      | false =>
        rw [hk] at k
        obtain ⟨⟨o, hoo⟩, _⟩ := relO_there ro
        have P2 : PstR G refs F H E0 σ0 (fun b => F' b ∨ b = a) H' e' σ' := ⟨P.1.freeze fun b hb => by rw [hb]; exact ⟨nM, by rw [hoo]; exact (fun z => nomatch z), ho⟩, P.2⟩
        refine k _ H' v (exit hps R h1 h2 P2) ?_
        rw [if_neg Bool.false_ne_true, ea]
        exact relF_of_relO (relO_sub (fun _ z => .inl z) ro) (.inr rfl)
end
/-- a def keeps its promise -/
theorem fn_ok {G : Gp} {mg : Str → Option Value} {base : Heap} {Φ : Str → List Sl → FR} {k : Nat} {c : Ck} {x qual : Str} {params : Arguments} {body : List Stmt} {scope : Scope} {ps : List Str} {f : Addr} {fd : FuncData} {fn : Fn}
    (T : Top G mg base Φ c.γ c.bns c.fns k) (FD : FunD G.K x qual params body scope [] [] f fd) (S : FnScope c.N ps scope) (hps : fn.ps = ps.length) (hn : fn.n = c.N.length) (hc : chkSs c ⟨scope, fun _ => true⟩ fn.refs fn.body body = true) :
    FnOk G.P G.w G.K mg base (L2.CX G.P G.w) (k + 1) f fd ps (spOf G (fn.run Φ c.γ) ps.length) := by
  refine FunD.ok FD S (fun vs H Q E h => h.1) fun cdv A outer s H vs Q E hr h => ?_
  refine ⟨rdSs G Φ c.γ fn.refs (fun cls d _ H => E cls d H) fn.body, ?_, ?_⟩
  · refine soundSs T (W := fun cls d _ H => E cls d H) ⟨rfl, rfl, rfl, rfl, rfl, rfl, rfl, rfl, hr, rfl, S.nd, takes_of rfl rfl rfl rfl⟩ ⟨passes_of rfl, ?_⟩ _ _ hc
    show Env.blockKind (envOfC qual scope s.heap.objs.size f cdv) = .function
    unfold Env.blockKind
    have e : (envOfC qual scope s.heap.objs.size f cdv).scope.kind = .function := S.kind
    rw [e]; rfl
  · obtain ⟨hl, F, as, R, kk⟩ := h
    have hpl : ps.length ≤ c.N.length := by have := congrArg List.length S.pre; rw [List.length_take] at this; omega
    have la : as.length = vs.length := by have := R.len; rw [List.length_map] at this; exact this
    unfold Fn.run at kk
    split at kk
    · rename_i hh
      simp only [Bool.and_eq_true, decide_eq_true_eq] at hh
      obtain ⟨R0, h1, h2⟩ := entry (N := c.N) (n := fn.n) R hn (by omega)
      rw [← hh.1] at kk
      exact ⟨F, _, R0, body_end rfl R h1 h2 hh.2 kk⟩
    · exact kk.elim
end PF
set_option Elab.async false
set_option linter.all false
set_option maxRecDepth 100000
set_option maxHeartbeats 1000000
/-! PF8: the top. -/
namespace PF
open PySem PySem.Spec PyProof.Rows L2

/-- a def as a datum -/
structure Df where
  name : Str
  N : List Str
  ps : List Str
  fn : Fn
  params : Arguments
  body : List Stmt
  scope : Scope
def Df.he (d : Df) : He.DefD := ⟨(d.name, none), d.name, d.name, d.params, d.body, d.scope, [], []⟩
def findD : List Df → Str → Option Df
  | [], _ => none
  | d :: r, f => if decide (d.name = f) then some d else findD r f
def tabOf (ds : List Df) (f : Str) : Option Fn := (findD ds f).map (·.fn)
def fnsOf (ds : List Df) (f : Str) : Bool := (findD ds f).isSome
def γOf : List (Str × D) → Str → Option D
  | [], _ => none
  | (y, d) :: r, x => if decide (y = x) then some d else γOf r x
def fnScB (d : Df) : Bool :=
  decide (d.scope.kind = .function) && !d.scope.isCoroutine && !d.scope.isGenerator && decide d.N.Nodup && decide (d.N.take d.ps.length = d.ps) && d.ps.all (fun x => kindIs .local (d.scope.names.lookup x) || kindIs .cell (d.scope.names.lookup x)) && d.scope.names.all (fun y => !decide (y.2 = .free))
theorem fnScB_ok {d : Df} (h : fnScB d = true) : FnScope d.N d.ps d.scope := by
  unfold fnScB at h
  simp only [Bool.and_eq_true, decide_eq_true_eq, Bool.not_eq_true'] at h
  obtain ⟨⟨⟨⟨⟨⟨h1, h2⟩, h3⟩, h4⟩, h5⟩, h6⟩, h7⟩ := h
  refine ⟨h1, h2, h3, h4, h5, fun x hx => ?_, fun y hy => ?_⟩
  · have := List.all_eq_true.mp h6 x hx
    rw [Bool.or_eq_true] at this
    exact this.imp kindIs_ok kindIs_ok
  · have := List.all_eq_true.mp h7 y hy
    simpa using this
def Df.ckOf (d : Df) (ds : List Df) (bns : List Str) (cs : List (Str × D)) : Ck := ⟨d.N, bns, fnsOf ds, γOf cs⟩
def Df.ok (ds : List Df) (bns : List Str) (cs : List (Str × D)) (d : Df) : Bool :=
  chkSs (d.ckOf ds bns cs) ⟨d.scope, fun _ => true⟩ d.fn.refs d.fn.body d.body && decide (d.fn.ps = d.ps.length) && decide (d.fn.n = d.N.length) && fnScB d
def BindsD (d : Df) : Prop := ∀ (kV doc pm : Value) (an : Option Addr) (cdv ct : Value) (us : List Value), us.length = d.ps.length → bindArgs (PySem.W.fnOf d.name d.name d.params d.body d.scope .none kV doc pm an cdv ct) ⟨us, []⟩ = pure (d.ps.zip us)
def BindsAll : List Df → Prop
  | [] => True
  | d :: r => BindsD d ∧ BindsAll r
theorem BindsAll.at_ : ∀ {ds : List Df}, BindsAll ds → ∀ d ∈ ds, BindsD d
  | [], _, d, h => by simp at h
  | e :: r, hb, d, h => by
    rcases List.mem_cons.mp h with rfl | h
    · exact hb.1
    · exact hb.2.at_ d h
theorem findD_some : ∀ {ds : List Df} {f : Str} {d : Df}, findD ds f = some d → d ∈ ds ∧ d.name = f
  | [], _, _, h => by cases h
  | e :: r, f, d, h => by
    unfold findD at h
    split at h
    · rename_i q
      cases h
      exact ⟨List.mem_cons_self, of_decide_eq_true q⟩
    · obtain ⟨h1, h2⟩ := findD_some h
      exact ⟨List.mem_cons_of_mem _ h1, h2⟩
theorem γOf_some : ∀ {cs : List (Str × D)} {x : Str} {d : D}, γOf cs x = some d → (x, d) ∈ cs
  | [], _, _, h => by cases h
  | (y, e) :: r, x, d, h => by
    unfold γOf at h
    split at h
    · rename_i q
      cases h
      rw [of_decide_eq_true q]
      exact List.mem_cons_self
    · exact List.mem_cons_of_mem _ (γOf_some h)

/-! ### the written part without the script -/
def cutK (K : PySem.W.Frag) (a : Addr) : PySem.W.Frag := K.filter fun q => !(q.1 == a)
theorem cutK_lookup {a b : Addr} : ∀ {K : PySem.W.Frag}, b ≠ a → (cutK K a).lookup b = K.lookup b
  | [], _ => rfl
  | (c, o) :: r, h => by
    unfold cutK
    rw [List.filter_cons]
    have ih : (List.filter (fun q : Addr × Obj => !(q.1 == a)) r).lookup b = r.lookup b := cutK_lookup h
    by_cases hc : c = a
    · subst hc
      have e1 : (!((c, o).1 == c)) = false := by simp
      rw [e1]
      have e2 : (b == c) = false := by simpa using h
      simp only [Bool.false_eq_true, if_false, List.lookup_cons, e2]
      exact ih
    · have e1 : (!((c, o).1 == a)) = true := by simpa using hc
      rw [e1, if_pos rfl, List.lookup_cons, List.lookup_cons, ih]
theorem cutK_none {a : Addr} : ∀ {K : PySem.W.Frag}, (cutK K a).lookup a = none
  | [] => rfl
  | (c, o) :: r => by
    unfold cutK
    rw [List.filter_cons]
    by_cases hc : c = a
    · subst hc
      have e1 : (!((c, o).1 == c)) = false := by simp
      rw [e1]
      exact cutK_none (K := r)
    · have e1 : (!((c, o).1 == a)) = true := by simpa using hc
      have e2 : (a == c) = false := by simpa using Ne.symm hc
      rw [e1, if_pos rfl, List.lookup_cons, e2]
      exact cutK_none (K := r)
theorem cutK_in {K : PySem.W.Frag} {a : Addr} {h : Heap} (X : K.In h) : (cutK K a).In h := fun b o e => by
  by_cases hb : b = a
  · subst hb; rw [cutK_none] at e; cases e
  · rw [cutK_lookup hb] at e; exact X b o e
/-- the script's object -/
structure ScrAt (K : PySem.W.Frag) (a : Addr) : Prop where
  lst : ∀ o, K.lookup a = some o → o.cls = .type "list" ∧ ∃ its n, o.data = .seq its n
theorem ScrAt.ne {K : PySem.W.Frag} {a b : Addr} {o : Obj} (s : ScrAt K a) (e : K.lookup b = some o) (h : o.cls ≠ .type "list" ∨ ∀ its n, o.data ≠ .seq its n) : b ≠ a := fun z => by
  subst z
  obtain ⟨h1, its, n, h2⟩ := s.lst o e
  rcases h with h | h
  · exact h h1
  · exact h its n h2
theorem keepIn_cut {K : PySem.W.Frag} {a f : Addr} {fd : FuncData} {oc : Value} {od : Option Addr} {osl : Array (Option Value)} (s : ScrAt K a) (e : K.lookup f = some ⟨oc, od, .func fd, osl⟩) : (cutK K a).lookup f = some ⟨oc, od, .func fd, osl⟩ ∧ PySem.W.keepIn (cutK K a) (.ref f) = true := by
  have ne : f ≠ a := s.ne e (.inr fun _ _ z => nomatch z)
  have e2 : (cutK K a).lookup f = some ⟨oc, od, .func fd, osl⟩ := (cutK_lookup ne).trans e
  refine ⟨e2, ?_⟩
  simp only [PySem.W.keepIn, e2]
theorem codeIn_cut {K : PySem.W.Frag} {a : Addr} {cd : Value} {q : Str} (s : ScrAt K a) (e : PySem.W.codeIn K cd q = true) : PySem.W.codeIn (cutK K a) cd q = true := by
  unfold PySem.W.codeIn at e ⊢
  cases cd with
  | ref c =>
    simp only at e ⊢
    cases hc : K.lookup c with
    | none => rw [hc] at e; cases e
    | some o =>
      rw [hc] at e
      obtain ⟨oc, od, dt, osl⟩ := o
      cases dt with
      | fields vs =>
        have ne : c ≠ a := s.ne hc (.inr fun _ _ z => nomatch z)
        rw [cutK_lookup ne, hc]
        exact e
      | _ => cases e
  | _ => cases e
theorem FunD_cut {K : PySem.W.Frag} {a : Addr} {x qual : Str} {params : Arguments} {body : List Stmt} {scope : Scope} {f : Addr} {fd : FuncData} (s : ScrAt K a) (F : FunD K x qual params body scope [] [] f fd) : FunD (cutK K a) x qual params body scope [] [] f fd := by
  obtain ⟨oc, od, dV, kV, doc, pm, an, cdv, ct, osl, e1, e2, e3, e4, e5⟩ := F.ex
  obtain ⟨h1, h2⟩ := keepIn_cut s e2
  exact ⟨⟨oc, od, dV, kV, doc, pm, an, cdv, ct, osl, e1, h1, codeIn_cut s e3, e4.elim .inl fun z => absurd rfl z.1, .inl rfl⟩, h2⟩

/-! ### constants -/
mutual
def cV (K : PySem.W.Frag) : D → Value → Bool
  | .int i, .int j _ => decide (i = j)
  | .str x, .str y _ => decide (x = y)
  | .bl b, .bool c => b == c
  | .non, .none => true
  | .tup ds, .ref p => match K.lookup p with
    | some ⟨.type c, _, .seq its _, _⟩ => decide (c = "tuple") && decide (its.size ≤ sizeLine) && cVs K ds its.toList
    | _ => false
  | _, _ => false
def cVs (K : PySem.W.Frag) : List D → List Value → Bool
  | [], [] => true
  | d :: ds, v :: vs => cV K d v && cVs K ds vs
  | _, _ => false
end
mutual
theorem cV_ok {G : Gp} {K : PySem.W.Frag} {a : Addr} (hK : G.K = cutK K a) (s : ScrAt K a) : ∀ (d : D) (u : Value), cV K d u = true → ∃ v, RelV v u ∧ ∀ F H, relF G F H d v
  | .int i, u, h => by
    cases u <;> simp only [cV] at h <;> first | (have := of_decide_eq_true h; subst this; exact ⟨.int i, ⟨_, rfl⟩, fun F H => by simp only [relF]⟩) | cases h
  | .str x, u, h => by
    cases u <;> simp only [cV] at h <;> first | (have := of_decide_eq_true h; subst this; exact ⟨.str x, ⟨_, rfl⟩, fun F H => by simp only [relF]⟩) | cases h
  | .bl b, u, h => by
    cases u <;> simp only [cV] at h <;> first | (have := beq_iff_eq.mp h; subst this; exact ⟨.bl b, rfl, fun F H => by simp only [relF]⟩) | cases h
  | .non, u, h => by
    cases u <;> simp only [cV] at h <;> first | exact ⟨.non, rfl, fun F H => by simp only [relF]⟩ | cases h
  | .tup ds, u, h => by
    cases u with
    | ref p =>
      simp only [cV] at h
      split at h
      · rename_i c od its n sl e
        simp only [Bool.and_eq_true, decide_eq_true_eq] at h
        obtain ⟨⟨rfl, h2⟩, h3⟩ := h
        obtain ⟨vs, h4, h5⟩ := cVs_ok hK s ds its.toList h3
        have ne : p ≠ a := s.ne e (.inl (by simp))
        refine ⟨.ref p, rfl, fun F H => ?_⟩
        simp only [relF]
        exact ⟨p, vs, rfl, .inr ⟨_, its, n, by rw [hK, cutK_lookup ne]; exact e, rfl, rfl, h2, h4⟩, h5 F H⟩
      · cases h
    | _ => simp [cV] at h
  | .lst _, u, h => by simp [cV] at h
  | .dct _ _, u, h => by simp [cV] at h
  | .ins _ _ _, u, h => by simp [cV] at h
theorem cVs_ok {G : Gp} {K : PySem.W.Frag} {a : Addr} (hK : G.K = cutK K a) (s : ScrAt K a) : ∀ (ds : List D) (us : List Value), cVs K ds us = true → ∃ vs, Vals vs us ∧ ∀ F H, relFs G F H ds vs
  | [], [], _ => ⟨[], .nil, fun F H => by simp only [relFs]⟩
  | d :: ds, u :: us, h => by
    simp only [cVs, Bool.and_eq_true] at h
    obtain ⟨v, h1, h2⟩ := cV_ok hK s d u h.1
    obtain ⟨vs, h3, h4⟩ := cVs_ok hK s ds us h.2
    exact ⟨v :: vs, .cons h1 h3, fun F H => by simp only [relFs]; exact ⟨v, vs, rfl, h2 F H, h4 F H⟩⟩
  | [], _ :: _, h => by simp [cVs] at h
  | _ :: _, [], h => by simp [cVs] at h
end
def csB (cs : List (Str × D)) (K : PySem.W.Frag) : Bool := cs.all fun q => match PySem.W.nsIn K mainGlobals q.1 with
  | some (some u) => cV K q.2 u
  | _ => false
/-! ### the hook: facts by names, and one Boolean word more -/
abbrev AlC : Type := He.AlD × Bool
def obsCG (n : Nat) (fa : List He.Fa) (fn : List He.DefD) (ex : PySem.W.Frag → Bool) (g : Addr → Option Obj) : AlC := (He.obsDG n fa fn g, ex (He.frG g (He.asD g n)))
def hookC (n : Nat) (fa : List He.Fa) (fn : List He.DefD) (ex : PySem.W.Frag → Bool) : PySem.W.Hook where
  α := AlC
  obs := fun s => obsCG n fa fn ex s.heap.get?
  val := fun _ => (He.valD fn, true)
  says := fun _ h => ∃ K : PySem.W.Frag, K.In h ∧ He.SaysD fa fn K ∧ ex K = true
  of := fun _ _ e => ⟨_, He.frG_in, congrArg Prod.fst e, congrArg Prod.snd e⟩
  keeps := fun _ _ _ ⟨K, hK, c⟩ k => ⟨K, PySem.W.Frag.In.keeps hK k, c⟩
theorem obsCG_eq {n : Nat} {fa : List He.Fa} {fn : List He.DefD} {ex : PySem.W.Frag → Bool} {g : Addr → Option Obj} {s : Shared} (h : ∀ a, g a = s.heap.get? a) : obsCG n fa fn ex g = (hookC n fa fn ex).obs s := by
  have e : g = s.heap.get? := funext h
  rw [e] <;> rfl
def faOf (ds : List Df) (bns : List Str) : List He.Fa := ds.map (fun d => .glo d.name) ++ bns.map .free
def noEx : (Addr → Prop) → Hp → Exn → Value → Option Addr → Prop := fun _ _ _ _ _ => False
/-- every def of the table keeps its promise, k calls deep -/
theorem tops {ds : List Df} {bns : List Str} {cs : List (Str × D)} {P : Program} {w : World} {K : PySem.W.Frag} {a : Addr} {h : Heap} {mg : Str → Option Value} {base : Heap} (X : K.In h) (Ns : h.Ns mainGlobals mg) (s : ScrAt K a)
    (c : He.SaysD (faOf ds bns) (ds.map Df.he) K) (hcs : csB cs K = true) (hok : ds.all (Df.ok ds bns cs) = true) (hb : BindsAll ds) : ∀ k, Top ⟨P, w, cutK K a, noEx⟩ mg base (run (tabOf ds) (γOf cs) k) (γOf cs) bns (fnsOf ds) k := by
  have names : ∀ d ∈ ds, mg d.name = some (.ref (He.ga K d.name)) ∧ ∃ fd, FunD K d.name d.name d.params d.body d.scope [] [] (He.ga K d.name) fd := fun d hd => by
    obtain ⟨i, hi⟩ := List.getElem?_of_mem hd
    refine ⟨He.glo_ok X Ns (c.fact i (f := .glo d.name) ?_), ?_⟩
    · unfold faOf
      have hlt : i < ds.length := (List.getElem?_eq_some_iff.mp hi).1
      rw [List.getElem?_append_left (by rw [List.length_map]; exact hlt), List.getElem?_map, hi]; rfl
    · obtain ⟨fd, F⟩ := c.def_ i (d := d.he) (by rw [List.getElem?_map, hi]; rfl)
      exact ⟨fd, F⟩
  have gl : ∀ x d, γOf cs x = some d → ∃ u v, mg x = some u ∧ RelV v u ∧ ∀ F H, relF ⟨P, w, cutK K a, noEx⟩ F H d v := fun x d hx => by
    have hm := γOf_some hx
    have := List.all_eq_true.mp hcs _ hm
    simp only at this
    split at this
    · rename_i u e
      obtain ⟨v, h1, h2⟩ := cV_ok (G := ⟨P, w, cutK K a, noEx⟩) rfl s d u this
      exact ⟨u, v, PySem.W.mg_of X Ns e, h1, h2⟩
    · cases this
  have bn : ∀ x ∈ bns, mg x = none := fun x hx => by
    obtain ⟨i, hi⟩ := List.getElem?_of_mem hx
    refine He.free_ok X Ns (c.fact (ds.length + i) (f := .free x) ?_)
    unfold faOf
    rw [List.getElem?_append_right (by rw [List.length_map]; omega), List.length_map, Nat.add_sub_cancel_left, List.getElem?_map, hi]; rfl
  intro k
  induction k with
  | zero =>
    refine ⟨gl, bn, fun f hf => ?_⟩
    obtain ⟨d, hd⟩ := Option.isSome_iff_exists.mp hf
    obtain ⟨hm, rfl⟩ := findD_some hd
    obtain ⟨h1, fd, F⟩ := names d hm
    have F' := FunD_cut s F
    refine ⟨_, fd, d.ps, h1, F'.kp, F'.bindsN (hb.at_ d hm), fun as z => absurd rfl z, ⟨fun vs H Q E q => q.1, fun A outer s H args us vs Q E hr e hbd hv q => ?_⟩⟩
    obtain ⟨_, _, _, _, kk⟩ := q
    exact kk.elim
  | succ k ih =>
    refine ⟨gl, bn, fun f hf => ?_⟩
    obtain ⟨d, hd⟩ := Option.isSome_iff_exists.mp hf
    obtain ⟨hm, rfl⟩ := findD_some hd
    obtain ⟨h1, fd, F⟩ := names d hm
    have F' := FunD_cut s F
    have hdk := List.all_eq_true.mp hok d hm
    unfold Df.ok at hdk
    simp only [Bool.and_eq_true, decide_eq_true_eq] at hdk
    obtain ⟨⟨⟨k1, k2⟩, k3⟩, k4⟩ := hdk
    have er : run (tabOf ds) (γOf cs) (k + 1) d.name = d.fn.run (run (tabOf ds) (γOf cs) k) (γOf cs) := by
      funext as
      have e : tabOf ds d.name = some d.fn := by unfold tabOf; rw [hd]; rfl
      rw [run, e]
    refine ⟨_, fd, d.ps, h1, F'.kp, F'.bindsN (hb.at_ d hm), fun as z => ?_, ?_⟩
    · rw [er] at z
      unfold Fn.run at z
      split at z
      · rename_i q
        simp only [Bool.and_eq_true, decide_eq_true_eq] at q
        rw [q.1, k2]
      · exact absurd rfl z
    · rw [er]
      exact fn_ok (c := d.ckOf ds bns cs) ih F' (fnScB_ok k4) k2 k3 k1
/-- THE LAW: from what the evaluator answers -/
theorem pf_walk {l : PySem.W.OpenLaw} {n k nH : Nat} {q : Program} {loose : List Str} {XP : (Str → Option Value) → Heap → Prop} {d : DefRec} {ds : List Df} {bns : List Str} {cs : List (Str × D)} {x : Str} {dl : Df}
    (hn : l.most = some n) (hn2 : n ≤ sizeLine) (hdf : d.params.defaults = []) (hr : Room (k + 1) callerA) (hname : d.name = dl.name) (hlaw : findD ds dl.name = some dl) (hps : dl.ps = [x])
    (hok : ds.all (Df.ok ds bns cs) = true) (hb : BindsAll ds)
    (plain : ∀ ns : List Int, ns.length ≤ n → (∀ z ∈ ns, Builtin.Int.intBits z ≤ 1048576) → ∃ outs, run (tabOf ds) (γOf cs) (k + 1) dl.name [.fr (.lst (ns.map .int))] = .ok false (.bl true) outs) :
    PySem.W.WalkO q loose XP (hookC nH (faOf ds bns) (ds.map Df.he) (csB cs)).says l.row.toRowW d [] (fun f vs => PySem.call f vs) := by
  refine Att.attach_callB hn hdf fun w s₀ s₁ mg mb fa o pm cd doc a vs ns G Y ho hd hcd hmg hobj hints hlen hbits hg => ?_
  obtain ⟨K, KX, c, hcs⟩ := Y
  have s : ScrAt K a := ⟨fun o' e => by
    have e2 := KX a o' e
    rw [hobj] at e2
    cases e2
    exact ⟨rfl, _, _, rfl⟩⟩
  obtain ⟨hm, -⟩ := findD_some hlaw
  obtain ⟨i, hi⟩ := List.getElem?_of_mem hm
  have hga : mg dl.name = some (.ref (He.ga K dl.name)) := He.glo_ok KX G.T.g (c.fact i (f := .glo dl.name) (by
    unfold faOf
    have hlt : i < ds.length := (List.getElem?_eq_some_iff.mp hi).1
    rw [List.getElem?_append_left (by rw [List.length_map]; exact hlt), List.getElem?_map, hi]; rfl))
  obtain ⟨fd, F⟩ := c.def_ i (d := dl.he) (by rw [List.getElem?_map, hi]; rfl)
  have F : FunD K dl.name dl.name dl.params dl.body dl.scope [] [] (He.ga K dl.name) fd := F
  have efa : fa = He.ga K dl.name := by
    rw [hname, hga] at hmg
    cases hmg; rfl
  have F' := FunD_cut s F
  have hdk := List.all_eq_true.mp hok dl hm
  unfold Df.ok at hdk
  simp only [Bool.and_eq_true, decide_eq_true_eq] at hdk
  obtain ⟨⟨⟨k1, k2⟩, k3⟩, k4⟩ := hdk
  have er : run (tabOf ds) (γOf cs) (k + 1) dl.name = dl.fn.run (run (tabOf ds) (γOf cs) k) (γOf cs) := by
    funext as
    have e : tabOf ds dl.name = some dl.fn := by unfold tabOf; rw [hlaw]; rfl
    rw [run, e]
  have hF : ∀ base : Heap, (cutK K a).In base → base.Ns mainGlobals mg → FnOk l.prog w (cutK K a) mg base (L2.CX l.prog w) (k + 1) fa fd [x] (spOf ⟨l.prog, w, cutK K a, noEx⟩ (run (tabOf ds) (γOf cs) (k + 1) dl.name) 1) := fun base _ _ => by
    have := fn_ok (c := dl.ckOf ds bns cs) (tops (P := l.prog) (w := w) (base := base) KX G.T.g s c hcs hok hb k) F' (fnScB_ok k4) k2 k3 k1
    rw [hps] at this
    rw [efa, er]
    exact this
  have hbind := FunD.bindsA (ps := dl.ps) F (hb.at_ dl hm)
  refine law_call (cutK_in KX) G.T.g G.T.b G.T.builtins G.T.nolimit hg hobj hints (Nat.le_trans hlen hn2) hr hF (fun s u => ?_) (fun H hO hS => ?_) fun H e s' z => ?_
  · have := hbind s [u] (by rw [hps]; rfl)
    rw [hps] at this
    exact this
  · refine ⟨rfl, fun b => b = a, [.fr (.lst (ns.map .int))], ?_, ?_⟩
    · have hR : Rd H a (.lst (ns.map V.int)) := by
        rcases hS with h | ⟨o, its, n, e, _⟩
        · exact h
        · rw [cutK_none] at e; cases e
      have hrl : relF ⟨l.prog, w, cutK K a, noEx⟩ (fun b => b = a) H (.lst (ns.map .int)) (.ref a) := by
        simp only [relF]
        refine ⟨a, _, rfl, rfl, hR, ?_⟩
        have go : ∀ ns : List Int, relFs ⟨l.prog, w, cutK K a, noEx⟩ (fun b => b = a) H (ns.map D.int) (ns.map V.int) := by
          intro ns
          induction ns with
          | nil => simp [relFs]
          | cons z r ih => simp only [List.map_cons, relFs]; exact ⟨_, _, rfl, by simp only [relF], ih⟩
        exact go ns
      refine ⟨rfl, fun j => ?_, fun i j b hi _ _ _ => ?_, fun b hb hn => ?_⟩
      · cases j with
        | zero => exact ⟨.ref a, rfl, hrl⟩
        | succ j =>
          have : getS [Sl.fr (.lst (ns.map D.int))] (j + 1) = .non := by cases j <;> rfl
          rw [this]; trivial
      · cases i with
        | zero => cases hi
        | succ i =>
          have : getS [Sl.fr (.lst (ns.map D.int))] (i + 1) = .non := by cases i <;> rfl
          rw [this] at hi; cases hi
      · rw [hb] at hn
        rcases hR with h | ⟨o, h⟩
        · rw [hn] at h; cases h
        · rw [hn] at h; cases h
    · obtain ⟨outs, e⟩ := plain ns hlen hbits
      rw [e]
      intro F' H' v P hv
      rw [if_neg Bool.false_ne_true] at hv
      simpa only [relF] using hv
  · obtain ⟨_, _, _, _, _, _, _, _, _, _, _, _, z⟩ := z
    exact z.elim
end PF
set_option Elab.async false
set_option linter.all false
set_option maxRecDepth 100000
/-! PFS: the evaluator's equations, as rules for simp (printed by gen_simp.py). -/
namespace PF
open PySem PySem.Spec PyProof.Rows L2
variable {Φ : Str → List Sl → FR} {γ : Str → Option D} {e e0 e1 : Env} {d d' : D} {i j n : Nat} {f : Fl} {α : Type}
section
@[simp] theorem q1 {k} : RE.bd (.ok f d e) k = k f d e := rfl
@[simp] theorem q2 {x k} : RE.bd (.ex x e) k = .ex x e := rfl
@[simp] theorem q3 {k} : RE.bd .st k = .st := rfl
@[simp] theorem q4 {k} : RE.bds (.ok f d e) k = k f d e := rfl
@[simp] theorem q5 {x k} : RE.bds (.ex x e) k = .ex x e := rfl
@[simp] theorem q6 {k} : RE.bds .st k = .st := rfl
@[simp] theorem q7 {k} : RE.bdI (.ok f d e) k = k f d e := rfl
@[simp] theorem q8 {x k} : RE.bdI (.ex x e) k = .ex x e := rfl
@[simp] theorem q9 {k} : RE.bdI .st k = .st := rfl
@[simp] theorem q10 {k} : RE.bdT (.ok f d e) k = k f d e := rfl
@[simp] theorem q11 {x k} : RE.bdT (.ex x e) k = .ex x e := rfl
@[simp] theorem q12 {k} : RE.bdT .st k = .st := rfl
@[simp] theorem q13 {k} : RE.bdS (.ok f d e) k = k f d e := rfl
@[simp] theorem q14 {x k} : RE.bdS (.ex x e) k = .ex x e := rfl
@[simp] theorem q15 {k} : RE.bdS .st k = .st := rfl
@[simp] theorem q16 {vs k} : REs.bds (.ok vs e) k = k vs e := rfl
@[simp] theorem q17 {x k} : REs.bds (.ex x e) k = .ex x e := rfl
@[simp] theorem q18 {k} : REs.bds .st k = .st := rfl
@[simp] theorem q19 {vs k} : REs.bd (.ok vs e) k = k vs e := rfl
@[simp] theorem q20 {x k} : REs.bd (.ex x e) k = .ex x e := rfl
@[simp] theorem q21 {k} : REs.bd .st k = .st := rfl
@[simp] theorem q22 {vs k} : REs.bdI (.ok vs e) k = k vs e := rfl
@[simp] theorem q23 {x k} : REs.bdI (.ex x e) k = .ex x e := rfl
@[simp] theorem q24 {k} : REs.bdI .st k = .st := rfl
@[simp] theorem q25 {ds ls k} : RI.bd (.ok ds ls e) k = k ds ls e := rfl
@[simp] theorem q26 {x k} : RI.bd (.ex x e) k = .ex x e := rfl
@[simp] theorem q27 {k} : RI.bd .st k = .st := rfl
@[simp] theorem q28 {ds ls k} : RI.bdS (.ok ds ls e) k = k ds ls e := rfl
@[simp] theorem q29 {x k} : RI.bdS (.ex x e) k = .ex x e := rfl
@[simp] theorem q30 {k} : RI.bdS .st k = .st := rfl
@[simp] theorem q31 {b k} : RT.bd (.ok b e) k = k b e := rfl
@[simp] theorem q32 {x k} : RT.bd (.ex x e) k = .ex x e := rfl
@[simp] theorem q33 {k} : RT.bd .st k = .st := rfl
@[simp] theorem q34 {b k} : RT.bdS (.ok b e) k = k b e := rfl
@[simp] theorem q35 {x k} : RT.bdS (.ex x e) k = .ex x e := rfl
@[simp] theorem q36 {k} : RT.bdS .st k = .st := rfl
@[simp] theorem q37 {a k} : RL.bd (.ok a e) k = k a e := rfl
@[simp] theorem q38 {k} : RL.bd .st k = .st := rfl
@[simp] theorem q39 {a k} : RL.bdL (.ok a e) k = k a e := rfl
@[simp] theorem q40 {k} : RL.bdL .st k = .st := rfl
@[simp] theorem q41 {a b k} : RD.bd (.ok a b e) k = k a b e := rfl
@[simp] theorem q42 {k} : RD.bd .st k = .st := rfl
@[simp] theorem q43 {b k} : RT.bdL (.ok b e) k = k b e := rfl
@[simp] theorem q44 {x k} : RT.bdL (.ex x e) k = .st := rfl
@[simp] theorem q45 {k} : RT.bdL .st k = .st := rfl
@[simp] theorem q46 {b k} : RT.bdD (.ok b e) k = k b e := rfl
@[simp] theorem q47 {x k} : RT.bdD (.ex x e) k = .st := rfl
@[simp] theorem q48 {k} : RT.bdD .st k = .st := rfl
@[simp] theorem q49 {k} : RE.bdL (.ok f d e) k = k f d e := rfl
@[simp] theorem q50 {x k} : RE.bdL (.ex x e) k = .st := rfl
@[simp] theorem q51 {k} : RE.bdL .st k = .st := rfl
@[simp] theorem q52 {k} : RE.bdD (.ok f d e) k = k f d e := rfl
@[simp] theorem q53 {x k} : RE.bdD (.ex x e) k = .st := rfl
@[simp] theorem q54 {k} : RE.bdD .st k = .st := rfl
@[simp] theorem q55 {ds ls k} : RI.bdL (.ok ds ls e) k = k ds ls e := rfl
@[simp] theorem q56 {x k} : RI.bdL (.ex x e) k = .st := rfl
@[simp] theorem q57 {k} : RI.bdL .st k = .st := rfl
@[simp] theorem q58 {o k} : RS.bd (.rt o d e) k = .rt o d e := rfl
@[simp] theorem q59 { k} : RS.bd (.bk e) k = .bk e := rfl
@[simp] theorem q60 { k} : RS.bd (.ct e) k = .ct e := rfl
@[simp] theorem q61 {x k} : RS.bd (.ex x e) k = .ex x e := rfl
@[simp] theorem q62 { k} : RS.bd (.st) k = .st := rfl
@[simp] theorem q63 {k} : RS.bd (.nx e) k = k e := rfl
@[simp] theorem q64 {k} : RS.lp (.nx e) k = k e := rfl
@[simp] theorem q65 {k} : RS.lp (.ct e) k = k e := rfl
@[simp] theorem q66 {k} : RS.lp (.bk e) k = .nx e := rfl
@[simp] theorem q67 {o k} : RS.lp (.rt o d e) k = .rt o d e := rfl
@[simp] theorem q68 {x k} : RS.lp (.ex x e) k = .ex x e := rfl
@[simp] theorem q69 {k} : RS.lp .st k = .st := rfl
@[simp] theorem q70 { g} : RS.env g (.nx e) = .nx (g e) := rfl
@[simp] theorem q71 {o g} : RS.env g (.rt o d e) = .rt o d (g e) := rfl
@[simp] theorem q72 { g} : RS.env g (.bk e) = .bk (g e) := rfl
@[simp] theorem q73 { g} : RS.env g (.ct e) = .ct (g e) := rfl
@[simp] theorem q74 {x g} : RS.env g (.ex x e) = .ex x (g e) := rfl
@[simp] theorem q75 {g} : RS.env g .st = .st := rfl
@[simp] theorem q76 {a : α} {k} : onE (some a) k = k a := rfl
@[simp] theorem q77 {k : α → _} : onE none k = .st := rfl
@[simp] theorem q78 {a : α} {k} : onI (some a) k = k a := rfl
@[simp] theorem q79 {k : α → _} : onI none k = .st := rfl
@[simp] theorem q80 {a : α} {k} : onT (some a) k = k a := rfl
@[simp] theorem q81 {k : α → _} : onT none k = .st := rfl
@[simp] theorem q82 {a : α} {k} : onS (some a) k = k a := rfl
@[simp] theorem q83 {k : α → _} : onS none k = .st := rfl
@[simp] theorem q84 {a : α} {k} : onL (some a) k = k a := rfl
@[simp] theorem q85 {k : α → _} : onL none k = .st := rfl
@[simp] theorem q86 {a : α} {k} : onD (some a) k = k a := rfl
@[simp] theorem q87 {k : α → _} : onD none k = .st := rfl
@[simp] theorem q88 {k} : keepE .fr k = k false := rfl
@[simp] theorem q89 {k} : keepE .ow k = k true := rfl
@[simp] theorem q90 {k} : keepE (.pl i) k = .st := rfl
@[simp] theorem q91 {k} : keepS .fr k = k false := rfl
@[simp] theorem q92 {k} : keepS .ow k = k true := rfl
@[simp] theorem q93 {k} : keepS (.pl i) k = .st := rfl
@[simp] theorem q94 {r} : keepL .fr r = r := rfl
@[simp] theorem q95 {r} : keepL .ow r = r := rfl
@[simp] theorem q96 {r} : keepL (.pl i) r = .st := rfl
@[simp] theorem q97 {r} : keepD .fr r = r := rfl
@[simp] theorem q98 {r} : keepD .ow r = r := rfl
@[simp] theorem q99 {r} : keepD (.pl i) r = .st := rfl
@[simp] theorem q100 : late .fr d e = some d := rfl
@[simp] theorem q101 : late .ow d e = some d := rfl
@[simp] theorem q102 : late (.pl i) d e = (getS e i).d? := rfl
@[simp] theorem q103 : lates [] e = some [] := rfl
@[simp] theorem q104 {r} : lates ((f, d) :: r) e = match late f d e, lates r e with | some x, some xs => some (x :: xs) | _, _ => none := rfl
@[simp] theorem q105 : PF.stored [] = some [] := rfl
@[simp] theorem q106 {r} : PF.stored ((.pl i, d) :: r) = none := rfl
@[simp] theorem q107 {r} : PF.stored ((.fr, d) :: r) = (PF.stored r).map (d :: ·) := rfl
@[simp] theorem q108 {r} : PF.stored ((.ow, d) :: r) = (PF.stored r).map (d :: ·) := rfl
@[simp] theorem q109 : lend [] e = [] := rfl
@[simp] theorem q110 {r} : lend ((.pl i, d) :: r) e = getS e i :: lend r e := rfl
@[simp] theorem q111 {r} : lend ((.fr, d) :: r) e = .fr d :: lend r e := rfl
@[simp] theorem q112 {r} : lend ((.ow, d) :: r) e = .fr d :: lend r e := rfl
@[simp] theorem q113 : places [] = [] := rfl
@[simp] theorem q114 {r} : places ((.pl i, d) :: r) = i :: places r := rfl
@[simp] theorem q115 {r} : places ((.fr, d) :: r) = places r := rfl
@[simp] theorem q116 {r} : places ((.ow, d) :: r) = places r := rfl
@[simp] theorem q117 {outs} : back [] outs e = some e := rfl
@[simp] theorem q118 {r o outs} : back ((.pl i, d) :: r) (o :: outs) e = if isNon o then none else back r outs (setS e i o) := rfl
@[simp] theorem q119 {r o outs} : back ((.fr, d) :: r) (o :: outs) e = back r outs e := rfl
@[simp] theorem q120 {r o outs} : back ((.ow, d) :: r) (o :: outs) e = back r outs e := rfl
@[simp] theorem q121 : isNon .non = true := rfl
@[simp] theorem q122 : isNon (.fr d) = false := rfl
@[simp] theorem q123 : isNon (.ow d) = false := rfl
@[simp] theorem q124 : isNon (.lk d) = false := rfl
@[simp] theorem q125 : nodupN [] = true := rfl
@[simp] theorem q126 {a r} : nodupN (a :: r) = (!(r.contains a) && nodupN r) := rfl
@[simp] theorem q127 : flOf true = .ow := rfl
@[simp] theorem q128 : flOf false = .fr := rfl
@[simp] theorem q129 {x r} : getS (x :: r) 0 = x := rfl
@[simp] theorem q130 {x r} : getS (x :: r) (i + 1) = getS r i := rfl
@[simp] theorem q131 {x y r} : setS (x :: r) 0 y = y :: r := rfl
@[simp] theorem q132 {x y r} : setS (x :: r) (i + 1) y = x :: setS r i y := rfl
@[simp] theorem q133 {x r} : getS (x :: r) 1 = getS r 0 := rfl
@[simp] theorem q134 {x y r} : setS (x :: r) 1 y = x :: setS r 0 y := rfl
@[simp] theorem q135 {x r} : getS (x :: r) 2 = getS r 1 := rfl
@[simp] theorem q136 {x y r} : setS (x :: r) 2 y = x :: setS r 1 y := rfl
@[simp] theorem q137 {x r} : getS (x :: r) 3 = getS r 2 := rfl
@[simp] theorem q138 {x y r} : setS (x :: r) 3 y = x :: setS r 2 y := rfl
@[simp] theorem q139 {x r} : getS (x :: r) 4 = getS r 3 := rfl
@[simp] theorem q140 {x y r} : setS (x :: r) 4 y = x :: setS r 3 y := rfl
@[simp] theorem q141 {x r} : getS (x :: r) 5 = getS r 4 := rfl
@[simp] theorem q142 {x y r} : setS (x :: r) 5 y = x :: setS r 4 y := rfl
@[simp] theorem q143 {x r} : getS (x :: r) 6 = getS r 5 := rfl
@[simp] theorem q144 {x y r} : setS (x :: r) 6 y = x :: setS r 5 y := rfl
@[simp] theorem q145 {x r} : getS (x :: r) 7 = getS r 6 := rfl
@[simp] theorem q146 {x y r} : setS (x :: r) 7 y = x :: setS r 6 y := rfl
@[simp] theorem q147 {x r} : getS (x :: r) 8 = getS r 7 := rfl
@[simp] theorem q148 {x y r} : setS (x :: r) 8 y = x :: setS r 7 y := rfl
@[simp] theorem q149 {x r} : getS (x :: r) 9 = getS r 8 := rfl
@[simp] theorem q150 {x y r} : setS (x :: r) 9 y = x :: setS r 8 y := rfl
@[simp] theorem q151 {x r} : getS (x :: r) 10 = getS r 9 := rfl
@[simp] theorem q152 {x y r} : setS (x :: r) 10 y = x :: setS r 9 y := rfl
@[simp] theorem q153 {x r} : getS (x :: r) 11 = getS r 10 := rfl
@[simp] theorem q154 {x y r} : setS (x :: r) 11 y = x :: setS r 10 y := rfl
@[simp] theorem q155 {x r} : getS (x :: r) 12 = getS r 11 := rfl
@[simp] theorem q156 {x y r} : setS (x :: r) 12 y = x :: setS r 11 y := rfl
@[simp] theorem q157 {x r} : getS (x :: r) 13 = getS r 12 := rfl
@[simp] theorem q158 {x y r} : setS (x :: r) 13 y = x :: setS r 12 y := rfl
@[simp] theorem q159 {x r} : getS (x :: r) 14 = getS r 13 := rfl
@[simp] theorem q160 {x y r} : setS (x :: r) 14 y = x :: setS r 13 y := rfl
@[simp] theorem q161 {x r} : getS (x :: r) 15 = getS r 14 := rfl
@[simp] theorem q162 {x y r} : setS (x :: r) 15 y = x :: setS r 14 y := rfl
@[simp] theorem q163 {x r} : getS (x :: r) 16 = getS r 15 := rfl
@[simp] theorem q164 {x y r} : setS (x :: r) 16 y = x :: setS r 15 y := rfl
@[simp] theorem q165 {x r} : getS (x :: r) 17 = getS r 16 := rfl
@[simp] theorem q166 {x y r} : setS (x :: r) 17 y = x :: setS r 16 y := rfl
@[simp] theorem q167 {x r} : getS (x :: r) 18 = getS r 17 := rfl
@[simp] theorem q168 {x y r} : setS (x :: r) 18 y = x :: setS r 17 y := rfl
@[simp] theorem q169 {x r} : getS (x :: r) 19 = getS r 18 := rfl
@[simp] theorem q170 {x y r} : setS (x :: r) 19 y = x :: setS r 18 y := rfl
@[simp] theorem q171 {x r} : getS (x :: r) 20 = getS r 19 := rfl
@[simp] theorem q172 {x y r} : setS (x :: r) 20 y = x :: setS r 19 y := rfl
@[simp] theorem q173 {x r} : getS (x :: r) 21 = getS r 20 := rfl
@[simp] theorem q174 {x y r} : setS (x :: r) 21 y = x :: setS r 20 y := rfl
@[simp] theorem q175 {x r} : getS (x :: r) 22 = getS r 21 := rfl
@[simp] theorem q176 {x y r} : setS (x :: r) 22 y = x :: setS r 21 y := rfl
@[simp] theorem q177 {x r} : getS (x :: r) 23 = getS r 22 := rfl
@[simp] theorem q178 {x y r} : setS (x :: r) 23 y = x :: setS r 22 y := rfl
@[simp] theorem q179 {x r} : getS (x :: r) 24 = getS r 23 := rfl
@[simp] theorem q180 {x y r} : setS (x :: r) 24 y = x :: setS r 23 y := rfl
@[simp] theorem q181 {x r} : getS (x :: r) 25 = getS r 24 := rfl
@[simp] theorem q182 {x y r} : setS (x :: r) 25 y = x :: setS r 24 y := rfl
@[simp] theorem q183 {x r} : getS (x :: r) 26 = getS r 25 := rfl
@[simp] theorem q184 {x y r} : setS (x :: r) 26 y = x :: setS r 25 y := rfl
@[simp] theorem q185 {x r} : getS (x :: r) 27 = getS r 26 := rfl
@[simp] theorem q186 {x y r} : setS (x :: r) 27 y = x :: setS r 26 y := rfl
@[simp] theorem q187 {x r} : getS (x :: r) 28 = getS r 27 := rfl
@[simp] theorem q188 {x y r} : setS (x :: r) 28 y = x :: setS r 27 y := rfl
@[simp] theorem q189 {x r} : getS (x :: r) 29 = getS r 28 := rfl
@[simp] theorem q190 {x y r} : setS (x :: r) 29 y = x :: setS r 28 y := rfl
@[simp] theorem q191 {x r} : getS (x :: r) 30 = getS r 29 := rfl
@[simp] theorem q192 {x y r} : setS (x :: r) 30 y = x :: setS r 29 y := rfl
@[simp] theorem q193 {x r} : getS (x :: r) 31 = getS r 30 := rfl
@[simp] theorem q194 {x y r} : setS (x :: r) 31 y = x :: setS r 30 y := rfl
@[simp] theorem q195 {x r} : getS (x :: r) 32 = getS r 31 := rfl
@[simp] theorem q196 {x y r} : setS (x :: r) 32 y = x :: setS r 31 y := rfl
@[simp] theorem q197 {x r} : getS (x :: r) 33 = getS r 32 := rfl
@[simp] theorem q198 {x y r} : setS (x :: r) 33 y = x :: setS r 32 y := rfl
@[simp] theorem q199 {x r} : getS (x :: r) 34 = getS r 33 := rfl
@[simp] theorem q200 {x y r} : setS (x :: r) 34 y = x :: setS r 33 y := rfl
@[simp] theorem q201 {x r} : getS (x :: r) 35 = getS r 34 := rfl
@[simp] theorem q202 {x y r} : setS (x :: r) 35 y = x :: setS r 34 y := rfl
@[simp] theorem q203 {x r} : getS (x :: r) 36 = getS r 35 := rfl
@[simp] theorem q204 {x y r} : setS (x :: r) 36 y = x :: setS r 35 y := rfl
@[simp] theorem q205 {x r} : getS (x :: r) 37 = getS r 36 := rfl
@[simp] theorem q206 {x y r} : setS (x :: r) 37 y = x :: setS r 36 y := rfl
@[simp] theorem q207 {x r} : getS (x :: r) 38 = getS r 37 := rfl
@[simp] theorem q208 {x y r} : setS (x :: r) 38 y = x :: setS r 37 y := rfl
@[simp] theorem q209 {x r} : getS (x :: r) 39 = getS r 38 := rfl
@[simp] theorem q210 {x y r} : setS (x :: r) 39 y = x :: setS r 38 y := rfl
@[simp] theorem q211 : Sl.d? .non = none := rfl
@[simp] theorem q212 : Sl.d? (.fr d) = some d := rfl
@[simp] theorem q213 : Sl.d? (.ow d) = some d := rfl
@[simp] theorem q214 : Sl.d? (.lk d) = some d := rfl
@[simp] theorem q215 : asgT (.nm i) d e = some (setS e i (.fr d)) := rfl
@[simp] theorem q216 {ts ds} : asgT (.tup ts) (.tup ds) e = asgTs ts ds e := rfl
@[simp] theorem q217 : asgTs [] [] e = some e := rfl
@[simp] theorem q218 {t ts ds} : asgTs (t :: ts) (d :: ds) e = match asgT t d e with | some e' => asgTs ts ds e' | none => none := rfl
@[simp] theorem q219 {t ts} : asgTs (t :: ts) [] e = none := rfl
@[simp] theorem q220 {ds} : asgTs [] (d :: ds) e = none := rfl
@[simp] theorem q221 : isOw .non = false := rfl
@[simp] theorem q222 : isOw (.fr d) = false := rfl
@[simp] theorem q223 : isOw (.ow d) = true := rfl
@[simp] theorem q224 : isOw (.lk d) = false := rfl
@[simp] theorem q225 {vs t} : asgW vs t d e = asgT t d (wipeS e vs) := rfl
@[simp] theorem q226 {i} : tvars (.nm i) = [i] := rfl
@[simp] theorem q227 {ts} : tvars (.tup ts) = tvarss ts := rfl
@[simp] theorem q228 : tvarss [] = [] := rfl
@[simp] theorem q229 {t ts} : tvarss (t :: ts) = tvars t ++ tvarss ts := rfl
@[simp] theorem q230 : wipeS e [] = e := rfl
@[simp] theorem q231 {v vs} : wipeS e (v :: vs) = setS (wipeS e vs) v .non := rfl
@[simp] theorem q232 : restS e e0 [] = e := rfl
@[simp] theorem q233 {v vs} : restS e e0 (v :: vs) = setS (restS e e0 vs) v (getS e0 v) := rfl
@[simp] theorem q234 {r : RE} : r.truth = r.bdT fun f d e => onT ((late f d e).bind truthy) fun b => .ok b e := rfl
@[simp] theorem q235 {tgt tst elt acc} : lcGo tgt tst elt [] e acc = .ok acc e := rfl
@[simp] theorem q236 {tgt tst inner acc} : lc2Go tgt tst inner [] e acc = .ok acc e := rfl
@[simp] theorem q237 {tgt tst k v ks vs} : dcGo tgt tst k v [] e ks vs = .ok ks vs e := rfl
@[simp] theorem q238 : muIsDict .setdefault = true := rfl
@[simp] theorem q239 : muIsDict .append = false := rfl
@[simp] theorem q240 : muIsDict .extend = false := rfl
@[simp] theorem q241 : muIsDict .pop = false := rfl
@[simp] theorem q242 : muIsDict .popAt = false := rfl
@[simp] theorem q243 : muIsDict .insert = false := rfl
@[simp] theorem q244 : muIsDict .reverse = false := rfl
@[simp] theorem q245 : muIsDict .remove = false := rfl
@[simp] theorem q246 {m ds} : slotFits m (.ow (.lst ds)) = !muIsDict m := rfl
@[simp] theorem q247 {m ks vs} : slotFits m (.ow (.dct ks vs)) = muIsDict m := rfl
@[simp] theorem q248 : owOf (.ow d) = some d := rfl
@[simp] theorem q249 : owOf (.fr d) = none := rfl
@[simp] theorem q250 : owOf (.lk d) = none := rfl
@[simp] theorem q251 : owOf .non = none := rfl
@[simp] theorem q252 : frOf (.fr d) = some d := rfl
@[simp] theorem q253 : frOf (.ow d) = none := rfl
@[simp] theorem q254 : lockOf .fr = [] := rfl
@[simp] theorem q255 : lockOf .ow = [] := rfl
@[simp] theorem q256 : lockOf (.pl i) = [i] := rfl
@[simp] theorem q257 : varE i e (.fr d) = .ok .fr d e := rfl
@[simp] theorem q258 : varE i e (.ow d) = .ok .fr d (setS e i (.fr d)) := rfl
@[simp] theorem q259 : lockAll [] e = e := rfl
@[simp] theorem q260 {a ls} : lockAll (a :: ls) e = lockAll ls (lockS e a) := rfl
@[simp] theorem q261 {ls} : unlockAll ls e0 e = (ls.filter fun i => isOw (getS e0 i)).foldl unlockS e := rfl
@[simp] theorem q262 : lockS e i = match getS e i with | .ow d => setS e i (.lk d) | _ => e := rfl
@[simp] theorem q263 : unlockS e i = match getS e i with | .lk d => setS e i (.ow d) | _ => e := rfl
@[simp] theorem q264 {r} : primE e r = onE r fun q => .ok (flOf q.1) q.2 e := rfl
@[simp] theorem q265 {vs k} : storedE vs k = onE (PF.stored vs) k := rfl
@[simp] theorem q266 {vs o outs} : callE vs e (.ok o d outs) = onE (back vs outs e) fun e2 => .ok (flOf o) d e2 := rfl
@[simp] theorem q267 {vs x outs} : callE vs e (.ex x outs) = onE (back vs outs e) fun e2 => .ex x e2 := rfl
@[simp] theorem q268 {vs} : callE vs e .st = .st := rfl
@[simp] theorem q269 {m ds} : muE m i e ds = onE (owOf (getS e i)) fun d => onE (muD m d ds) fun q => .ok .fr q.2 (setS e i (.ow q.1)) := rfl
@[simp] theorem q270 {b k} : boolE (some (.bl b)) k = k b := rfl
@[simp] theorem q271 {i k} : intE (some (.int i)) k = k i := rfl
@[simp] theorem q272 {a b c} : ev Φ γ (.sl a b c) e = (ev Φ γ a e).bd fun fa da e1 => (ev Φ γ b e1).bd fun fb db e2 => intE (late fb db e2) fun i => (ev Φ γ c e2).bd fun fc dc e3 => intE (late fc dc e3) fun j => onE (late fa da e3) fun x => primE e3 (cutD x (some i) (some j)) := rfl
@[simp] theorem q273 {ds} : seqI f e (some (.lst ds)) = .ok ds (lockOf f) e := rfl
@[simp] theorem q274 {ds} : seqI f e (some (.tup ds)) = .ok ds [] e := rfl
@[simp] theorem q275 {ks vs} : seqI f e (some (.dct ks vs)) = .ok ks (lockOf f) e := rfl
@[simp] theorem q276 {z} : seqI f e (some (.str z)) = .ok (z.cps.toList.map fun c => .str ⟨#[c]⟩) [] e := rfl
@[simp] theorem q277 {j} : rng1I e (some (.int j)) = if decide (-(2 ^ 62) ≤ j) && decide (j < 2 ^ 62) then .ok ((List.range j.toNat).map fun (k : Nat) => D.int (k : Int)) [] e else .st := rfl
@[simp] theorem q278 {i j} : rng2I e (some [.int i, .int j]) = if decide (-(2 ^ 62) ≤ i) && decide (i < 2 ^ 62) && decide (-(2 ^ 62) ≤ j) && decide (j < 2 ^ 62) then .ok ((List.range (j - i).toNat).map fun (k : Nat) => D.int (i + (k : Int))) [] e else .st := rfl
@[simp] theorem q279 {ls xs ys} : zipI ls e (some [.lst xs, .lst ys]) = .ok (zipD xs ys) ls e := rfl
@[simp] theorem q280 {ls xs ys} : zipI ls e (some [.tup xs, .tup ys]) = .ok (zipD xs ys) [] e := rfl
@[simp] theorem q281 {xs} : enumI f e (some (.lst xs)) = .ok (enumD xs) (lockOf f) e := rfl
@[simp] theorem q282 {ks vs} : itemsI f e (some (.dct ks vs)) = .ok (List.zipWith (fun k v => .tup [k, v]) ks vs) (lockOf f) e := rfl
@[simp] theorem q283 {f1 f2 f3 d1 d2 d3} : getE [(f1, d1), (f2, d2), (f3, d3)] e = keepE f3 fun _ => onE (late f1 d1 e) fun a => onE (late f2 d2 e) fun b => onE (getD3 a b d3) fun r => .ok .fr r e := rfl
@[simp] theorem q284 {ks vs b c} : getD3 (.dct ks vs) b c = if keyOk b ks then some ((dGet b ks vs).getD c) else none := rfl
@[simp] theorem q285 : glE e (some d) = .ok .fr d e := rfl
@[simp] theorem q286 {ds} : seq? (.tup ds) = some ds := rfl
@[simp] theorem q287 {ds} : seq? (.lst ds) = some ds := rfl
@[simp] theorem q288 : ev Φ γ (.var i) e = varE i e (getS e i) := rfl
@[simp] theorem q289 : ev Φ γ (.pk i) e = onE (getS e i).d? fun d => .ok (.pl i) d e := rfl
@[simp] theorem q290 : ev Φ γ (.lit d) e = .ok .fr d e := rfl
@[simp] theorem q291 {x} : ev Φ γ (.gl x) e = glE e (γ x) := rfl
@[simp] theorem q292 {es} : ev Φ γ (.tup es) e = (evs Φ γ es e).bd fun vs e1 => storedE vs fun ds => if ds.length ≤ sizeLine then .ok .fr (.tup ds) e1 else .st := rfl
@[simp] theorem q293 {es} : ev Φ γ (.lst es) e = (evs Φ γ es e).bd fun vs e1 => storedE vs fun ds => if ds.length ≤ sizeLine then .ok .ow (.lst ds) e1 else .st := rfl
@[simp] theorem q294 : ev Φ γ .dnew e = .ok .ow (.dct [] []) e := rfl
@[simp] theorem q295 {p es} : ev Φ γ (.op p es) e = (evs Φ γ es e).bd fun vs e1 => onE (lates vs e1) fun ds => primE e1 (prim p ds) := rfl
@[simp] theorem q296 {c es} : ev Φ γ (.boo c es) e = evB Φ γ c es e := rfl
@[simp] theorem q297 {a} : ev Φ γ (.not_ a) e = (ev Φ γ a e).bd fun f d e1 => boolE (late f d e1) fun b => .ok .fr (.bl (!b)) e1 := rfl
@[simp] theorem q298 {c a b} : ev Φ γ (.ife c a b) e = (ev Φ γ c e).truth.bd fun t e1 => if t then ev Φ γ a e1 else ev Φ γ b e1 := rfl
@[simp] theorem q299 {es} : ev Φ γ (.get es) e = (evs Φ γ es e).bd getE := rfl
@[simp] theorem q300 {g es} : ev Φ γ (.call g es) e = (evs Φ γ es e).bd fun vs e1 => if nodupN (places vs) then callE vs e1 (Φ g (lend vs e1)) else .st := rfl
@[simp] theorem q301 {m es} : ev Φ γ (.mu m i es) e = if slotFits m (getS e i) then (evs Φ γ es e).bd fun vs e1 => storedE vs fun ds => muE m i e1 ds else .st := rfl
@[simp] theorem q302 {vs t it ifs elt} : ev Φ γ (.lc vs t it ifs elt) e = (evI Φ γ it e).bd fun ds ls e1 =>
      (lcGo (asgW vs t) (evTs Φ γ ifs) (ev Φ γ elt) ds (lockAll ls e1) []).bd fun acc e2 => .ok .ow (.lst acc) (unlockAll ls e1 (restS e2 (lockAll ls e1) vs)) := rfl
@[simp] theorem q303 {vs t it ifs t2 it2 ifs2 elt} : ev Φ γ (.lc2 vs t it ifs t2 it2 ifs2 elt) e = (evI Φ γ it e).bd fun ds ls e1 =>
      (lc2Go (asgW vs t) (evTs Φ γ ifs) (fun e3 acc => (evI Φ γ it2 e3).bdL fun ds2 ls2 e4 =>
          (lcGo (asgW (tvars t2) t2) (evTs Φ γ ifs2) (ev Φ γ elt) ds2 (lockAll ls2 e4) acc).bdL fun acc' e5 => .ok acc' (unlockAll ls2 e4 e5)) ds (lockAll ls e1) []).bd
        fun acc e2 => .ok .ow (.lst acc) (unlockAll ls e1 (restS e2 (lockAll ls e1) vs)) := rfl
@[simp] theorem q304 {vs t it ifs k v} : ev Φ γ (.dc vs t it ifs k v) e = (evI Φ γ it e).bd fun ds ls e1 =>
      (dcGo (asgW vs t) (evTs Φ γ ifs) (ev Φ γ k) (ev Φ γ v) ds (lockAll ls e1) [] []).bd fun ks ws e2 => .ok .ow (.dct ks ws) (unlockAll ls e1 (restS e2 (lockAll ls e1) vs)) := rfl
@[simp] theorem q305 : evs Φ γ [] e = .ok [] e := rfl
@[simp] theorem q306 {a r} : evs Φ γ (a :: r) e = (ev Φ γ a e).bds fun f d e1 => (evs Φ γ r e1).bds fun vs e2 => .ok ((f, d) :: vs) e2 := rfl
@[simp] theorem q307 {c a} : evB Φ γ c [a] e = ev Φ γ a e := rfl
@[simp] theorem q308 {c a b r} : evB Φ γ c (a :: b :: r) e = (ev Φ γ a e).bd fun f d e1 => boolE (late f d e1) fun q => if q = c then evB Φ γ c (b :: r) e1 else .ok .fr (.bl q) e1 := rfl
@[simp] theorem q309 : evTs Φ γ [] e = .ok true e := rfl
@[simp] theorem q310 {a} : evTs Φ γ [a] e = (ev Φ γ a e).truth := rfl
@[simp] theorem q311 {a} : evI Φ γ (.seq a) e = (ev Φ γ a e).bdI fun f d e1 => seqI f e1 (late f d e1) := rfl
@[simp] theorem q312 {a} : evI Φ γ (.rng1 a) e = (ev Φ γ a e).bdI fun f d e1 => rng1I e1 (late f d e1) := rfl
@[simp] theorem q313 {es} : evI Φ γ (.rng2 es) e = (evs Φ γ es e).bdI fun vs e1 => rng2I e1 (lates vs e1) := rfl
@[simp] theorem q314 {es} : evI Φ γ (.zip es) e = (evs Φ γ es e).bdI fun vs e1 => zipI (places vs) e1 (lates vs e1) := rfl
@[simp] theorem q315 {a} : evI Φ γ (.enum a) e = (ev Φ γ a e).bdI fun f d e1 => enumI f e1 (late f d e1) := rfl
@[simp] theorem q316 {a} : evI Φ γ (.items a) e = (ev Φ γ a e).bdI fun f d e1 => itemsI f e1 (late f d e1) := rfl
@[simp] theorem q317 {m} : evT Φ γ m e = (ev Φ γ m e).truth := rfl
@[simp] theorem q318 {tgt body} : forGo tgt body [] e = .nx e := rfl
@[simp] theorem q319 : slOf true d = .ow d := rfl
@[simp] theorem q320 : slOf false d = .fr d := rfl
@[simp] theorem q321 {fk dk} : setIS i d fk dk e = onS (late fk dk e) fun k => onS (owOf (getS e i)) fun x => if keyFl fk x then onS (setD x k d) fun x' => .nx (setS e i (.ow x')) else .st := rfl
@[simp] theorem q322 : keyFl .fr d = true := rfl
@[simp] theorem q323 {ds} : keyFl (.pl i) (.lst ds) = true := rfl
@[simp] theorem q324 {ds} : keyFl .ow (.lst ds) = true := rfl
@[simp] theorem q325 {fk dk} : delIS i fk dk e = onS (late fk dk e) fun k => onS (owOf (getS e i)) fun x => onS (delD x k) fun x' => .nx (setS e i (.ow x')) := rfl
@[simp] theorem q326 : augS i e (some (false, .int n)) = .nx (setS e i (.fr (.int n))) := rfl
@[simp] theorem q327 : retVS i e (.fr d) = .rt false d e := rfl
@[simp] theorem q328 : retVS i e (.ow d) = .rt true d (setS e i .non) := rfl
@[simp] theorem q329 : frzS i e (.fr d) = .nx e := rfl
@[simp] theorem q330 : frzS i e (.ow d) = .nx (setS e i (.fr d)) := rfl
@[simp] theorem q331 {a} : exec Φ γ (.asg i a) e = (ev Φ γ a e).bdS fun f d e1 => keepS f fun o => .nx (setS e1 i (slOf o d)) := rfl
@[simp] theorem q332 {t a} : exec Φ γ (.asgT t a) e = (ev Φ γ a e).bdS fun f d e1 => keepS f fun _ => onS (asgT t d e1) fun e2 => .nx e2 := rfl
@[simp] theorem q333 {k a} : exec Φ γ (.setI i k a) e = (ev Φ γ a e).bdS fun f d e1 => keepS f fun _ => onS (owOf (getS e1 i)) fun _ => (ev Φ γ k e1).bdS fun fk dk e2 => setIS i d fk dk e2 := rfl
@[simp] theorem q334 {k} : exec Φ γ (.delI i k) e = (ev Φ γ k e).bdS fun fk dk e2 => delIS i fk dk e2 := rfl
@[simp] theorem q335 {p a} : exec Φ γ (.aug i p a) e = onS (frOf (getS e i)) fun d0 => (ev Φ γ a e).bdS fun f d e1 => onS (late f d e1) fun d1 => augS i e1 (prim p [d0, d1]) := rfl
@[simp] theorem q336 {a} : exec Φ γ (.ex a) e = (ev Φ γ a e).bdS fun _ _ e1 => .nx e1 := rfl
@[simp] theorem q337 {a} : exec Φ γ (.ret a) e = (ev Φ γ a e).bdS fun f d e1 => keepS f fun o => .rt o d e1 := rfl
@[simp] theorem q338 : exec Φ γ (.retV i) e = retVS i e (getS e i) := rfl
@[simp] theorem q339 : exec Φ γ .retN e = .rt false .non e := rfl
@[simp] theorem q340 {c a b} : exec Φ γ (.iff c a b) e = (evT Φ γ c e).bdS fun t e1 => if t then execs Φ γ a e1 else execs Φ γ b e1 := rfl
@[simp] theorem q341 {t it b} : exec Φ γ (.for_ t it b) e = (evI Φ γ it e).bdS fun ds ls e1 => (forGo (asgT t) (execs Φ γ b) ds (lockAll ls e1)).env (unlockAll ls e1) := rfl
@[simp] theorem q342 {c b} : exec Φ γ (.whl c b) e = whlGo (evT Φ γ c) (execs Φ γ b) turnsMost e := rfl
@[simp] theorem q343 : exec Φ γ .brk e = .bk e := rfl
@[simp] theorem q344 : exec Φ γ .cnt e = .ct e := rfl
@[simp] theorem q345 : exec Φ γ .pas e = .nx e := rfl
@[simp] theorem q346 : exec Φ γ (.frz i) e = frzS i e (getS e i) := rfl
@[simp] theorem q347 : execs Φ γ [] e = .nx e := rfl
@[simp] theorem q348 {t r} : execs Φ γ (t :: r) e = (exec Φ γ t e).bd (execs Φ γ r) := rfl
@[simp] theorem q349 {refs j} : outsFrom refs j 0 e = [] := rfl
@[simp] theorem q350 {refs j n} : outsFrom refs j (n + 1) e = (if refs.contains j then getS e j else .non) :: outsFrom refs (j + 1) n e := rfl
@[simp] theorem q351 {refs n} : outsOf refs n e = outsFrom refs 0 n e := rfl
@[simp] theorem q352 {refs n as} : RS.out refs n as (.nx e) = .ok false .non (outsOf refs n e) := rfl
@[simp] theorem q353 {refs n as o} : RS.out refs n as (.rt o d e) = .ok (o && keptO refs as e) d (outsOf refs n e) := rfl
@[simp] theorem q354 {refs n as x} : RS.out refs n as (.ex x e) = .ex x (outsOf refs n e) := rfl
@[simp] theorem q355 {refs as} : keptO refs as e = refs.all fun j => !isOwn (getS as j) || isOwn (getS e j) := rfl
@[simp] theorem q356 {refs j} : argsOk refs j [] = true := rfl
@[simp] theorem q357 {refs j x r} : argsOk refs j (x :: r) = ((refs.contains j || !isOwn x) && argsOk refs (j + 1) r) := rfl
@[simp] theorem q358 : isOwn (.fr d) = false := rfl
@[simp] theorem q359 : isOwn (.ow d) = true := rfl
@[simp] theorem q360 : isOwn (.lk d) = true := rfl
@[simp] theorem q361 : isOwn .non = false := rfl
@[simp] theorem q362 : truthy .non = some false := rfl
@[simp] theorem q363 {b} : truthy (.bl b) = some b := rfl
@[simp] theorem q364 {z} : truthy (.int z) = some (z != 0) := rfl
@[simp] theorem q365 {ds} : truthy (.tup ds) = some (!ds.isEmpty) := rfl
@[simp] theorem q366 {ds} : truthy (.lst ds) = some (!ds.isEmpty) := rfl
@[simp] theorem q367 {z} : truthy (.str z) = if z.length ≤ sizeLine then some (z.length != 0) else none := rfl
@[simp] theorem q368 (a : D) (b : D) : prim (.add) [a, b] = pAdd a b := rfl
@[simp] theorem q369 (a : D) (b : D) : prim (.sub) [a, b] = pII (fun i j => some (i - j)) a b := rfl
@[simp] theorem q370 (a : D) (b : D) : prim (.mul) [a, b] = pMul a b := rfl
@[simp] theorem q371 (a : D) (b : D) : prim (.fdiv) [a, b] = pII pFdiv a b := rfl
@[simp] theorem q372 (a : D) (b : D) : prim (.mod) [a, b] = pII pMod a b := rfl
@[simp] theorem q373 (a : D) (b : D) : prim (.pow) [a, b] = pII pPow a b := rfl
@[simp] theorem q374 (a : D) (b : D) : prim (.bor) [a, b] = pII (fun i j => some (Builtin.bitOr i j)) a b := rfl
@[simp] theorem q375 (a : D) (b : D) : prim (.shl) [a, b] = pII pShl a b := rfl
@[simp] theorem q376 (a : D) : prim (.neg) [a] = pNeg a := rfl
@[simp] theorem q377 (a : D) (b : D) : prim (.eq) [a, b] = pEq false a b := rfl
@[simp] theorem q378 (a : D) (b : D) : prim (.ne) [a, b] = pEq true a b := rfl
@[simp] theorem q379 (a : D) (b : D) : prim (.lt) [a, b] = pLt false a b := rfl
@[simp] theorem q380 (a : D) (b : D) : prim (.ge) [a, b] = pLt true a b := rfl
@[simp] theorem q381 (a : D) (b : D) : prim (.gt) [a, b] = pLt false b a := rfl
@[simp] theorem q382 (a : D) (b : D) : prim (.le) [a, b] = pLt true b a := rfl
@[simp] theorem q383 (a : D) (b : D) : prim (.isIn) [a, b] = pIn false a b := rfl
@[simp] theorem q384 (a : D) (b : D) : prim (.notIn) [a, b] = pIn true a b := rfl
@[simp] theorem q385 (a : D) : prim (.isN) [a] = ob (decide (a = .non)) := rfl
@[simp] theorem q386 (a : D) : prim (.notN) [a] = ob (!decide (a = .non)) := rfl
@[simp] theorem q387 (a : D) (i : D) : prim (.idx) [a, i] = pIdx a i := rfl
@[simp] theorem q388 (a : D) (i : D) : prim (.slLo) [a, i] = pCut (oI i) (some none) a := rfl
@[simp] theorem q389 (a : D) (i : D) : prim (.slHi) [a, i] = pCut (some none) (oI i) a := rfl
@[simp] theorem q390 (a : D) (i : D) (j : D) : prim (.slLoHi) [a, i, j] = pCut (oI i) (oI j) a := rfl
@[simp] theorem q391 (a : D) : prim (.len) [a] = pLen a := rfl
@[simp] theorem q392 (a : D) : prim (.toInt) [a] = pInt a := rfl
@[simp] theorem q393 (a : D) : prim (.toStr) [a] = pStr a := rfl
@[simp] theorem q394 (a : D) : prim (.abs) [a] = pAbs a := rfl
@[simp] theorem q395 (a : D) (b : D) : prim (.min2) [a, b] = pII (fun i j => some (if j < i then j else i)) a b := rfl
@[simp] theorem q396 (a : D) (b : D) : prim (.max2) [a, b] = pII (fun i j => some (if j > i then j else i)) a b := rfl
@[simp] theorem q397 (a : D) : prim (.min1) [a] = pBest min none a := rfl
@[simp] theorem q398 (a : D) : prim (.max1) [a] = pBest max none a := rfl
@[simp] theorem q399 (a : D) : prim (.min1n) [a] = pBest min (some .non) a := rfl
@[simp] theorem q400 (a : D) : prim (.sum) [a] = pSum a := rfl
@[simp] theorem q401 (a : D) : prim (.sorted) [a] = pSorted a := rfl
@[simp] theorem q402 (a : D) : prim (.sortedSet) [a] = pSortedSet a := rfl
@[simp] theorem q403 (a : D) : prim (.lenSet) [a] = pLenSet a := rfl
@[simp] theorem q404 (a : D) : prim (.tuple) [a] = pTuple a := rfl
@[simp] theorem q405 (a : D) : prim (.list) [a] = pList a := rfl
@[simp] theorem q406 (a : D) : prim (.all) [a] = pAll (·.all id) a := rfl
@[simp] theorem q407 (a : D) : prim (.any) [a] = pAll (·.any id) a := rfl
@[simp] theorem q408 (a : D) (ts : List Ty) : prim (.isinst ts) [a] = pIsi ts a := rfl
@[simp] theorem q409 (a : D) (b : D) : prim (.join) [a, b] = pJoin a b := rfl
@[simp] theorem q410 (a : D) (b : D) : prim (.index) [a, b] = pIndex a b := rfl
@[simp] theorem q411 (a : D) (b : D) : prim (.count) [a, b] = pCount a b := rfl
@[simp] theorem q412 {i : Int} {j : Int} : pAdd (.int i) (.int j) = some (false, .int (i + j)) := rfl
@[simp] theorem q413 {x : Str} {y : Str} : pAdd (.str x) (.str y) = if x.length + y.length ≤ sizeLine then some (false, .str (x ++ y)) else none := rfl
@[simp] theorem q414 {x : List D} {y : List D} : pAdd (.tup x) (.tup y) = if x.length + y.length ≤ sizeLine then some (false, .tup (x ++ y)) else none := rfl
@[simp] theorem q415 {x : List D} {y : List D} : pAdd (.lst x) (.lst y) = if x.length + y.length ≤ sizeLine then some (true, .lst (x ++ y)) else none := rfl
@[simp] theorem q416 {f : Int → Int → Option Int} {i : Int} {j : Int} : pII f (.int i) (.int j) = (f i j).map fun k => (false, .int k) := rfl
@[simp] theorem q417 {i : Int} {j : Int} : pMul (.int i) (.int j) = if mulOk i j then some (false, .int (i * j)) else none := rfl
@[simp] theorem q418 {x : List D} {j : Int} : pMul (.tup x) (.int j) = if j = 1 ∧ x ≠ [] then some (false, .tup x) else if decide (2 ≤ j) && decide (j ≤ 1000) && decide (x ≠ []) && decide (x.length ≤ 1000) then some (false, .tup (List.replicate j.toNat x).flatten) else none := rfl
@[simp] theorem q419 {x : Str} {j : Int} : pMul (.str x) (.int j) = if decide (-(2 ^ 62) ≤ j) && decide (j < 2 ^ 62) && decide (x.length * j.toNat ≤ sizeLine) then some (false, .str ⟨(List.replicate j.toNat x.cps.toList).flatten.toArray⟩) else none := rfl
@[simp] theorem q420 {i : Int} : pNeg (.int i) = some (false, .int (-i)) := rfl
@[simp] theorem q421 {neg : Bool} {x : D} {ds : List D} : pIn neg (x) (.tup ds) = (pyIn x ds).bind fun b => ob (if neg then !b else b) := by first | rfl | (cases x <;> rfl)
@[simp] theorem q422 {neg : Bool} {x : D} {ds : List D} : pIn neg (x) (.lst ds) = (pyIn x ds).bind fun b => ob (if neg then !b else b) := by first | rfl | (cases x <;> rfl)
@[simp] theorem q423 {neg : Bool} {x : D} {ks : List D} {vs : List D} : pIn neg (x) (.dct ks vs) = if keyOk x ks then ob (if neg then !dHas x ks else dHas x ks) else none := by first | rfl | (cases x <;> rfl)
@[simp] theorem q424 {neg : Bool} {x : Str} {y : Str} : pIn neg (.str x) (.str y) = ob (if neg then !strIn x y else strIn x y) := by first | rfl | (cases x <;> rfl)
@[simp] theorem q425 {ks : List D} {vs : List D} {k : D} : pIdx (.dct ks vs) (k) = if keyOk k ks then (dGet k ks vs).map fun v => (false, v) else none := rfl
@[simp] theorem q426 {ds : List D} {i : D} : pIdx (.tup ds) i = (idxD (.tup ds) i).map fun v => (false, v) := rfl
@[simp] theorem q427 {ds : List D} {i : D} : pIdx (.lst ds) i = (idxD (.lst ds) i).map fun v => (false, v) := rfl
@[simp] theorem q428 {s : Str} {i : D} : pIdx (.str s) i = (idxD (.str s) i).map fun v => (false, v) := rfl
@[simp] theorem q429 {s : Str} : pLen (.str s) = if s.length ≤ sizeLine then some (false, .int s.length) else none := rfl
@[simp] theorem q430 {ds : List D} : pLen (.tup ds) = some (false, .int ds.length) := rfl
@[simp] theorem q431 {ds : List D} : pLen (.lst ds) = some (false, .int ds.length) := rfl
@[simp] theorem q432 {ks : List D} {vs : List D} : pLen (.dct ks vs) = some (false, .int ks.length) := rfl
@[simp] theorem q433 {i : Int} : pInt (.int i) = some (false, .int i) := rfl
@[simp] theorem q434 {b : Bool} : pInt (.bl b) = some (false, .int (if b then 1 else 0)) := rfl
@[simp] theorem q435 {s : Str} : pInt (.str s) = if s.length ≤ 640 then (PySem.intText? s).map fun n => (false, .int n) else none := rfl
@[simp] theorem q436 {i : Int} : pStr (.int i) = if i.natAbs.log2 < 1920 then some (false, .str (toString i)) else none := rfl
@[simp] theorem q437 {i : Int} : pAbs (.int i) = some (false, .int (if i < 0 then -i else i)) := rfl
@[simp] theorem q438 {s : Str} {ds : List D} : pJoin (.str s) (.lst ds) = (strs? ds).bind fun xs => if (xs.map (·.length)).sum + xs.length * s.length ≤ 16777216 then some (false, .str (Txt.join s xs)) else none := rfl
@[simp] theorem q439 {neg a b} : pEq neg a b = if eqOk a b then ob (if neg then !D.eq a b else D.eq a b) else none := rfl
@[simp] theorem q440 {neg a b} : pLt neg a b = if ltOk a b then ob (if neg then !D.lt a b else D.lt a b) else none := rfl
@[simp] theorem q441 {z} : int? (.int z) = some z := rfl
@[simp] theorem q442 {z} : oI (.int z) = some (some z) := rfl
@[simp] theorem q443 {ds} : lst? (.lst ds) = some ds := rfl
@[simp] theorem q444 {i j} : pFdiv i j = if decide (0 < j) && decide (j.natAbs.log2 < 9000) then some (i / j) else none := rfl
@[simp] theorem q445 {i j} : pMod i j = if 0 < j then some (i % j) else none := rfl
@[simp] theorem q446 {i j} : pPow i j = if decide (0 ≤ j) && decide (j ≤ 1000000) && decide (i.natAbs < 2 ^ 64) then some (i ^ j.toNat) else none := rfl
@[simp] theorem q447 {i j} : pShl i j = if decide (0 ≤ j) && decide (j ≤ 1000000) && decide (i.natAbs < 2 ^ 64) then some (i * 2 ^ j.toNat) else none := rfl
@[simp] theorem q448 {g dflt a} : pBest g dflt a = ((lst? a).bind ints?).bind fun ns => match ns with | [] => dflt.map fun d => (false, d) | n :: r => some (false, .int (r.foldl g n)) := rfl
@[simp] theorem q449 {a} : pSum a = ((lst? a).bind ints?).map fun ns => (false, .int ns.sum) := rfl
@[simp] theorem q450 {ds} : its? (.lst ds) = some ds := rfl
@[simp] theorem q451 {ds} : its? (.tup ds) = some ds := rfl
@[simp] theorem q452 {ks vs} : its? (.dct ks vs) = some ks := rfl
@[simp] theorem q453 {a} : pSorted a = (its? a).bind fun ds => if sortable ds && decide (ds.length ≤ sizeLine) then some (true, .lst (srt ds)) else none := rfl
@[simp] theorem q454 {a} : pSortedSet a = (seq? a).bind fun ds => if sortable ds && decide (ds.length ≤ sizeLine) && (ds.all keyLeaf || ds.all keyTup) then some (true, .lst (srt (firsts ds))) else none := rfl
@[simp] theorem q455 {a} : pLenSet a = (seq? a).bind fun ds => if decide (ds.length ≤ sizeLine) && (ds.all keyLeaf || ds.all keyTup) then some (false, .int (firsts ds).length) else none := rfl
@[simp] theorem q456 {a} : pTuple a = (seq? a).map fun ds => (false, .tup ds) := rfl
@[simp] theorem q457 {a} : pList a = (its? a).bind fun ds => if ds.length ≤ sizeLine then some (true, .lst ds) else none := rfl
@[simp] theorem q458 {g a} : pAll g a = ((lst? a).bind bls?).bind fun bs => ob (g bs) := rfl
@[simp] theorem q459 {ts} : pIsi ts d = if flatTy d then ob (ts.any (isTy d)) else none := rfl
@[simp] theorem q460 {a x} : pIndex a x = (seq? a).bind fun ds => if x.pl && decide (x.dep ≤ 60) && ds.all (·.pl) then (idxOf x ds).map fun (n : Nat) => (false, D.int (n : Int)) else none := rfl
@[simp] theorem q461 {a x} : pCount a x = (seq? a).bind fun ds => if x.pl && decide (x.dep ≤ 60) && ds.all (·.pl) then some (false, .int (ds.countP fun d => D.eq d x)) else none := rfl
@[simp] theorem q462 {lo hi a} : pCut lo hi a = lo.bind fun l => hi.bind fun h => cutD a l h := rfl
@[simp] theorem q463 {ds i} : idxD (.tup ds) (.int i) = atI ds i := rfl
@[simp] theorem q464 {ds i} : idxD (.lst ds) (.int i) = atI ds i := rfl
@[simp] theorem q465 {s : Str} {i} : idxD (.str s) (.int i) = if s.length ≤ sizeLine then (atI s.cps.toList i).map fun c => .str ⟨#[c]⟩ else none := rfl
@[simp] theorem q466 {x lo hi} : cutD (.tup x) lo hi = some (false, .tup (cutL x lo hi)) := rfl
@[simp] theorem q467 {x lo hi} : cutD (.lst x) lo hi = some (true, .lst (cutL x lo hi)) := rfl
@[simp] theorem q468 {x lo hi} : cutD (.str x) lo hi = if x.length ≤ sizeLine then some (false, .str (cutS x lo hi)) else none := rfl
@[simp] theorem q469 {x v k : D} {ds ks vs xs : List D} {i : Int} : muD .append (.lst ds) [x] = if ds.length < sizeLine then some (.lst (ds ++ [x]), .non) else none := rfl
@[simp] theorem q470 {x v k : D} {ds ks vs xs : List D} {i : Int} : muD .extend (.lst ds) [.lst xs] = if ds.length + xs.length ≤ sizeLine then some (.lst (ds ++ xs), .non) else none := rfl
@[simp] theorem q471 {x v k : D} {ds ks vs xs : List D} {i : Int} : muD .pop (.lst ds) [] = (ds[ds.length - 1]?).map fun y => (.lst ds.dropLast, y) := rfl
@[simp] theorem q472 {x v k : D} {ds ks vs xs : List D} {i : Int} : muD .popAt (.lst ds) [.int i] = if decide (0 ≤ i) && decide (i < 2 ^ 62) then (ds[i.toNat]?).map fun y => (.lst (ds.eraseIdx i.toNat), y) else none := rfl
@[simp] theorem q473 {x v k : D} {ds ks vs xs : List D} {i : Int} : muD .insert (.lst ds) [.int i, x] = if decide (0 ≤ i) && decide (i.toNat ≤ ds.length) && decide (ds.length < sizeLine) then some (.lst (ds.take i.toNat ++ x :: ds.drop i.toNat), .non) else none := rfl
@[simp] theorem q474 {x v k : D} {ds ks vs xs : List D} {i : Int} : muD .reverse (.lst ds) [] = some (.lst ds.reverse, .non) := rfl
@[simp] theorem q475 {x v k : D} {ds ks vs xs : List D} {i : Int} : muD .remove (.lst ds) [x] = if x.pl && decide (x.dep ≤ 60) && ds.all (·.pl) then (idxOf x ds).map fun n => (.lst (ds.eraseIdx n), .non) else none := rfl
@[simp] theorem q476 {x v k : D} {ds ks vs xs : List D} {i : Int} : muD .setdefault (.dct ks vs) [k, v] = if keyOk k ks && decide (ks.length < sizeLine) then (match dGet k ks vs with
    | some w => some (.dct ks vs, w)
    | none => some (.dct (ks ++ [k]) (vs ++ [v]), v)) else none := rfl
@[simp] theorem q477 {ds i v} : setD (.lst ds) (.int i) v = (ixN ds.length i).map fun j => .lst (ds.set j v) := rfl
@[simp] theorem q478 {ks vs k v} : setD (.dct ks vs) k v = if keyOk k ks && decide (ks.length < sizeLine) then some (.dct (dPut k v ks vs).1 (dPut k v ks vs).2) else none := rfl
@[simp] theorem q479 {ks vs k} : delD (.dct ks vs) k = if keyOk k ks && dHas k ks then some (.dct (ks.erase k) (dDelV k ks vs)) else none := rfl
@[simp] theorem q480 : ints? [] = some [] := rfl
@[simp] theorem q481 {i r} : ints? (.int i :: r) = (ints? r).map (i :: ·) := rfl
@[simp] theorem q482 : bls? [] = some [] := rfl
@[simp] theorem q483 {b r} : bls? (.bl b :: r) = (bls? r).map (b :: ·) := rfl
@[simp] theorem q484 : strs? [] = some [] := rfl
@[simp] theorem q485 {z r} : strs? (.str z :: r) = (strs? r).map (z :: ·) := rfl
@[simp] theorem q486 {i} : isTy (.int i) .tInt = true := rfl
@[simp] theorem q487 {i} : isTy (.int i) .tStr = false := rfl
@[simp] theorem q488 {i} : isTy (.int i) .tBool = false := rfl
@[simp] theorem q489 {i} : isTy (.int i) .tTuple = false := rfl
@[simp] theorem q490 {i} : isTy (.int i) .tList = false := rfl
@[simp] theorem q491 {i} : flatTy (.int i) = true := rfl
@[simp] theorem q492 {b} : isTy (.bl b) .tInt = true := rfl
@[simp] theorem q493 {b} : isTy (.bl b) .tStr = false := rfl
@[simp] theorem q494 {b} : isTy (.bl b) .tBool = true := rfl
@[simp] theorem q495 {b} : isTy (.bl b) .tTuple = false := rfl
@[simp] theorem q496 {b} : isTy (.bl b) .tList = false := rfl
@[simp] theorem q497 {b} : flatTy (.bl b) = true := rfl
@[simp] theorem q498 {z} : isTy (.str z) .tInt = false := rfl
@[simp] theorem q499 {z} : isTy (.str z) .tStr = true := rfl
@[simp] theorem q500 {z} : isTy (.str z) .tBool = false := rfl
@[simp] theorem q501 {z} : isTy (.str z) .tTuple = false := rfl
@[simp] theorem q502 {z} : isTy (.str z) .tList = false := rfl
@[simp] theorem q503 {z} : flatTy (.str z) = true := rfl
@[simp] theorem q504 {ds} : isTy (.tup ds) .tInt = false := rfl
@[simp] theorem q505 {ds} : isTy (.tup ds) .tStr = false := rfl
@[simp] theorem q506 {ds} : isTy (.tup ds) .tBool = false := rfl
@[simp] theorem q507 {ds} : isTy (.tup ds) .tTuple = true := rfl
@[simp] theorem q508 {ds} : isTy (.tup ds) .tList = false := rfl
@[simp] theorem q509 {ds} : flatTy (.tup ds) = true := rfl
@[simp] theorem q510 {ds} : isTy (.lst ds) .tInt = false := rfl
@[simp] theorem q511 {ds} : isTy (.lst ds) .tStr = false := rfl
@[simp] theorem q512 {ds} : isTy (.lst ds) .tBool = false := rfl
@[simp] theorem q513 {ds} : isTy (.lst ds) .tTuple = false := rfl
@[simp] theorem q514 {ds} : isTy (.lst ds) .tList = true := rfl
@[simp] theorem q515 {ds} : flatTy (.lst ds) = true := rfl
@[simp] theorem q516  : isTy (.non) .tInt = false := rfl
@[simp] theorem q517  : isTy (.non) .tStr = false := rfl
@[simp] theorem q518  : isTy (.non) .tBool = false := rfl
@[simp] theorem q519  : isTy (.non) .tTuple = false := rfl
@[simp] theorem q520  : isTy (.non) .tList = false := rfl
@[simp] theorem q521  : flatTy (.non) = true := rfl
@[simp] theorem q522 {b} : ob b = some (false, .bl b) := rfl
@[simp] theorem q523 {i} : D.pl (.int i) = true := rfl
@[simp] theorem q524 {i} : D.dep (.int i) = 0 := rfl
@[simp] theorem q525 {b} : D.pl (.bl b) = true := rfl
@[simp] theorem q526 {b} : D.dep (.bl b) = 0 := rfl
@[simp] theorem q527 {z} : D.pl (.str z) = true := rfl
@[simp] theorem q528 {z} : D.dep (.str z) = 0 := rfl
@[simp] theorem q529  : D.pl (.non) = true := rfl
@[simp] theorem q530  : D.dep (.non) = 0 := rfl
@[simp] theorem q531 {ds} : D.pl (.tup ds) = D.pls ds := rfl
@[simp] theorem q532 {ds} : D.pl (.lst ds) = D.pls ds := rfl
@[simp] theorem q533 : D.pls [] = true := rfl
@[simp] theorem q534 {x r} : D.pls (x :: r) = (D.pl x && D.pls r) := rfl
@[simp] theorem q535 {ds} : D.dep (.tup ds) = D.deps ds + 1 := rfl
@[simp] theorem q536 {ds} : D.dep (.lst ds) = D.deps ds + 1 := rfl
@[simp] theorem q537 : D.deps [] = 0 := rfl
@[simp] theorem q538 {x r} : D.deps (x :: r) = max (D.dep x) (D.deps r) := rfl
end
end PF
set_option Elab.async false
set_option linter.all false
set_option maxRecDepth 100000
set_option maxHeartbeats 1000000
/-! PL: the plain side: loops and comprehensions of the evaluator. -/
namespace PF
open PySem PySem.Spec PyProof.Rows L2
def Lint (ns : List Int) : D := .lst (ns.map .int)
@[simp] theorem eqII (a b : Int) : D.eq (.int a) (.int b) = decide (a = b) := by simp [D.eq, D.py, PyData.eqv, Bool.beq_eq_decide_eq]
@[simp] theorem eqSS (a b : Str) : D.eq (.str a) (.str b) = decide (a = b) := by simp [D.eq, D.py, PyData.eqv, Bool.beq_eq_decide_eq]
@[simp] theorem eqBB (a b : Bool) : D.eq (.bl a) (.bl b) = decide (a = b) := by cases a <;> cases b <;> rfl
@[simp] theorem eqOkII (a b : Int) : eqOk (.int a) (.int b) = true := rfl
@[simp] theorem eqOkSS (a b : Str) : eqOk (.str a) (.str b) = true := rfl
@[simp] theorem eqOkBB (a b : Bool) : eqOk (.bl a) (.bl b) = true := rfl
@[simp] theorem ltII (a b : Int) : D.lt (.int a) (.int b) = decide (a < b) := W.dataLt_int a b
@[simp] theorem ltOkII (a b : Int) : ltOk (.int a) (.int b) = true := by simp [ltOk, D.alk, D.py, W.alike, D.pl, D.dep]
@[simp] theorem slE : sizeLine = 16777216 := sizeLine_eq
@[simp] theorem nat1_ne (n : Nat) : (((n : Nat) : Int) + 1 = 0) = False := eq_false (by omega)
theorem lcGo_map {tgt : D → Env → Option Env} {tst : Env → RT} {elt : Env → RE} (P : Env → Prop) (g : D → D) : ∀ (ds : List D) (e : Env) (acc : List D), P e →
    (∀ d ∈ ds, ∀ e, P e → ∃ e1 e2 e3, tgt d e = some e1 ∧ tst e1 = .ok true e2 ∧ (elt e2 = .ok .fr (g d) e3 ∨ elt e2 = .ok .ow (g d) e3) ∧ P e3) → acc.length + ds.length ≤ sizeLine → ∃ e', P e' ∧ lcGo tgt tst elt ds e acc = .ok (acc ++ ds.map g) e'
  | [], e, acc, hP, _, _ => ⟨e, hP, by rw [lcGo, List.map_nil, List.append_nil]⟩
  | d :: ds, e, acc, hP, h, hl => by
    obtain ⟨e1, e2, e3, h1, h2, h3, h4⟩ := h d List.mem_cons_self e hP
    rw [List.length_cons] at hl
    obtain ⟨e', h5, h6⟩ := lcGo_map P g ds e3 (acc ++ [g d]) h4 (fun d hd => h d (List.mem_cons_of_mem _ hd)) (by rw [List.length_append, List.length_singleton]; omega)
    refine ⟨e', h5, ?_⟩
    rw [lcGo, h1]
    simp only [onL, h2, RT.bdL, if_pos]
    rcases h3 with h3 | h3 <;> (rw [h3]; simp only [RE.bdL, keepL]; rw [if_pos (by omega), h6]; simp)
/-- a comprehension whose values are only known to exist -/
theorem lcGo_ex {tgt : D → Env → Option Env} {tst : Env → RT} {elt : Env → RE} (P : Env → Prop) (V : D → Prop) : ∀ (ds : List D) (e : Env) (acc : List D), P e → (∀ v ∈ acc, V v) →
    (∀ d ∈ ds, ∀ e, P e → ∃ e1 e2 e3 v, tgt d e = some e1 ∧ tst e1 = .ok true e2 ∧ (elt e2 = .ok .fr v e3 ∨ elt e2 = .ok .ow v e3) ∧ V v ∧ P e3) → acc.length + ds.length ≤ sizeLine → ∃ e' vs, P e' ∧ (∀ v ∈ vs, V v) ∧ vs.length = acc.length + ds.length ∧ lcGo tgt tst elt ds e acc = .ok vs e'
  | [], e, acc, hP, hV, _, _ => ⟨e, acc, hP, hV, rfl, by rw [lcGo]⟩
  | d :: ds, e, acc, hP, hV, h, hl => by
    obtain ⟨e1, e2, e3, v, h1, h2, h3, h4, h4'⟩ := h d List.mem_cons_self e hP
    rw [List.length_cons] at hl
    obtain ⟨e', vs, h5, h6, h7, h8⟩ := lcGo_ex P V ds e3 (acc ++ [v]) h4' (fun w hw => (List.mem_append.mp hw).elim (hV w) fun z => by rw [List.mem_singleton.mp z]; exact h4) (fun d hd => h d (List.mem_cons_of_mem _ hd)) (by rw [List.length_append, List.length_singleton]; omega)
    refine ⟨e', vs, h5, h6, by rw [h7, List.length_append, List.length_singleton, List.length_cons]; omega, ?_⟩
    rw [lcGo, h1]
    simp only [onL, h2, RT.bdL, if_pos]
    rcases h3 with h3 | h3 <;> (rw [h3]; simp only [RE.bdL, keepL]; rw [if_pos (by omega), h8])
theorem forGo_inv {tgt : D → Env → Option Env} {body : Env → RS} (I : Nat → Env → Prop) : ∀ (ds : List D) (n : Nat) (e : Env), I n e →
    (∀ i d e, ds[i]? = some d → I (n + i) e → ∃ e1 e2, tgt d e = some e1 ∧ (body e1 = .nx e2 ∨ body e1 = .ct e2) ∧ I (n + i + 1) e2) → ∃ e', I (n + ds.length) e' ∧ forGo tgt body ds e = .nx e'
  | [], n, e, h0, _ => ⟨e, h0, by rw [forGo]⟩
  | d :: ds, n, e, h0, h => by
    obtain ⟨e1, e2, h1, h2, h3⟩ := h 0 d e rfl h0
    obtain ⟨e', h4, h5⟩ := forGo_inv I ds (n + 1) e2 h3 fun i d' e' hd hi => by
      have := h (i + 1) d' e' (by simpa using hd) (by rw [show n + (i + 1) = n + 1 + i by omega]; exact hi)
      rw [show n + (i + 1) + 1 = n + 1 + i + 1 by omega] at this
      exact this
    refine ⟨e', by rw [List.length_cons, show n + (ds.length + 1) = n + 1 + ds.length by omega]; exact h4, ?_⟩
    rw [forGo, h1]
    simp only [onS]
    rcases h2 with h2 | h2 <;> (rw [h2]; simp only [RS.lp]; exact h5)
theorem bits_small {a : Int} (h1 : -(2 ^ 64) < a) (h2 : a < 2 ^ 64) : bits a ≤ 64 := intBits_le_64 h1 h2
theorem mulOk_l {a b : Int} (h1 : -(2 ^ 64) < a) (h2 : a < 2 ^ 64) : mulOk a b = true := by
  unfold mulOk; rw [decide_eq_true (bits_small h1 h2)]; rfl
theorem mulOk_r {a b : Int} (h1 : -(2 ^ 64) < b) (h2 : b < 2 ^ 64) : mulOk a b = true := by
  unfold mulOk; rw [decide_eq_true (bits_small h1 h2)]; simp
theorem execs_app {Φ : Str → List Sl → FR} {γ : Str → Option D} : ∀ (a b : List S) (e : Env), execs Φ γ (a ++ b) e = (execs Φ γ a e).bd (execs Φ γ b)
  | [], b, e => by rw [execs]; rfl
  | s :: a, b, e => by
    rw [List.cons_append, execs, execs]
    cases exec Φ γ s e with
    | nx e1 => simp only [RS.bd]; exact execs_app a b e1
    | _ => rfl
/-! ### lists of ints -/
theorem ixN_nat {n i : Nat} (h : i < n) : ixN n (i : Int) = some i := by
  unfold ixN
  simp
  omega
theorem atI_nat {α : Type} {xs : List α} {i : Nat} (h : i < xs.length) : atI xs (i : Int) = some xs[i] := by
  unfold atI
  rw [ixN_nat h]
  exact List.getElem?_eq_getElem h
theorem atI_map {α β : Type} (f : α → β) (xs : List α) (i : Int) : atI (xs.map f) i = (atI xs i).map f := by
  unfold atI
  rw [List.length_map]
  cases ixN xs.length i with
  | none => rfl
  | some j => simp
@[simp] theorem lint_inj (a b : List Int) : (Lint a = Lint b) = (a = b) := by
  have inj : ∀ a b : List Int, a.map D.int = b.map D.int → a = b := by
    intro a
    induction a with
    | nil => intro b h; cases b with
      | nil => rfl
      | cons _ _ => simp at h
    | cons x r ih => intro b h; cases b with
      | nil => simp at h
      | cons y t =>
        simp only [List.map_cons, List.cons.injEq, D.int.injEq] at h
        rw [h.1, ih t h.2]
  refine propext ⟨fun h => inj a b (by unfold Lint at h; injection h), fun h => by rw [h]⟩
@[simp] theorem lint_len (ns : List Int) : pLen (Lint ns) = some (false, .int ns.length) := by simp [Lint]
@[simp] theorem lint_idx (ns : List Int) (i : Int) : pIdx (Lint ns) (.int i) = (atI ns i).map fun z => (false, D.int z) := by
  show ((atI (ns.map D.int) i).map fun v => (false, v)) = _
  rw [atI_map]
  cases atI ns i <;> rfl
@[simp] theorem lint_fits (m : Mu) (ns : List Int) : slotFits m (.ow (Lint ns)) = !muIsDict m := rfl
@[simp] theorem lint_truthy (ns : List Int) : PF.truthy (Lint ns) = some (!ns.isEmpty) := by cases ns <;> rfl
@[simp] theorem lint_seqI (f : Fl) (e : Env) (ns : List Int) : seqI f e (some (Lint ns)) = .ok (ns.map .int) (lockOf f) e := rfl
@[simp] theorem lint_app (ns : List Int) (z : Int) : muD .append (Lint ns) [.int z] = if ns.length < 16777216 then some (Lint (ns ++ [z]), .non) else none := by
  show (if (ns.map D.int).length < sizeLine then some (D.lst (ns.map D.int ++ [.int z]), D.non) else none) = _
  simp [Lint]
/-- an index within -/
theorem atI_in {ns : List Int} {i : Int} (h0 : 0 ≤ i) (h1 : i < ns.length) : ∃ z, atI ns i = some z ∧ z ∈ ns := by
  obtain ⟨j, rfl⟩ : ∃ j : Nat, i = (j : Int) := ⟨i.toNat, by omega⟩
  have hj : j < ns.length := by omega
  exact ⟨ns[j], atI_nat hj, List.getElem_mem hj⟩
/-! ### texts -/
def ch (c : Nat) : Str := ⟨#[c]⟩
theorem str_idx {s : Str} {i : Int} (h0 : 0 ≤ i) (h1 : i < s.length) (h2 : s.length ≤ 16777216) : ∃ c, c ∈ s.cps.toList ∧ pIdx (.str s) (.int i) = some (false, .str (ch c)) := by
  have hl : s.cps.toList.length = s.length := by simp [Str.length]
  obtain ⟨j, rfl⟩ : ∃ j : Nat, i = (j : Int) := ⟨i.toNat, by omega⟩
  have hj : j < s.cps.toList.length := by omega
  refine ⟨s.cps.toList[j], List.getElem_mem hj, ?_⟩
  show (if s.length ≤ sizeLine then (atI s.cps.toList (j : Int)).map fun c => D.str ⟨#[c]⟩ else none).map (fun v => (false, v)) = _
  rw [if_pos (by simpa using h2), atI_nat hj]
  rfl
theorem pLen_str {s : Str} (h : s.length ≤ 16777216) : pLen (.str s) = some (false, .int s.length) := by
  show (if s.length ≤ sizeLine then some (false, D.int s.length) else none) = _
  rw [if_pos (by simpa using h)]
theorem strs_ch : ∀ cs : List Nat, strs? (cs.map fun c => D.str (ch c)) = some (cs.map ch)
  | [] => rfl
  | c :: r => by
    rw [List.map_cons, List.map_cons]
    show (strs? (r.map fun c => D.str (ch c))).map (ch c :: ·) = _
    rw [strs_ch r]; rfl
theorem sum_ch : ∀ cs : List Nat, ((cs.map ch).map (·.length)).sum = cs.length
  | [] => rfl
  | c :: r => by
    have e : (ch c).length = 1 := rfl
    simp only [List.map_cons, List.sum_cons, List.length_cons, sum_ch r, e]; omega
theorem join_ch : ∀ cs : List Nat, Str.join ⟨#[]⟩ (cs.map ch) = ⟨cs.toArray⟩
  | [] => rfl
  | [c] => rfl
  | c :: d :: r => by
    show ch c ++ ⟨#[]⟩ ++ Str.join ⟨#[]⟩ ((d :: r).map ch) = _
    rw [join_ch (d :: r)]
    show (⟨#[c] ++ #[] ++ (d :: r).toArray⟩ : Str) = _
    simp
theorem pJoin_ch {cs : List Nat} (h : cs.length ≤ 16777216) : pJoin (.str "") (.lst (cs.map fun c => D.str (ch c))) = some (false, .str ⟨cs.toArray⟩) := by
  have e0 : ("" : Str) = ⟨#[]⟩ := by decide
  show ((strs? (cs.map fun c => D.str (ch c))).bind fun xs => if (xs.map (·.length)).sum + xs.length * ("" : Str).length ≤ 16777216 then some (false, D.str (Txt.join "" xs)) else none) = _
  rw [strs_ch, Option.bind_some, sum_ch, e0]
  have e1 : (⟨#[]⟩ : Str).length = 0 := rfl
  rw [e1, Nat.mul_zero, Nat.add_zero, if_pos h]
  show some (false, D.str (Builtin.Str.glued ⟨#[]⟩ (cs.map ch))) = _
  rw [StrLaws.glued_eq_join, join_ch]
/-- values that are single characters -/
theorem chs_of : ∀ {vs : List D} {p : Nat → Prop}, (∀ v ∈ vs, ∃ c, v = .str (ch c) ∧ p c) → ∃ cs : List Nat, vs = cs.map (fun c => D.str (ch c)) ∧ ∀ c ∈ cs, p c
  | [], _, _ => ⟨[], rfl, fun _ h => by simp at h⟩
  | v :: r, p, h => by
    obtain ⟨c, rfl, hc⟩ := h v List.mem_cons_self
    obtain ⟨cs, rfl, hcs⟩ := chs_of fun w hw => h w (List.mem_cons_of_mem _ hw)
    exact ⟨c :: cs, rfl, fun d hd => by
      rcases List.mem_cons.mp hd with rfl | hd
      · exact hc
      · exact hcs d hd⟩
end PF
set_option Elab.async false
set_option linter.all false
set_option maxRecDepth 100000
set_option maxHeartbeats 0
namespace PF
open PySem PySem.Spec PyProof.Rows L2
def top (i : Nat) : Stmt := PySem.Challenge.pw_anyworth_k27_words_and_rows.main.body.getD i (.Pass ⟨0, 0, 0, 0⟩)
def lp_is_word_1 : List S := [.iff (.op .notIn [(.pk 1), (.gl "LETTERS")]) [.ret (.lit (.bl false))] []]
/-- is_word(text) -/
def fn_is_word : Fn := ⟨1, 2, [], [.for_ (.nm 1) (.seq (.pk 0)) lp_is_word_1,
  .ret (.op .ne [(.pk 0), (.lit (.str ""))])]⟩
def df_is_word : Df := ⟨"is_word", ["text", "char"], ["text"], fn_is_word, defArgs (top 3), defBody (top 3), defScope (top 3)⟩
/-- is_value(value) -/
def fn_is_value : Fn := ⟨1, 1, [], [.ret (.boo false [(.not_ (.op (.isinst [.tStr]) [(.pk 0)])), (.call "is_word" [(.var 0)])])]⟩
def df_is_value : Df := ⟨"is_value", ["value"], ["value"], fn_is_value, defArgs (top 4), defBody (top 4), defScope (top 4)⟩
/-- is_row(row) -/
def fn_is_row : Fn := ⟨1, 2, [], [.ret (.boo true [(.op .le [(.op .len [(.pk 0)]), (.gl "LONGEST")]), (.op .all [(.lc [1] (.nm 1) (.seq (.pk 0)) [] (.call "is_value" [(.var 1)]))])])]⟩
def df_is_row : Df := ⟨"is_row", ["row", "value"], ["row"], fn_is_row, defArgs (top 5), defBody (top 5), defScope (top 5)⟩
def lp_l_draws_1 : List S := [.asg 7 (.op .mod [(.pk 5), (.op .len [(.pk 2)])]), .iff (.op .ge [(.op .idx [(.pk 2), (.pk 7)]), (.op .pow [(.lit (.int 10)), (.lit (.int 18))])]) [.ex (.mu .append 4 [(.op .mod [(.op .toInt [(.op .idx [(.pk 3), (.pk 7)])]), (.lit (.int 1000))])]), .setI 3 (.var 7) (.op .fdiv [(.op .idx [(.pk 3), (.pk 7)]), (.lit (.int 1000))])] [.asg 8 (.op .mod [(.op .toInt [(.op .add [(.op .add [(.op .mul [(.op .idx [(.pk 2), (.pk 7)]), (.lit (.int 48271))]), (.op .mul [(.pk 5), (.lit (.int 69621))])]), (.lit (.int 11))])]), (.lit (.int 2147483647))]), .ex (.mu .append 4 [(.op .mod [(.op .toInt [(.op .add [(.op .add [(.op .mul [(.pk 8), (.pk 8)]), (.op .mul [(.lit (.int 3)), (.pk 8)])]), (.pk 5)])]), (.lit (.int 1000003))])])]]
/-- _law_draws(_law_script, _law_many) -/
def fn_l_draws : Fn := ⟨2, 9, [], [.asg 2 (.lc [6] (.nm 6) (.seq (.pk 0)) [] (.op .toInt [(.pk 6)])),
  .iff (.op .eq [(.op .len [(.pk 2)]), (.lit (.int 0))]) [.ex (.mu .append 2 [(.lit (.int 0))])] [],
  .asg 3 (.op .list [(.pk 2)]),
  .asg 4 (.lst []),
  .for_ (.nm 5) (.rng1 (.pk 1)) lp_l_draws_1,
  .ex (.mu .reverse 4 []),
  .retV 4]⟩
def df_l_draws : Df := ⟨"_law_draws", ["_law_script", "_law_many", "_law_cells", "_law_rest", "_law_draws_here", "_law_k", "_law_cell", "_law_at", "_law_mixed"], ["_law_script", "_law_many"], fn_l_draws, defArgs (top 7), defBody (top 7), defScope (top 7)⟩
/-- _law_take(_law_draws_here, _law_many) -/
def fn_l_take : Fn := ⟨2, 2, [0], [.iff (.op .eq [(.op .len [(.pk 0)]), (.lit (.int 0))]) [.ret (.lit (.int 0))] [],
  .ret (.op .mod [(.op .toInt [(.mu .pop 0 [])]), (.pk 1)])]⟩
def df_l_take : Df := ⟨"_law_take", ["_law_draws_here", "_law_many"], ["_law_draws_here", "_law_many"], fn_l_take, defArgs (top 8), defBody (top 8), defScope (top 8)⟩
def lp_l_size_1 : List S := [.asg 3 (.op .add [(.op .mul [(.pk 3), (.lit (.int 1000))]), (.call "_law_take" [(.pk 0), (.lit (.int 1000))])])]
/-- _law_size(_law_draws_here, _law_script) -/
def fn_l_size : Fn := ⟨2, 5, [0], [.asg 2 (.call "_law_take" [(.pk 0), (.lit (.int 8))]),
  .iff (.op .lt [(.pk 2), (.lit (.int 5))]) [.ret (.call "_law_take" [(.pk 0), (.lit (.int 12))])] [],
  .iff (.op .eq [(.pk 2), (.lit (.int 5))]) [.ret (.call "_law_take" [(.pk 0), (.lit (.int 100))])] [],
  .iff (.boo false [(.op .eq [(.pk 2), (.lit (.int 6))]), (.op .eq [(.op .len [(.pk 1)]), (.lit (.int 0))])]) [.asg 3 (.lit (.int 0)), .for_ (.nm 4) (.rng1 (.lit (.int 5))) lp_l_size_1, .retV 3] [],
  .ret (.op .abs [(.op .toInt [(.op .idx [(.pk 1), (.call "_law_take" [(.pk 0), (.op .len [(.pk 1)])])])])])]⟩
def df_l_size : Df := ⟨"_law_size", ["_law_draws_here", "_law_script", "_law_kind", "_law_number_here", "_law_k"], ["_law_draws_here", "_law_script"], fn_l_size, defArgs (top 9), defBody (top 9), defScope (top 9)⟩
/-- _law_same(_law_actual, _law_due) -/
def fn_l_same : Fn := ⟨2, 3, [], [.iff (.op (.isinst [.tTuple, .tList]) [(.pk 1)]) [.iff (.boo false [(.op .ne [(.op (.isinst [.tTuple]) [(.pk 0)]), (.op (.isinst [.tTuple]) [(.pk 1)])]), (.op .ne [(.op (.isinst [.tList]) [(.pk 0)]), (.op (.isinst [.tList]) [(.pk 1)])])]) [.ret (.lit (.bl false))] [], .iff (.op .ne [(.op .len [(.pk 0)]), (.op .len [(.pk 1)])]) [.ret (.lit (.bl false))] [], .ret (.op .notIn [(.lit (.bl false)), (.lc [2] (.nm 2) (.rng1 (.op .len [(.pk 1)])) [] (.call "_law_same" [(.op .idx [(.pk 0), (.pk 2)]), (.op .idx [(.pk 1), (.pk 2)])]))])] [],
  .iff (.boo false [(.op .ne [(.op (.isinst [.tBool]) [(.pk 0)]), (.op (.isinst [.tBool]) [(.pk 1)])]), (.op .ne [(.op (.isinst [.tInt]) [(.pk 0)]), (.op (.isinst [.tInt]) [(.pk 1)])])]) [.ret (.lit (.bl false))] [],
  .iff (.boo false [(.op .ne [(.op (.isinst [.tStr]) [(.pk 0)]), (.op (.isinst [.tStr]) [(.pk 1)])]), (.op .ne [(.op .isN [(.pk 0)]), (.op .isN [(.pk 1)])])]) [.ret (.lit (.bl false))] [],
  .ret (.op .eq [(.pk 0), (.pk 1)])]⟩
def df_l_same : Df := ⟨"_law_same", ["_law_actual", "_law_due", "_law_k"], ["_law_actual", "_law_due"], fn_l_same, defArgs (top 10), defBody (top 10), defScope (top 10)⟩
def lp_l_is_word_1 : List S := [.iff (.op .notIn [(.pk 1), (.lit (.str "abcdefghijklmnopqrstuvwxyz"))]) [.ret (.lit (.bl false))] []]
/-- _law_is_word(_law_text_here) -/
def fn_l_is_word : Fn := ⟨1, 2, [], [.for_ (.nm 1) (.seq (.pk 0)) lp_l_is_word_1,
  .ret (.op .gt [(.op .len [(.pk 0)]), (.lit (.int 0))])]⟩
def df_l_is_word : Df := ⟨"_law_is_word", ["_law_text_here", "_law_char_here"], ["_law_text_here"], fn_l_is_word, defArgs (top 11), defBody (top 11), defScope (top 11)⟩
/-- _law_number(_law_draws_here, _law_script) -/
def fn_l_number : Fn := ⟨2, 2, [0], [.ret (.op .mul [(.call "_law_size" [(.pk 0), (.var 1)]), (.op .sub [(.lit (.int 1)), (.op .mul [(.lit (.int 2)), (.call "_law_take" [(.pk 0), (.lit (.int 2))])])])])]⟩
def df_l_number : Df := ⟨"_law_number", ["_law_draws_here", "_law_script"], ["_law_draws_here", "_law_script"], fn_l_number, defArgs (top 12), defBody (top 12), defScope (top 12)⟩
/-- _law_char(_law_draws_here) -/
def fn_l_char : Fn := ⟨1, 2, [0], [.asg 1 (.lit (.str " !\"#$&'()*+,-./0123456789:;<=>?@ABCDEFGHIJKLMNOPQRSTUVWXYZ[\\]^_`")),
  .asg 1 (.op .add [(.pk 1), (.lit (.str "abcdefghijklmnopqrstuvwxyz{|}~\n\t"))]),
  .ret (.op .idx [(.pk 1), (.call "_law_take" [(.pk 0), (.op .len [(.pk 1)])])])]⟩
def df_l_char : Df := ⟨"_law_char", ["_law_draws_here", "_law_chars"], ["_law_draws_here"], fn_l_char, defArgs (top 13), defBody (top 13), defScope (top 13)⟩
/-- _law_letters(_law_draws_here) -/
def fn_l_letters : Fn := ⟨1, 5, [0], [.asg 1 (.op .add [(.lit (.int 1)), (.call "_law_take" [(.pk 0), (.lit (.int 5))])]),
  .iff (.op .eq [(.call "_law_take" [(.pk 0), (.lit (.int 6))]), (.lit (.int 0))]) [.asg 1 (.op .add [(.lit (.int 1)), (.call "_law_take" [(.pk 0), (.lit (.int 60))])])] [],
  .asg 2 (.call "_law_take" [(.pk 0), (.lit (.int 26))]),
  .asg 3 (.call "_law_take" [(.pk 0), (.lit (.int 26))]),
  .ret (.op .join [(.lit (.str "")), (.lc [4] (.nm 4) (.rng1 (.pk 1)) [] (.op .idx [(.lit (.str "abcdefghijklmnopqrstuvwxyz")), (.op .mod [(.op .toInt [(.op .add [(.pk 2), (.op .mul [(.pk 4), (.pk 3)])])]), (.lit (.int 26))])]))])]⟩
def df_l_letters : Df := ⟨"_law_letters", ["_law_draws_here", "_law_many", "_law_turn", "_law_step", "_law_k"], ["_law_draws_here"], fn_l_letters, defArgs (top 14), defBody (top 14), defScope (top 14)⟩
/-- _law_text(_law_draws_here) -/
def fn_l_text : Fn := ⟨1, 5, [0], [.asg 1 (.call "_law_take" [(.pk 0), (.lit (.int 8))]),
  .iff (.op .eq [(.pk 1), (.lit (.int 0))]) [.ret (.lit (.str ""))] [],
  .iff (.op .eq [(.pk 1), (.lit (.int 1))]) [.ret (.op .join [(.lit (.str "")), (.lc [4] (.nm 4) (.rng1 (.call "_law_take" [(.pk 0), (.lit (.int 7))])) [] (.call "_law_char" [(.pk 0)]))])] [],
  .asg 2 (.call "_law_letters" [(.pk 0)]),
  .iff (.op .lt [(.pk 1), (.lit (.int 5))]) [.asg 3 (.call "_law_take" [(.pk 0), (.op .len [(.pk 2)])]), .asg 2 (.op .add [(.op .add [(.op .slHi [(.pk 2), (.pk 3)]), (.call "_law_char" [(.pk 0)])]), (.op .slLo [(.pk 2), (.op .add [(.pk 3), (.lit (.int 1))])])])] [],
  .retV 2]⟩
def df_l_text : Df := ⟨"_law_text", ["_law_draws_here", "_law_kind", "_law_word", "_law_at", "_law_k"], ["_law_draws_here"], fn_l_text, defArgs (top 15), defBody (top 15), defScope (top 15)⟩
/-- _law_item(_law_draws_here, _law_script) -/
def fn_l_item : Fn := ⟨2, 2, [0], [.iff (.op .eq [(.call "_law_take" [(.pk 0), (.lit (.int 2))]), (.lit (.int 0))]) [.ret (.call "_law_number" [(.pk 0), (.var 1)])] [],
  .ret (.call "_law_letters" [(.pk 0)])]⟩
def df_l_item : Df := ⟨"_law_item", ["_law_draws_here", "_law_script"], ["_law_draws_here", "_law_script"], fn_l_item, defArgs (top 16), defBody (top 16), defScope (top 16)⟩
/-- law(_law_script) -/
def fn_law : Fn := ⟨1, 6, [], [.asg 1 (.call "_law_draws" [(.var 0), (.lit (.int 120))]),
  .asg 2 (.call "_law_text" [(.pk 1)]),
  .iff (.not_ (.call "_law_same" [(.call "is_word" [(.var 2)]), (.call "_law_is_word" [(.var 2)])])) [.ret (.lit (.bl false))] [],
  .asg 3 (.lc [5] (.nm 5) (.rng1 (.call "_law_take" [(.pk 1), (.lit (.int 11))])) [] (.call "_law_item" [(.pk 1), (.var 0)])),
  .asg 4 (.op .le [(.op .len [(.pk 3)]), (.lit (.int 8))]),
  .iff (.boo true [(.op .gt [(.op .len [(.pk 3)]), (.lit (.int 0))]), (.op .eq [(.call "_law_take" [(.pk 1), (.lit (.int 2))]), (.lit (.int 0))])]) [.asg 2 (.call "_law_text" [(.pk 1)]), .setI 3 (.call "_law_take" [(.pk 1), (.op .len [(.pk 3)])]) (.var 2), .asg 4 (.boo true [(.pk 4), (.call "_law_is_word" [(.var 2)])])] [],
  .ret (.call "_law_same" [(.call "is_row" [(.op .tuple [(.pk 3)])]), (.var 4)])]⟩
def df_law : Df := ⟨"law", ["_law_script", "_law_draws_here", "_law_text_here", "_law_row", "_law_due", "_law_k"], ["_law_script"], fn_law, defArgs (top 17), defBody (top 17), defScope (top 17)⟩
def dfs : List Df := [df_is_word, df_is_value, df_is_row, df_l_draws, df_l_take, df_l_size, df_l_same, df_l_is_word, df_l_number, df_l_char, df_l_letters, df_l_text, df_l_item, df_law]
def csts : List (Str × D) := [("LETTERS", (.str "abcdefghijklmnopqrstuvwxyz")), ("LONGEST", (.int 8))]
def bns : List Str := ["len", "int", "str", "abs", "tuple", "list", "all", "isinstance", "range", "bool"]
theorem bd_is_word : BindsD df_is_word := fun _ _ _ _ _ _ us hl => match us, hl with | [_], _ => rfl
theorem bd_is_value : BindsD df_is_value := fun _ _ _ _ _ _ us hl => match us, hl with | [_], _ => rfl
theorem bd_is_row : BindsD df_is_row := fun _ _ _ _ _ _ us hl => match us, hl with | [_], _ => rfl
theorem bd_l_draws : BindsD df_l_draws := fun _ _ _ _ _ _ us hl => match us, hl with | [_, _], _ => rfl
theorem bd_l_take : BindsD df_l_take := fun _ _ _ _ _ _ us hl => match us, hl with | [_, _], _ => rfl
theorem bd_l_size : BindsD df_l_size := fun _ _ _ _ _ _ us hl => match us, hl with | [_, _], _ => rfl
theorem bd_l_same : BindsD df_l_same := fun _ _ _ _ _ _ us hl => match us, hl with | [_, _], _ => rfl
theorem bd_l_is_word : BindsD df_l_is_word := fun _ _ _ _ _ _ us hl => match us, hl with | [_], _ => rfl
theorem bd_l_number : BindsD df_l_number := fun _ _ _ _ _ _ us hl => match us, hl with | [_, _], _ => rfl
theorem bd_l_char : BindsD df_l_char := fun _ _ _ _ _ _ us hl => match us, hl with | [_], _ => rfl
theorem bd_l_letters : BindsD df_l_letters := fun _ _ _ _ _ _ us hl => match us, hl with | [_], _ => rfl
theorem bd_l_text : BindsD df_l_text := fun _ _ _ _ _ _ us hl => match us, hl with | [_], _ => rfl
theorem bd_l_item : BindsD df_l_item := fun _ _ _ _ _ _ us hl => match us, hl with | [_, _], _ => rfl
theorem bd_law : BindsD df_law := fun _ _ _ _ _ _ us hl => match us, hl with | [_], _ => rfl
theorem binds : BindsAll dfs := ⟨bd_is_word, bd_is_value, bd_is_row, bd_l_draws, bd_l_take, bd_l_size, bd_l_same, bd_l_is_word, bd_l_number, bd_l_char, bd_l_letters, bd_l_text, bd_l_item, bd_law, trivial⟩
theorem oks : dfs.all (Df.ok dfs bns csts) = true := by decide +kernel
end PF
set_option Elab.async false
set_option linter.all false
set_option maxRecDepth 100000
set_option maxHeartbeats 2000000
namespace PF
open PySem PySem.Spec PyProof.Rows L2
abbrev Tb : Str → Option Fn := tabOf dfs
abbrev Ga : Str → Option D := γOf csts
theorem run_def {k : Nat} {f : Str} {fn : Fn} (h : tabOf dfs f = some fn) (as : List Sl) : run Tb Ga (k + 1) f as = fn.run (run Tb Ga k) Ga as := by
  show (match tabOf dfs f with | some fn => fn.run (run Tb Ga k) Ga as | none => FR.st) = _
  rw [h]
theorem tab_take : tabOf dfs "_law_take" = some fn_l_take := by kernel_rfl
theorem tab_draws : tabOf dfs "_law_draws" = some fn_l_draws := by kernel_rfl
def takeV (ds : List Int) (m : Int) : Int := match ds.getLast? with | none => 0 | some x => x % m
theorem take_run (k : Nat) (ds : List Int) (m : Int) (hm : 0 < m) :
    run Tb Ga (k + 1) "_law_take" [.ow (Lint ds), .fr (.int m)] = .ok false (.int (takeV ds m)) [.ow (Lint ds.dropLast), .non] := by
  rw [run_def tab_take]
  rcases List.eq_nil_or_concat ds with rfl | ⟨xs, x, rfl⟩
  · simp [fn_l_take, Fn.run, Lint, takeV]
  · simp [fn_l_take, Fn.run, Lint, takeV, hm]
theorem takeV_range (ds : List Int) {m : Int} (hm : 0 < m) : 0 ≤ takeV ds m ∧ takeV ds m < m := by
  unfold takeV
  split
  · omega
  · exact ⟨Int.emod_nonneg _ (by omega), Int.emod_lt_of_pos _ hm⟩
@[simp] theorem pow1018 : pPow 10 18 = some 1000000000000000000 := by decide
@[simp] theorem log1000 : (Nat.log2 1000 < 9000) = True := eq_true (by decide)
theorem draws_step (Φ : Str → List Sl → FR) (a b : Sl) (cs rest ds : List Int) (i : Nat) (h : cs ≠ []) (hr : rest.length = cs.length) (hi : i < 10000) (hd : ds.length < 16777216) (s6 s7 s8 : Sl) :
    ∃ rest' d s7' s8', execs Φ Ga lp_l_draws_1 [a, b, .ow (Lint cs), .ow (Lint rest), .ow (Lint ds), .fr (.int i), s6, s7, s8] = .nx [a, b, .ow (Lint cs), .ow (Lint rest'), .ow (Lint (ds ++ [d])), .fr (.int i), s6, s7', s8'] ∧ rest'.length = cs.length := by
  have hc : 0 < cs.length := List.length_pos_iff.mpr h
  have hc' : (0 : Int) < (cs.length : Int) := by omega
  obtain ⟨j, x, y, e1, hj, a1, a2, a3⟩ : ∃ (j : Nat) (x y : Int), (i : Int) % (cs.length : Int) = (j : Int) ∧ j < cs.length ∧ atI (cs.map D.int) (j : Int) = some (.int x) ∧ atI (rest.map D.int) (j : Int) = some (.int y) ∧ ixN rest.length (j : Int) = some j := by
    have hat : i % cs.length < cs.length := Nat.mod_lt _ hc
    exact ⟨i % cs.length, cs[i % cs.length], rest[i % cs.length], by omega, hat, by rw [atI_nat (by simpa using hat)]; simp, by rw [atI_nat (by simpa [hr] using hat)]; simp, ixN_nat (by omega)⟩
  by_cases hbig : (1000000000000000000 : Int) ≤ x
  · have hb2 : ¬ x < 1000000000000000000 := by omega
    refine ⟨rest.set j (y / 1000), y % 1000, .fr (.int j), s8, ?_, by simp [hr]⟩
    simp [lp_l_draws_1, Lint, e1, hc, hc', a1, a2, a3, hb2, hd, List.map_set]
  · have hb2 : x < 1000000000000000000 := by omega
    have m1 : mulOk x 48271 = true := mulOk_r (by decide) (by decide)
    have m2 : mulOk (i : Int) 69621 = true := mulOk_r (by decide) (by decide)
    have r1 : 0 ≤ (x * 48271 + i * 69621 + 11) % 2147483647 ∧ (x * 48271 + i * 69621 + 11) % 2147483647 < 2147483647 := ⟨Int.emod_nonneg _ (by decide), Int.emod_lt_of_pos _ (by decide)⟩
    generalize hz : (x * 48271 + i * 69621 + 11) % 2147483647 = z at r1
    have m3 : mulOk z z = true := mulOk_r (by omega) (by omega)
    have m4 : mulOk 3 z = true := mulOk_l (by decide) (by decide)
    refine ⟨rest, (z * z + 3 * z + i) % 1000003, .fr (.int j), .fr (.int z), ?_, hr⟩
    simp [lp_l_draws_1, Lint, e1, hc, hc', a1, a2, a3, hb2, hd, m1, m2, hz, m3, m4]
theorem draws_run (k : Nat) (ns : List Int) (hl : ns.length ≤ 63) (m : Int) (h0 : 0 ≤ m) (h1 : m ≤ 10000) :
    ∃ ds : List Int, run Tb Ga (k + 1) "_law_draws" [.fr (Lint ns), .fr (.int m)] = .ok true (Lint ds) [.non, .non] := by
  rw [run_def tab_draws]
  have hsz : sizeLine = 16777216 := sizeLine_eq
  obtain ⟨e1, ⟨s, he1⟩, hc⟩ := lcGo_map (tgt := asgW [6] (.nm 6)) (tst := evTs (run Tb Ga k) Ga []) (elt := ev (run Tb Ga k) Ga (.op .toInt [(.pk 6)]))
    (fun e => ∃ s, e = [.fr (Lint ns), .fr (.int m), .non, .non, .non, .non, s, .non, .non]) id (ns.map .int) [.fr (Lint ns), .fr (.int m), .non, .non, .non, .non, .non, .non, .non] [] ⟨_, rfl⟩ (by
      rintro d hd e ⟨s, rfl⟩
      obtain ⟨z, _, rfl⟩ := List.mem_map.mp hd
      exact ⟨_, _, _, by simp; rfl, by simp; rfl, .inl (by simp; rfl), _, rfl⟩) (by simp; omega)
  simp only [List.nil_append, List.map_id] at hc
  subst he1
  -- the cells, one at least
  obtain ⟨cs, hcs, hcl, hcells⟩ : ∃ cs : List Int, cs ≠ [] ∧ cs.length ≤ 63 ∧ execs (run Tb Ga k) Ga (fn_l_draws.body.take 4) [.fr (Lint ns), .fr (.int m), .non, .non, .non, .non, .non, .non, .non] =
      .nx [.fr (Lint ns), .fr (.int m), .ow (Lint cs), .ow (Lint cs), .ow (Lint []), .non, .non, .non, .non] := by
    cases ns with
    | nil => exact ⟨[0], by simp, by simp, by simp [fn_l_draws, Lint] at hc ⊢⟩
    | cons z r =>
      refine ⟨z :: r, by simp, hl, ?_⟩
      have hl2 : r.length + 1 ≤ 16777216 := by simp at hl; omega
      simp [fn_l_draws, Lint] at hc ⊢
      simp [hc, hl2]
  obtain ⟨e2, ⟨rest, ds, s5, s7, s8, rfl, hr, hdl⟩, hfor⟩ := forGo_inv (tgt := asgT (.nm 5)) (body := execs (run Tb Ga k) Ga lp_l_draws_1)
    (fun i e => ∃ rest ds s5 s7 s8, e = [.fr (Lint ns), .fr (.int m), .ow (Lint cs), .ow (Lint rest), .ow (Lint ds), s5, .non, s7, s8] ∧ rest.length = cs.length ∧ ds.length = i)
    ((List.range m.toNat).map fun (k : Nat) => D.int (k : Int)) 0 [.fr (Lint ns), .fr (.int m), .ow (Lint cs), .ow (Lint cs), .ow (Lint []), .non, .non, .non, .non] ⟨cs, [], _, _, _, rfl, rfl, rfl⟩ (by
      rintro i d e hd ⟨rest, ds, s5, s7, s8, rfl, hr, hdl⟩
      have hi : i < m.toNat ∧ d = .int (i : Int) := by
        rw [List.getElem?_map] at hd
        cases q : (List.range m.toNat)[i]? with
        | none => rw [q] at hd; cases hd
        | some c =>
          rw [q] at hd; cases hd
          obtain ⟨q1, q2⟩ := List.getElem?_eq_some_iff.mp q
          have : i < m.toNat := by simpa using q1
          refine ⟨this, ?_⟩
          have : c = i := by rw [← q2]; simp
          rw [this]
      obtain ⟨hi, rfl⟩ := hi
      obtain ⟨rest', d', s7', s8', hb, hr'⟩ := draws_step (run Tb Ga k) (.fr (Lint ns)) (.fr (.int m)) cs rest ds i hcs hr (by omega) (by omega) .non s7 s8
      exact ⟨_, _, by simp, .inl hb, rest', ds ++ [d'], _, _, _, rfl, hr', by simp [hdl]⟩)
  refine ⟨ds.reverse, ?_⟩
  have hsplit : fn_l_draws.body = fn_l_draws.body.take 4 ++ [.for_ (.nm 5) (.rng1 (.pk 1)) lp_l_draws_1, .ex (.mu .reverse 4 []), .retV 4] := by rfl
  have hb1 : (decide (-4611686018427387904 ≤ m) && decide (m < 4611686018427387904)) = true := by simp; omega
  have run0 : fn_l_draws.run (run Tb Ga k) Ga [.fr (Lint ns), .fr (.int m)] = (execs (run Tb Ga k) Ga fn_l_draws.body [.fr (Lint ns), .fr (.int m), .non, .non, .non, .non, .non, .non, .non]).out [] 2 [.fr (Lint ns), .fr (.int m)] := by
    simp [Fn.run, fn_l_draws]
  rw [run0, hsplit, execs_app, hcells]
  have hf : exec (run Tb Ga k) Ga (.for_ (.nm 5) (.rng1 (.pk 1)) lp_l_draws_1) [.fr (Lint ns), .fr (.int m), .ow (Lint cs), .ow (Lint cs), .ow (Lint []), .non, .non, .non, .non] = .nx [.fr (Lint ns), .fr (.int m), .ow (Lint cs), .ow (Lint rest), .ow (Lint ds), s5, .non, s7, s8] := by
    simp [rng1I] at hb1 ⊢
    simp [hb1] at hfor ⊢
    simp [hfor]
  simp only [RS.bd]
  rw [execs, hf]
  simp [Lint]
end PF
set_option Elab.async false
set_option linter.all false
set_option maxRecDepth 100000
set_option maxHeartbeats 2000000
namespace PF
open PySem PySem.Spec PyProof.Rows L2
theorem tab_size : tabOf dfs "_law_size" = some fn_l_size := by kernel_rfl
theorem tab_number : tabOf dfs "_law_number" = some fn_l_number := by kernel_rfl
theorem tab_char : tabOf dfs "_law_char" = some fn_l_char := by kernel_rfl
theorem tab_letters : tabOf dfs "_law_letters" = some fn_l_letters := by kernel_rfl
theorem tab_text : tabOf dfs "_law_text" = some fn_l_text := by kernel_rfl
theorem tab_item : tabOf dfs "_law_item" = some fn_l_item := by kernel_rfl
theorem tab_same : tabOf dfs "_law_same" = some fn_l_same := by kernel_rfl
theorem tab_lisw : tabOf dfs "_law_is_word" = some fn_l_is_word := by kernel_rfl
theorem tab_isw : tabOf dfs "is_word" = some fn_is_word := by kernel_rfl
theorem tab_isv : tabOf dfs "is_value" = some fn_is_value := by kernel_rfl
theorem tab_isr : tabOf dfs "is_row" = some fn_is_row := by kernel_rfl
theorem tab_law : tabOf dfs "law" = some fn_law := by kernel_rfl
theorem size_run (k : Nat) (ds ns : List Int) (hl : ns.length ≤ 63) : ∃ (z : Int) (ds' : List Int), run Tb Ga (k + 2) "_law_size" [.ow (Lint ds), .fr (Lint ns)] = .ok false (.int z) [.ow (Lint ds'), .non] := by
  rw [run_def tab_size]
  have T : ∀ (ds : List Int) (m : Int), 0 < m → run Tb Ga (k + 1) "_law_take" [.ow (Lint ds), .fr (.int m)] = .ok false (.int (takeV ds m)) [.ow (Lint ds.dropLast), .non] := fun ds m hm => take_run k ds m hm
  obtain ⟨r1, r2⟩ := takeV_range ds (m := 8) (by decide)
  by_cases h5 : takeV ds 8 < 5
  · refine ⟨takeV ds.dropLast 12, ds.dropLast.dropLast, ?_⟩
    simp [fn_l_size, Fn.run, T, h5]
  · by_cases h6 : takeV ds 8 = 5
    · refine ⟨takeV ds.dropLast 100, ds.dropLast.dropLast, ?_⟩
      simp [fn_l_size, Fn.run, T, h6]
    · have h7 : ¬ (takeV ds 8 = 5) := h6
      have h8 : takeV ds 8 = 6 ∨ takeV ds 8 = 7 := by omega
      have m1000 : ∀ a, mulOk a 1000 = true := fun a => mulOk_r (by decide) (by decide)
      by_cases hb : takeV ds 8 = 6 ∨ ns = []
      · have hb2 : (takeV ds 8 = 6) = True ∨ ((takeV ds 8 = 6) = False ∧ (takeV ds 8 = 7) = True ∧ ns = []) := by
          by_cases q : takeV ds 8 = 6
          · exact .inl (eq_true q)
          · exact .inr ⟨eq_false q, eq_true (by omega), hb.resolve_left q⟩
        rcases hb2 with hb2 | ⟨hb2, _, rfl⟩
        · simp [fn_l_size, Fn.run, T, h5, h7, hb2, lp_l_size_1, List.range, List.range.loop, m1000, forGo]
        · simp [fn_l_size, Fn.run, T, h5, h7, hb2, lp_l_size_1, List.range, List.range.loop, m1000, forGo]
      · have hne : ns ≠ [] := fun z => hb (.inr z)
        have q6 : (takeV ds 8 = 6) = False := eq_false fun z => hb (.inl z)
        have hpos : 0 < ns.length := List.length_pos_iff.mpr hne
        have hp2 : (0 : Int) < (ns.length : Int) := by omega
        obtain ⟨t1, t2⟩ := takeV_range ds.dropLast hp2
        obtain ⟨z, ha, _⟩ := atI_in t1 t2
        simp [fn_l_size, Fn.run, T, h5, h7, q6, hne, hp2, hpos, ha]
theorem number_run (k : Nat) (ds ns : List Int) (hl : ns.length ≤ 63) : ∃ (z : Int) (ds' : List Int), run Tb Ga (k + 3) "_law_number" [.ow (Lint ds), .fr (Lint ns)] = .ok false (.int z) [.ow (Lint ds'), .non] := by
  rw [run_def tab_number]
  have T : ∀ (ds : List Int) (m : Int), 0 < m → run Tb Ga (k + 2) "_law_take" [.ow (Lint ds), .fr (.int m)] = .ok false (.int (takeV ds m)) [.ow (Lint ds.dropLast), .non] := fun ds m hm => take_run (k + 1) ds m hm
  obtain ⟨z, ds1, h1⟩ := size_run k ds ns hl
  obtain ⟨t1, t2⟩ := takeV_range ds1 (m := 2) (by decide)
  have m2 : ∀ a, mulOk 2 a = true := fun a => mulOk_l (by decide) (by decide)
  have m3 : mulOk z (1 - 2 * takeV ds1 2) = true := mulOk_r (by omega) (by omega)
  simp [fn_l_number, Fn.run, T, h1, m2, m3]
abbrev alpha : Str := "abcdefghijklmnopqrstuvwxyz"
def inA (c : Nat) : Bool := strIn (ch c) alpha
def isW (s : Str) : Bool := s.cps.toList.all inA && decide (s.cps.toList ≠ [])
theorem alpha_in : ∀ c ∈ alpha.cps.toList, inA c = true := by decide +kernel
theorem alpha_len : alpha.length = 26 := by decide +kernel
abbrev cA : Str := " !\"#$&'()*+,-./0123456789:;<=>?@ABCDEFGHIJKLMNOPQRSTUVWXYZ[\\]^_`"
abbrev cB : Str := "abcdefghijklmnopqrstuvwxyz{|}~\n\t"
theorem cA_len : cA.length = 64 := by decide +kernel
theorem cB_len : cB.length = 32 := by decide +kernel
theorem app_len (a b : Str) : (a ++ b).length = a.length + b.length := by
  show (a.cps ++ b.cps).size = _
  rw [Array.size_append]; rfl
theorem char_run (k : Nat) (ds : List Int) : ∃ (c : Nat) (ds' : List Int), run Tb Ga (k + 2) "_law_char" [.ow (Lint ds)] = .ok false (.str (ch c)) [.ow (Lint ds')] := by
  rw [run_def tab_char]
  have T : ∀ (ds : List Int) (m : Int), 0 < m → run Tb Ga (k + 1) "_law_take" [.ow (Lint ds), .fr (.int m)] = .ok false (.int (takeV ds m)) [.ow (Lint ds.dropLast), .non] := fun ds m hm => take_run k ds m hm
  have hl : (cA ++ cB).length = 96 := by rw [app_len, cA_len, cB_len]
  obtain ⟨t1, t2⟩ := takeV_range ds (m := 96) (by decide)
  obtain ⟨c, _, hc⟩ := str_idx (s := cA ++ cB) (i := takeV ds 96) t1 (by rw [hl]; exact t2) (by rw [hl]; decide)
  have h1 : pAdd (.str cA) (.str cB) = some (false, .str (cA ++ cB)) := by
    show (if cA.length + cB.length ≤ sizeLine then some (false, D.str (cA ++ cB)) else none) = _
    rw [cA_len, cB_len, if_pos (by rw [sizeLine_eq]; decide)]
  have h2 : pLen (.str (cA ++ cB)) = some (false, .int 96) := by rw [pLen_str (by rw [hl]; decide), hl]; rfl
  simp [fn_l_char, Fn.run, T, h1, h2, hc]
  exact ⟨c, rfl⟩
end PF
set_option Elab.async false
set_option linter.all false
set_option maxRecDepth 100000
set_option maxHeartbeats 2000000
namespace PF
open PySem PySem.Spec PyProof.Rows L2
/-- the word of a comprehension over the letters -/
theorem letters_comp (Φ : Str → List Sl → FR) (s0 : Sl) (many turn step : Int) (h1 : 1 ≤ many) (h2 : many ≤ 60) (h3 : 0 ≤ turn) (h5 : 0 ≤ step) (h6 : step < 26) :
    ∃ w : Str, isW w = true ∧ w.length ≤ 60 ∧ exec Φ Ga (.ret (.op .join [(.lit (.str "")), (.lc [4] (.nm 4) (.rng1 (.pk 1)) [] (.op .idx [(.lit (.str "abcdefghijklmnopqrstuvwxyz")), (.op .mod [(.op .toInt [(.op .add [(.pk 2), (.op .mul [(.pk 4), (.pk 3)])])]), (.lit (.int 26))])]))]))
      [s0, .fr (.int many), .fr (.int turn), .fr (.int step), .non] = .rt false (.str w) [s0, .fr (.int many), .fr (.int turn), .fr (.int step), .non] := by
  obtain ⟨e', vs, ⟨s, he'⟩, hV, hlen, hgo⟩ := lcGo_ex (tgt := asgW [4] (.nm 4)) (tst := evTs Φ Ga []) (elt := ev Φ Ga (.op .idx [(.lit (.str "abcdefghijklmnopqrstuvwxyz")), (.op .mod [(.op .toInt [(.op .add [(.pk 2), (.op .mul [(.pk 4), (.pk 3)])])]), (.lit (.int 26))])]))
    (fun e => ∃ s, e = [s0, .fr (.int many), .fr (.int turn), .fr (.int step), s]) (fun v => ∃ c, v = .str (ch c) ∧ inA c = true) ((List.range many.toNat).map fun (k : Nat) => D.int (k : Int)) [s0, .fr (.int many), .fr (.int turn), .fr (.int step), .non] [] ⟨_, rfl⟩ (fun _ h => by simp at h) (by
      rintro d hd e ⟨s, rfl⟩
      obtain ⟨j, hj, rfl⟩ := List.mem_map.mp hd
      have m1 : mulOk (j : Int) step = true := mulOk_r (by omega) (by omega)
      have r1 : 0 ≤ (turn + (j : Int) * step) % 26 := Int.emod_nonneg _ (by decide)
      have r2 : (turn + (j : Int) * step) % 26 < 26 := Int.emod_lt_of_pos _ (by decide)
      obtain ⟨c, hc, hx⟩ := str_idx (s := alpha) r1 (by rw [alpha_len]; exact r2) (by rw [alpha_len]; decide)
      exact ⟨[s0, .fr (.int many), .fr (.int turn), .fr (.int step), .fr (.int j)], [s0, .fr (.int many), .fr (.int turn), .fr (.int step), .fr (.int j)], [s0, .fr (.int many), .fr (.int turn), .fr (.int step), .fr (.int j)], .str (ch c), by simp, by simp, .inl (by simp [m1, hx]), ⟨c, rfl, alpha_in c hc⟩, _, rfl⟩) (by simp; omega)
  obtain ⟨cs, rfl, hcs⟩ := chs_of hV
  subst he'
  have hl : cs.length = many.toNat := by simpa using hlen
  have hj : pJoin (.str "") (.lst (cs.map fun c => D.str (ch c))) = some (false, .str ⟨cs.toArray⟩) := pJoin_ch (by omega)
  have hb : (-4611686018427387904 ≤ many ∧ many < 4611686018427387904) := by omega
  refine ⟨⟨cs.toArray⟩, ?_, by show cs.toArray.size ≤ 60; simp; omega, ?_⟩
  · unfold isW
    simp only [List.toList_toArray] at *
    rw [Bool.and_eq_true]
    refine ⟨List.all_eq_true.mpr hcs, decide_eq_true fun z => ?_⟩
    rw [z] at hl
    simp at hl
    omega
  · simp [rng1I, hb, hgo, hj]
theorem letters_run (k : Nat) (ds : List Int) : ∃ (w : Str) (ds' : List Int), isW w = true ∧ w.length ≤ 60 ∧ run Tb Ga (k + 2) "_law_letters" [.ow (Lint ds)] = .ok false (.str w) [.ow (Lint ds')] := by
  rw [run_def tab_letters]
  have T : ∀ (ds : List Int) (m : Int), 0 < m → run Tb Ga (k + 1) "_law_take" [.ow (Lint ds), .fr (.int m)] = .ok false (.int (takeV ds m)) [.ow (Lint ds.dropLast), .non] := fun ds m hm => take_run k ds m hm
  obtain ⟨a1, a2⟩ := takeV_range ds (m := 5) (by decide)
  by_cases h0 : takeV ds.dropLast 6 = 0
  · obtain ⟨b1, b2⟩ := takeV_range ds.dropLast.dropLast (m := 60) (by decide)
    obtain ⟨c1, c2⟩ := takeV_range ds.dropLast.dropLast.dropLast (m := 26) (by decide)
    obtain ⟨d1, d2⟩ := takeV_range ds.dropLast.dropLast.dropLast.dropLast (m := 26) (by decide)
    obtain ⟨w, hw, hwl, hx⟩ := letters_comp (run Tb Ga (k + 1)) (.ow (Lint ds.dropLast.dropLast.dropLast.dropLast.dropLast)) (1 + takeV ds.dropLast.dropLast 60) _ _ (by omega) (by omega) c1 d1 d2
    refine ⟨w, ds.dropLast.dropLast.dropLast.dropLast.dropLast, hw, hwl, ?_⟩
    simp [fn_l_letters, Fn.run, T, h0, hx]
  · obtain ⟨c1, c2⟩ := takeV_range ds.dropLast.dropLast (m := 26) (by decide)
    obtain ⟨d1, d2⟩ := takeV_range ds.dropLast.dropLast.dropLast (m := 26) (by decide)
    obtain ⟨w, hw, hwl, hx⟩ := letters_comp (run Tb Ga (k + 1)) (.ow (Lint ds.dropLast.dropLast.dropLast.dropLast)) (1 + takeV ds 5) _ _ (by omega) (by omega) c1 d1 d2
    refine ⟨w, ds.dropLast.dropLast.dropLast.dropLast, hw, hwl, ?_⟩
    simp [fn_l_letters, Fn.run, T, h0, hx]
/-- a comprehension of drawn characters -/
theorem text_comp (k : Nat) (ds : List Int) (n : Nat) (hn : n ≤ 7) (s1 s2 s3 : Sl) : ∃ (cs : List Nat) (ds' : List Int) (s4 : Sl), cs.length = n ∧
    lcGo (asgW [4] (.nm 4)) (evTs (run Tb Ga (k + 2)) Ga []) (ev (run Tb Ga (k + 2)) Ga (.call "_law_char" [(.pk 0)])) ((List.range n).map fun (k : Nat) => D.int (k : Int)) [.ow (Lint ds), s1, s2, s3, .non] [] = .ok (cs.map fun c => D.str (ch c)) [.ow (Lint ds'), s1, s2, s3, s4] := by
  obtain ⟨e', vs, ⟨ds', s, he'⟩, hV, hlen, hgo⟩ := lcGo_ex (tgt := asgW [4] (.nm 4)) (tst := evTs (run Tb Ga (k + 2)) Ga []) (elt := ev (run Tb Ga (k + 2)) Ga (.call "_law_char" [(.pk 0)]))
    (fun e => ∃ ds s, e = [.ow (Lint ds), s1, s2, s3, s]) (fun v => ∃ c, v = .str (ch c) ∧ True) ((List.range n).map fun (k : Nat) => D.int (k : Int)) [.ow (Lint ds), s1, s2, s3, .non] [] ⟨_, _, rfl⟩ (fun _ h => by simp at h) (by
      rintro d hd e ⟨ds, s, rfl⟩
      obtain ⟨j, hj, rfl⟩ := List.mem_map.mp hd
      obtain ⟨c, ds1, hc⟩ := char_run k ds
      exact ⟨[.ow (Lint ds), s1, s2, s3, .fr (.int j)], [.ow (Lint ds), s1, s2, s3, .fr (.int j)], [.ow (Lint ds1), s1, s2, s3, .fr (.int j)], .str (ch c), by simp, by simp, .inl (by simp [hc]), ⟨c, rfl, trivial⟩, _, _, rfl⟩) (by simp; omega)
  obtain ⟨cs, rfl, -⟩ := chs_of hV
  exact ⟨cs, ds', s, by simpa using hlen, by rw [hgo, he']⟩
theorem text_run (k : Nat) (ds : List Int) : ∃ (w : Str) (ds' : List Int), w.length ≤ 1000 ∧ run Tb Ga (k + 3) "_law_text" [.ow (Lint ds)] = .ok false (.str w) [.ow (Lint ds')] := by
  rw [run_def tab_text]
  have T : ∀ (ds : List Int) (m : Int), 0 < m → run Tb Ga (k + 2) "_law_take" [.ow (Lint ds), .fr (.int m)] = .ok false (.int (takeV ds m)) [.ow (Lint ds.dropLast), .non] := fun ds m hm => take_run (k + 1) ds m hm
  obtain ⟨a1, a2⟩ := takeV_range ds (m := 8) (by decide)
  by_cases h0 : takeV ds 8 = 0
  · exact ⟨"", ds.dropLast, by decide +kernel, by simp [fn_l_text, Fn.run, T, h0]⟩
  · by_cases h1 : takeV ds 8 = 1
    · obtain ⟨b1, b2⟩ := takeV_range ds.dropLast (m := 7) (by decide)
      obtain ⟨cs, ds', s4, hl, hgo⟩ := text_comp k ds.dropLast.dropLast (takeV ds.dropLast 7).toNat (by omega) (.fr (.int 1)) .non .non
      have hj : pJoin (.str "") (.lst (cs.map fun c => D.str (ch c))) = some (false, .str ⟨cs.toArray⟩) := pJoin_ch (by omega)
      have hb : (-4611686018427387904 ≤ takeV ds.dropLast 7 ∧ takeV ds.dropLast 7 < 4611686018427387904) := by omega
      refine ⟨⟨cs.toArray⟩, ds', by show cs.toArray.size ≤ 1000; simp; omega, ?_⟩
      simp [fn_l_text, Fn.run, T, h1, rng1I, hb, hgo, hj]
    · obtain ⟨w, ds1, hw, hwl, hlet⟩ := letters_run k ds.dropLast
      by_cases h5 : takeV ds 8 < 5
      · have hwp : 0 < w.length := by
          unfold isW at hw
          rw [Bool.and_eq_true, decide_eq_true_eq] at hw
          have := List.length_pos_iff.mpr hw.2
          simpa [Str.length] using this
        have hwl2 : pLen (.str w) = some (false, .int w.length) := pLen_str (by omega)
        have hwp2 : (0 : Int) < (w.length : Int) := by omega
        obtain ⟨c, ds2, hc⟩ := char_run k ds1.dropLast
        have z1 : w.length ≤ 16777216 := by omega
        have c1 := cutS_length w none (some (takeV ds1 w.length))
        have c2 := cutS_length w (some (takeV ds1 w.length + 1)) none
        have e1 : (ch c).length = 1 := rfl
        have q1 : (cutS w none (some (takeV ds1 w.length))).length + (ch c).length ≤ 16777216 := by omega
        have q2 : (cutS w none (some (takeV ds1 w.length)) ++ ch c).length + (cutS w (some (takeV ds1 w.length + 1)) none).length ≤ 16777216 := by rw [app_len]; omega
        refine ⟨cutS w none (some (takeV ds1 w.length)) ++ ch c ++ cutS w (some (takeV ds1 w.length + 1)) none, ds2, by rw [app_len, app_len]; omega, ?_⟩
        simp [fn_l_text, Fn.run, T, h0, h1, h5, hlet, hwl2, hwp, hwp2, hc, z1, q1, q2]
      · exact ⟨w, ds1, by omega, by simp [fn_l_text, Fn.run, T, h0, h1, h5, hlet]⟩
theorem item_run (k : Nat) (ds ns : List Int) (hl : ns.length ≤ 63) : ∃ (v : D) (ds' : List Int), ((∃ z, v = .int z) ∨ ∃ w, v = .str w ∧ isW w = true ∧ w.length ≤ 60) ∧ run Tb Ga (k + 4) "_law_item" [.ow (Lint ds), .fr (Lint ns)] = .ok false v [.ow (Lint ds'), .non] := by
  rw [run_def tab_item]
  have T : ∀ (ds : List Int) (m : Int), 0 < m → run Tb Ga (k + 3) "_law_take" [.ow (Lint ds), .fr (.int m)] = .ok false (.int (takeV ds m)) [.ow (Lint ds.dropLast), .non] := fun ds m hm => take_run (k + 2) ds m hm
  by_cases h0 : takeV ds 2 = 0
  · obtain ⟨z, ds1, h1⟩ := number_run k ds.dropLast ns hl
    exact ⟨.int z, ds1, .inl ⟨z, rfl⟩, by simp [fn_l_item, Fn.run, T, h0, h1]⟩
  · obtain ⟨w, ds1, hw, hwl, h1⟩ := letters_run (k + 1) ds.dropLast
    exact ⟨.str w, ds1, .inr ⟨w, rfl, hw, hwl⟩, by simp [fn_l_item, Fn.run, T, h0, h1]⟩
/-! ### words, values, rows -/
theorem for_word (Φ : Str → List Sl → FR) (t : T) (body : List S) (hb : ∀ (s0 s1 : Sl) (c : Nat), ∃ s1', asgT t (.str (ch c)) [s0, s1] = some [s0, s1'] ∧ execs Φ Ga body [s0, s1'] = if inA c = true then .nx [s0, s1'] else .rt false (.bl false) [s0, s1']) (s0 : Sl) :
    ∀ (cs : List Nat) (s1 : Sl), ∃ s1', forGo (asgT t) (execs Φ Ga body) (cs.map fun c => D.str (ch c)) [s0, s1] = if cs.all inA = true then .nx [s0, s1'] else .rt false (.bl false) [s0, s1']
  | [], s1 => ⟨s1, by rw [List.map_nil, forGo]; rfl⟩
  | c :: cs, s1 => by
    obtain ⟨s2, h1, h2⟩ := hb s0 s1 c
    obtain ⟨s3, h3⟩ := for_word Φ t body hb s0 cs s2
    cases hc : inA c with
    | true =>
      refine ⟨s3, ?_⟩
      rw [List.map_cons, forGo, h1]
      simp only [onS]
      rw [h2, hc, if_pos rfl]
      simp only [RS.lp]
      rw [h3, List.all_cons, hc, Bool.true_and]
    | false =>
      refine ⟨s2, ?_⟩
      rw [List.map_cons, forGo, h1]
      simp only [onS]
      rw [h2, hc, if_neg Bool.false_ne_true]
      simp only [RS.lp]
      rw [List.all_cons, hc, Bool.false_and, if_neg Bool.false_ne_true]
theorem ga_letters : γOf csts "LETTERS" = some (.str alpha) := by kernel_rfl
theorem ga_longest : γOf csts "LONGEST" = some (.int 8) := by kernel_rfl
theorem seq_str (f : Fl) (e : Env) (s : Str) : seqI f e (some (.str s)) = .ok (s.cps.toList.map fun c => D.str (ch c)) [] e := rfl
theorem ne_empty (s : Str) : (s = "") = (s.cps.toList = []) := by
  have e0 : ("" : Str) = ⟨#[]⟩ := by decide
  rw [e0]
  obtain ⟨c⟩ := s
  simp
theorem isw_run (k : Nat) (s : Str) : run Tb Ga (k + 1) "is_word" [.fr (.str s)] = .ok false (.bl (isW s)) [.non] := by
  rw [run_def tab_isw]
  obtain ⟨s1', h⟩ := for_word (run Tb Ga k) (.nm 1) lp_is_word_1 (fun s0 s1 c => ⟨.fr (.str (ch c)), by simp, by
    have e : strIn (ch c) alpha = inA c := rfl
    cases hc : inA c <;> simp [lp_is_word_1, ga_letters, e, hc]⟩) (.fr (.str s)) s.cps.toList .non
  cases ha : s.cps.toList.all inA with
  | true =>
    rw [ha, if_pos rfl] at h
    simp only [ch] at h
    simp [fn_is_word, Fn.run, seq_str, h, isW, ha, ne_empty]
  | false =>
    rw [ha, if_neg Bool.false_ne_true] at h
    simp only [ch] at h
    simp [fn_is_word, Fn.run, seq_str, h, isW, ha]
theorem lisw_run (k : Nat) (s : Str) (hl : s.length ≤ 16777216) : run Tb Ga (k + 1) "_law_is_word" [.fr (.str s)] = .ok false (.bl (isW s)) [.non] := by
  rw [run_def tab_lisw]
  obtain ⟨s1', h⟩ := for_word (run Tb Ga k) (.nm 1) lp_l_is_word_1 (fun s0 s1 c => ⟨.fr (.str (ch c)), by simp, by
    have e : strIn (ch c) alpha = inA c := rfl
    cases hc : inA c <;> simp [lp_l_is_word_1, e, hc]⟩) (.fr (.str s)) s.cps.toList .non
  have e2 : (0 < s.length) = (s.cps.toList ≠ []) := by
    rw [← List.length_pos_iff, ]
    simp [Str.length]
  cases ha : s.cps.toList.all inA with
  | true =>
    rw [ha, if_pos rfl] at h
    simp only [ch] at h
    simp [fn_l_is_word, Fn.run, seq_str, h, isW, ha, hl, e2]
  | false =>
    rw [ha, if_neg Bool.false_ne_true] at h
    simp only [ch] at h
    simp [fn_l_is_word, Fn.run, seq_str, h, isW, ha]
theorem same_run (k : Nat) (a b : Bool) : run Tb Ga (k + 1) "_law_same" [.fr (.bl a), .fr (.bl b)] = .ok false (.bl (decide (a = b))) [.non, .non] := by
  rw [run_def tab_same]
  cases a <;> cases b <;> simp [fn_l_same, Fn.run]
end PF
set_option Elab.async false
set_option linter.all false
set_option maxRecDepth 100000
set_option maxHeartbeats 4000000
namespace PF
open PySem PySem.Spec PyProof.Rows L2
def valOk : D → Bool
  | .str s => isW s
  | _ => true
/-- an integer or a text -/
def Item (v : D) : Prop := (∃ z, v = .int z) ∨ ∃ w, v = .str w
theorem isv_run (k : Nat) (v : D) (h : Item v) : run Tb Ga (k + 2) "is_value" [.fr v] = .ok false (.bl (valOk v)) [.non] := by
  rw [run_def tab_isv]
  rcases h with ⟨z, rfl⟩ | ⟨w, rfl⟩
  · simp [fn_is_value, Fn.run, valOk]
  · have h1 : run Tb Ga (k + 1) "is_word" [.fr (.str w)] = .ok false (.bl (isW w)) [.non] := isw_run k w
    simp [fn_is_value, Fn.run, valOk, h1]
theorem bls_map (f : D → Bool) : ∀ vs : List D, bls? (vs.map fun v => D.bl (f v)) = some (vs.map f)
  | [] => rfl
  | v :: r => by
    rw [List.map_cons, List.map_cons]
    show (bls? (r.map fun v => D.bl (f v))).map (f v :: ·) = _
    rw [bls_map f r]; rfl
theorem isr_run (k : Nat) (vs : List D) (h : ∀ v ∈ vs, Item v) (hl : vs.length ≤ 16777216) : run Tb Ga (k + 3) "is_row" [.fr (.tup vs)] = .ok false (.bl (decide (vs.length ≤ 8) && vs.all valOk)) [.non] := by
  rw [run_def tab_isr]
  obtain ⟨e', ⟨s, he'⟩, hgo⟩ := lcGo_map (tgt := asgW [1] (.nm 1)) (tst := evTs (run Tb Ga (k + 2)) Ga []) (elt := ev (run Tb Ga (k + 2)) Ga (.call "is_value" [(.var 1)]))
    (fun e => ∃ s, e = [.fr (.tup vs), s]) (fun v => .bl (valOk v)) vs [.fr (.tup vs), .non] [] ⟨_, rfl⟩ (by
      rintro d hd e ⟨s, rfl⟩
      have := isv_run k d (h d hd)
      exact ⟨[.fr (.tup vs), .fr d], [.fr (.tup vs), .fr d], [.fr (.tup vs), .fr d], by simp, by simp, .inl (by simp [this]), _, rfl⟩) (by simp; omega)
  subst he'
  simp only [List.nil_append] at hgo
  have hb := bls_map valOk vs
  by_cases h8 : vs.length ≤ 8
  · have n8 : ¬ (8 : Int) < (vs.length : Int) := by omega
    have n8' : ¬ 8 < vs.length := by omega
    have hid : ((vs.map valOk).all id) = vs.all valOk := by simp [List.all_map]
    simp [fn_is_row, Fn.run, ga_longest, h8, n8, n8', hgo, hb, hid]
  · have n8 : (8 : Int) < (vs.length : Int) := by omega
    have n8' : 8 < vs.length := by omega
    simp [fn_is_row, Fn.run, ga_longest, h8, n8, n8']
theorem all_set {vs : List D} {j : Nat} {x : D} (hj : j < vs.length) (h : ∀ v ∈ vs, valOk v = true) : (vs.set j x).all valOk = valOk x := by
  cases hx : valOk x with
  | true =>
    refine List.all_eq_true.mpr fun v hv => ?_
    rcases List.mem_or_eq_of_mem_set hv with hv | rfl
    · exact h v hv
    · exact hx
  | false =>
    rw [Bool.eq_false_iff]
    intro z
    have := List.all_eq_true.mp z x (by rw [List.mem_iff_getElem]; exact ⟨j, by simpa using hj, by simp⟩)
    rw [hx] at this; cases this
theorem law_run (k : Nat) (ns : List Int) (hl : ns.length ≤ 63) : ∃ outs, run Tb Ga (k + 6) "law" [.fr (Lint ns)] = .ok false (.bl true) outs := by
  rw [run_def tab_law]
  obtain ⟨ds, hd⟩ : ∃ ds : List Int, run Tb Ga (k + 5) "_law_draws" [.fr (Lint ns), .fr (.int 120)] = .ok true (Lint ds) [.non, .non] := draws_run (k + 4) ns hl 120 (by decide) (by decide)
  obtain ⟨w, ds1, hwl, htx⟩ := text_run (k + 2) ds
  have T : ∀ (ds : List Int) (m : Int), 0 < m → run Tb Ga (k + 5) "_law_take" [.ow (Lint ds), .fr (.int m)] = .ok false (.int (takeV ds m)) [.ow (Lint ds.dropLast), .non] := fun ds m hm => take_run (k + 4) ds m hm
  have W1 : ∀ s : Str, run Tb Ga (k + 5) "is_word" [.fr (.str s)] = .ok false (.bl (isW s)) [.non] := fun s => isw_run (k + 4) s
  have W2 : ∀ s : Str, s.length ≤ 1000 → run Tb Ga (k + 5) "_law_is_word" [.fr (.str s)] = .ok false (.bl (isW s)) [.non] := fun s h => lisw_run (k + 4) s (by omega)
  have SM : ∀ a b : Bool, run Tb Ga (k + 5) "_law_same" [.fr (.bl a), .fr (.bl b)] = .ok false (.bl (decide (a = b))) [.non, .non] := fun a b => same_run (k + 4) a b
  have RW : ∀ vs : List D, (∀ v ∈ vs, Item v) → vs.length ≤ 1000 → run Tb Ga (k + 5) "is_row" [.fr (.tup vs)] = .ok false (.bl (decide (vs.length ≤ 8) && vs.all valOk)) [.non] := fun vs h hl => isr_run (k + 2) vs h (by omega)
  obtain ⟨b1, b2⟩ := takeV_range ds1 (m := 11) (by decide)
  obtain ⟨e', vs, ⟨ds2, s, he'⟩, hV, hlen, hgo⟩ := lcGo_ex (tgt := asgW [5] (.nm 5)) (tst := evTs (run Tb Ga (k + 5)) Ga []) (elt := ev (run Tb Ga (k + 5)) Ga (.call "_law_item" [(.pk 1), (.var 0)]))
    (fun e => ∃ ds s, e = [.fr (Lint ns), .ow (Lint ds), .fr (.str w), .non, .non, s]) (fun v => Item v ∧ valOk v = true) ((List.range (takeV ds1 11).toNat).map fun (k : Nat) => D.int (k : Int)) [.fr (Lint ns), .ow (Lint ds1.dropLast), .fr (.str w), .non, .non, .non] [] ⟨_, _, rfl⟩ (fun _ h => by simp at h) (by
      rintro d hd e ⟨ds, s, rfl⟩
      obtain ⟨j, hj, rfl⟩ := List.mem_map.mp hd
      obtain ⟨v, ds3, hv, hr⟩ : ∃ (v : D) (ds' : List Int), _ ∧ run Tb Ga (k + 5) "_law_item" [.ow (Lint ds), .fr (Lint ns)] = .ok false v [.ow (Lint ds'), .non] := item_run (k + 1) ds ns hl
      refine ⟨[.fr (Lint ns), .ow (Lint ds), .fr (.str w), .non, .non, .fr (.int j)], [.fr (Lint ns), .ow (Lint ds), .fr (.str w), .non, .non, .fr (.int j)], [.fr (Lint ns), .ow (Lint ds3), .fr (.str w), .non, .non, .fr (.int j)], v, by simp, by simp, .inl (by simp [hr]), ?_, _, _, rfl⟩
      rcases hv with ⟨z, rfl⟩ | ⟨w', rfl, hw, _⟩
      · exact ⟨.inl ⟨z, rfl⟩, rfl⟩
      · exact ⟨.inr ⟨w', rfl⟩, hw⟩) (by simp; omega)
  subst he'
  have hb : (-4611686018427387904 ≤ takeV ds1 11 ∧ takeV ds1 11 < 4611686018427387904) := by omega
  have hvl : vs.length ≤ 10 := by
    have : vs.length = (takeV ds1 11).toNat := by simpa using hlen
    omega
  have hitems : ∀ v ∈ vs, Item v := fun v hv => (hV v hv).1
  have hvals : ∀ v ∈ vs, valOk v = true := fun v hv => (hV v hv).2
  have htx : run Tb Ga (k + 5) "_law_text" [.ow (Lint ds)] = .ok false (.str w) [.ow (Lint ds1)] := htx
  have hall : vs.all valOk = true := List.all_eq_true.mpr hvals
  have l1 : vs.length ≤ 16777216 := by omega
  have hrow := RW vs hitems (by omega)
  by_cases hm1 : 0 < vs.length
  · by_cases hm2 : takeV ds2 2 = 0
    · obtain ⟨w2, ds3, hwl2, htx2⟩ : ∃ (w : Str) (ds' : List Int), w.length ≤ 1000 ∧ run Tb Ga (k + 5) "_law_text" [.ow (Lint ds2.dropLast)] = .ok false (.str w) [.ow (Lint ds')] := text_run (k + 2) ds2.dropLast
      have hm3 : (0 : Int) < (vs.length : Int) := by omega
      obtain ⟨t1, t2⟩ := takeV_range ds3 hm3
      obtain ⟨j, hj⟩ : ∃ j : Nat, takeV ds3 vs.length = (j : Int) := ⟨(takeV ds3 vs.length).toNat, by omega⟩
      have hj2 : j < vs.length := by omega
      have hix : ixN vs.length (j : Int) = some j := ixN_nat hj2
      have hrow2 := RW (vs.set j (.str w2)) (fun v hv => (List.mem_or_eq_of_mem_set hv).elim (hitems v) fun e => .inr ⟨w2, e⟩) (by rw [List.length_set]; omega)
      have hset := all_set (x := .str w2) hj2 hvals
      have hv2 : valOk (.str w2) = isW w2 := rfl
      rw [hset, hv2, List.length_set] at hrow2
      have l2 : ∀ x, (vs.set j x).length ≤ 16777216 := fun x => by rw [List.length_set]; omega
      by_cases h8 : vs.length ≤ 8
      · have n8 : ¬ (8 : Int) < (vs.length : Int) := by omega
        have n8' : ¬ 8 < vs.length := by omega
        simp [h8] at hrow2
        simp [fn_law, Fn.run, hd, htx, W1, W2, SM, hwl, T, rng1I, hb, hgo, l1, hm1, hm2, htx2, hwl2, hj, hix, n8, n8', hrow2, l2]
      · have n8 : (8 : Int) < (vs.length : Int) := by omega
        have n8' : 8 < vs.length := by omega
        simp [h8] at hrow2
        simp [fn_law, Fn.run, hd, htx, W1, W2, SM, hwl, T, rng1I, hb, hgo, l1, hm1, hm2, htx2, hwl2, hj, hix, n8, n8', hrow2, l2]
    · by_cases h8 : vs.length ≤ 8
      · have n8 : ¬ (8 : Int) < (vs.length : Int) := by omega
        have n8' : ¬ 8 < vs.length := by omega
        simp [h8, hall] at hrow
        simp [fn_law, Fn.run, hd, htx, W1, W2, SM, hwl, T, rng1I, hb, hgo, l1, hm1, hm2, n8, n8', hrow]
      · have n8 : (8 : Int) < (vs.length : Int) := by omega
        have n8' : 8 < vs.length := by omega
        simp [h8] at hrow
        simp [fn_law, Fn.run, hd, htx, W1, W2, SM, hwl, T, rng1I, hb, hgo, l1, hm1, hm2, n8, n8', hrow]
  · have h8 : vs.length ≤ 8 := by omega
    have n8 : ¬ (8 : Int) < (vs.length : Int) := by omega
    have n8' : ¬ 8 < vs.length := by omega
    simp [h8, hall] at hrow
    simp [fn_law, Fn.run, hd, htx, W1, W2, SM, hwl, T, rng1I, hb, hgo, l1, hm1, n8, n8', hrow]
end PF
set_option Elab.async false
set_option linter.all false
set_option maxRecDepth 100000
set_option maxHeartbeats 0
namespace PF
open PySem PySem.Spec PyProof.Rows L2
abbrev R : PySem.W.OpenRow := PySem.W.OpenLaw.row PySem.Challenge.rw_anyworth_k27_words_and_rows
abbrev hk : PySem.W.Hook := hookC 4 (faOf dfs bns) (dfs.map Df.he) (csB csts)
def obL (s : PySem.W.SharedT) : AlC := obsCG 4 (faOf dfs bns) (dfs.map Df.he) (csB csts) (HandSHeadRun.getT s)
theorem obL_eq (s : PySem.W.SharedT) : obL s = hk.obs s.abs := obsCG_eq (HandSHeadRun.getT_eq s)
abbrev loose : List Str := ["is_word", "is_value", "is_row", "LETTERS", "LONGEST", "_law_draws", "_law_take", "_law_size", "_law_same", "_law_is_word", "_law_number", "_law_char", "_law_letters", "_law_text", "_law_item"]
theorem run_ (w : World) : HandSHeadRun.RunEq R (PySem.W.view R.prog [17]) hk obL 800 loose w := by
  intro os
  kernel_rfl
theorem plain (ns : List Int) (hl : ns.length ≤ 63) (hb : ∀ z ∈ ns, Builtin.Int.intBits z ≤ 1048576) : ∃ outs, PF.run (tabOf dfs) (γOf csts) (99 + 1) "law" [.fr (.lst (ns.map .int))] = .ok false (.bl true) outs := law_run 94 ns hl
end PF
open PySem PySem.W PySem.Calls PyProof.Rows
theorem PySem.Challenge.cw_anyworth_k27_words_and_rows_holds : PySem.Challenge.rw_anyworth_k27_words_and_rows.Holds := by
  w_on; o_law
  refine HandSHeadRun.head_any (r := OpenLaw.row PySem.Challenge.rw_anyworth_k27_words_and_rows) (q := view (OpenLaw.row PySem.Challenge.rw_anyworth_k27_words_and_rows).prog [17]) (H := PF.hk) (ob := PF.obL) (M := 800) (loose := PF.loose) (d := HandSHeadRun.topDef (OpenLaw.row PySem.Challenge.rw_anyworth_k27_words_and_rows).prog 17) (kwd := []) PF.obL_eq
    (by kernel_rfl) (fun s => by kernel_rfl) PF.run_ (by kernel_rfl) (by kernel_rfl) (by kernel_rfl) (by rfl) (by first | assumption | decide +kernel) (by decide +kernel) ⟨rfl, rfl, rfl, rfl, rfl, by decide +kernel⟩ ?hw ?hc
  case hw => w_witness2
  case hc =>
    exact PF.pf_walk (l := PySem.Challenge.rw_anyworth_k27_words_and_rows) (n := 63) (k := 99) (nH := 4) (ds := PF.dfs) (bns := PF.bns) (cs := PF.csts) (x := "_law_script") (dl := PF.df_law) rfl (by decide) (by kernel_rfl) ⟨rfl, by decide, by decide⟩ (by kernel_rfl) rfl rfl PF.oks PF.binds PF.plain
